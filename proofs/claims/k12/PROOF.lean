import PyProof.Rows.All
import Wide.All
import OpenK.AllK
import Wide.FinOn
import HandS.ForSpec
import HandS.ForMost
import HandS.Wide
import HandS.IsInst
import HandS.FStr
import HandS.TupAny
import HandS.TryMany
import HandS.ExcInit
import HandS.ExcIs
import HandS.ExcField
import HandS.Zip
import HandS.SortInts
import KE.GoesEnum
import KE.KSuper
import KE.KExcSuper
import HandS.NestedK
import HandS.ExcSuper
import HandS.CallSlots
import HandS.WordsExc
import PySem.Challenge.RW_reelrounds_k12_matching_meets_cover
set_option Elab.async false
set_option linter.all false
set_option maxRecDepth 100000
set_option maxHeartbeats 4000000
namespace PW
open PySem PySem.Spec PyProof.Rows L2

/-! ### data -/
inductive D where
  | non | bl (b : Bool) | int (i : Int) | str (x : Str) | ty (n : String) | ref (a : Addr)
  | lst (xs : List D) | tup (xs : List D) | rls (xs : List D)
  | ins (C : Addr) (fs : List (Str × D))
  /-- a caught error at a, its dict at dd -/
  | xr (a dd C : Addr) (fs : List (Str × D))

mutual
/-- v stands for the data d, by the heap F -/
inductive Rp (K : PySem.W.Frag) (F : Hp) : V → D → Prop
  | non : Rp K F .non .non
  | bl (b : Bool) : Rp K F (.bl b) (.bl b)
  | int (i : Int) : Rp K F (.int i) (.int i)
  | str (x : Str) : Rp K F (.str x) (.str x)
  | ty (n : String) : Rp K F (.ty n) (.ty n)
  | ref (a : Addr) : Rp K F (.ref a) (.ref a)
  | lst {a : Addr} {vs : List V} {ds : List D} : F a = some (.lst vs) → Rps K F vs ds → Rp K F (.ref a) (.lst ds)
  | tup {a : Addr} {vs : List V} {ds : List D} : SqT K F a vs → Rps K F vs ds → Rp K F (.ref a) (.tup ds)
  | rls {a : Addr} {vs : List V} {ds : List D} : SqL K F a vs → Rps K F vs ds → Rp K F (.ref a) (.rls ds)
  | ins {a C dx : Addr} {vs : List (Str × V)} {ds : List (Str × D)} : F a = some (.ins C dx vs) → Rfs K F vs ds → Rp K F (.ref a) (.ins C ds)
  | xr {a dd C : Addr} {vs : List (Str × V)} {ds : List (Str × D)} : F dd = some (.xd vs) → Rfs K F vs ds → Rp K F (.ref a) (.xr a dd C ds)
inductive Rps (K : PySem.W.Frag) (F : Hp) : List V → List D → Prop
  | nil : Rps K F [] []
  | cons {v : V} {vs : List V} {d : D} {ds : List D} : Rp K F v d → Rps K F vs ds → Rps K F (v :: vs) (d :: ds)
inductive Rfs (K : PySem.W.Frag) (F : Hp) : List (Str × V) → List (Str × D) → Prop
  | nil : Rfs K F [] []
  | cons {n : Str} {v : V} {vs : List (Str × V)} {d : D} {ds : List (Str × D)} : Rp K F v d → Rfs K F vs ds → Rfs K F ((n, v) :: vs) ((n, d) :: ds)
end

section
variable {K : PySem.W.Frag} {F F' H H' : Hp}
theorem sq_t {a : Addr} {xs : List V} (e : Same F F') (h : SqT K F a xs) : SqT K F' a xs := by
  rcases h with (h | ⟨o, h⟩) | h
  · exact .inl (.inl (e _ _ h))
  · exact .inl (.inr ⟨o, e _ _ h⟩)
  · exact .inr h
mutual
theorem Rp.mono (e : Same F F') : ∀ {v : V} {d : D}, Rp K F v d → Rp K F' v d
  | _, _, .non => .non
  | _, _, .bl b => .bl b
  | _, _, .int i => .int i
  | _, _, .str x => .str x
  | _, _, .ty n => .ty n
  | _, _, .ref a => .ref a
  | _, _, .lst h hs => .lst (e _ _ h) (Rps.mono e hs)
  | _, _, .tup h hs => .tup (sq_t e h) (Rps.mono e hs)
  | _, _, .rls h hs => .rls (e.seq h) (Rps.mono e hs)
  | _, _, .ins h hs => .ins (e _ _ h) (Rfs.mono e hs)
  | _, _, .xr h hs => .xr (e _ _ h) (Rfs.mono e hs)
theorem Rps.mono (e : Same F F') : ∀ {vs : List V} {ds : List D}, Rps K F vs ds → Rps K F' vs ds
  | _, _, .nil => .nil
  | _, _, .cons h hs => .cons (Rp.mono e h) (Rps.mono e hs)
theorem Rfs.mono (e : Same F F') : ∀ {vs : List (Str × V)} {ds : List (Str × D)}, Rfs K F vs ds → Rfs K F' vs ds
  | _, _, .nil => .nil
  | _, _, .cons h hs => .cons (Rp.mono e h) (Rfs.mono e hs)
end
theorem Rps.length : ∀ {vs : List V} {ds : List D}, Rps K F vs ds → vs.length = ds.length
  | _, _, .nil => rfl
  | _, _, .cons _ hs => by rw [List.length_cons, List.length_cons, Rps.length hs]
theorem Rps.get : ∀ {vs : List V} {ds : List D} {i : Nat} {v : V}, Rps K F vs ds → vs[i]? = some v → ∃ d, ds[i]? = some d ∧ Rp K F v d
  | _, _, _, _, .nil, e => by simp at e
  | _, _, 0, _, .cons r _, e => by simp at e; subst e; exact ⟨_, rfl, r⟩
  | _, _, i + 1, v, .cons _ t, e => by
    obtain ⟨d, h1, h2⟩ := Rps.get (i := i) (v := v) t (by simpa using e)
    exact ⟨d, by simpa using h1, h2⟩
theorem Rps.get' : ∀ {vs : List V} {ds : List D} {i : Nat} {d : D}, Rps K F vs ds → ds[i]? = some d → ∃ v, vs[i]? = some v ∧ Rp K F v d
  | _, _, _, _, .nil, e => by simp at e
  | _, _, 0, _, .cons r _, e => by simp at e; subst e; exact ⟨_, rfl, r⟩
  | _, _, i + 1, d, .cons _ t, e => by
    obtain ⟨v, h1, h2⟩ := Rps.get' (i := i) (d := d) t (by simpa using e)
    exact ⟨v, by simpa using h1, h2⟩
theorem Rps.append : ∀ {vs ws : List V} {ds es : List D}, Rps K F vs ds → Rps K F ws es → Rps K F (vs ++ ws) (ds ++ es)
  | _, _, _, _, .nil, s => s
  | _, _, _, _, .cons r t, s => .cons r (Rps.append t s)
theorem Rps.set {v : V} {d : D} (r : Rp K F v d) : ∀ {vs : List V} {ds : List D} (i : Nat), Rps K F vs ds → Rps K F (vs.set i v) (ds.set i d)
  | _, _, _, .nil => .nil
  | _, _, 0, .cons _ t => .cons r t
  | _, _, i + 1, .cons q t => .cons q (Rps.set r i t)
theorem Rps.take : ∀ {vs : List V} {ds : List D} (n : Nat), Rps K F vs ds → Rps K F (vs.take n) (ds.take n)
  | _, _, 0, _ => .nil
  | _, _, _ + 1, .nil => .nil
  | _, _, n + 1, .cons r t => .cons r (Rps.take n t)
theorem Rps.drop : ∀ {vs : List V} {ds : List D} (n : Nat), Rps K F vs ds → Rps K F (vs.drop n) (ds.drop n)
  | _, _, 0, r => r
  | _, _, _ + 1, .nil => .nil
  | _, _, n + 1, .cons _ t => Rps.drop n t
theorem Rps.eraseIdx : ∀ {vs : List V} {ds : List D} (i : Nat), Rps K F vs ds → Rps K F (vs.eraseIdx i) (ds.eraseIdx i)
  | _, _, _, .nil => .nil
  | _, _, 0, .cons _ t => t
  | _, _, i + 1, .cons q t => .cons q (Rps.eraseIdx i t)
theorem Rps.dropLast : ∀ {vs : List V} {ds : List D}, Rps K F vs ds → Rps K F vs.dropLast ds.dropLast
  | _, _, .nil => .nil
  | _, _, .cons _ .nil => .nil
  | _, _, .cons q (.cons r t) => .cons q (Rps.dropLast (.cons r t))
theorem Rps.reverse {vs : List V} {ds : List D} (h : Rps K F vs ds) : Rps K F vs.reverse ds.reverse := by
  induction vs generalizing ds with
  | nil => cases h; exact .nil
  | cons v vs ih =>
    cases h with
    | cons r t =>
      rw [List.reverse_cons, List.reverse_cons]
      exact (ih t).append (.cons r .nil)
theorem Rps.rep {vs : List V} {ds : List D} (h : Rps K F vs ds) : ∀ k : Nat, Rps K F (List.replicate k vs).flatten (List.replicate k ds).flatten
  | 0 => .nil
  | k + 1 => by
    rw [List.replicate_succ, List.replicate_succ, List.flatten_cons, List.flatten_cons]
    exact h.append (Rps.rep h k)
theorem Rps.ints : ∀ (ns : List Int), Rps K F (ns.map V.int) (ns.map D.int)
  | [] => .nil
  | n :: ns => .cons (.int n) (Rps.ints ns)
theorem Rps.ints_eq : ∀ {vs : List V} {ns : List Int}, Rps K F vs (ns.map D.int) → vs = ns.map V.int
  | _, [], .nil => rfl
  | _, n :: ns, .cons (.int _) t => by rw [Rps.ints_eq (ns := ns) t]; rfl
theorem Rps.isEmpty {vs : List V} {ds : List D} (h : Rps K F vs ds) : vs.isEmpty = ds.isEmpty := by
  cases h <;> rfl
theorem Rfs.lookup : ∀ {vs : List (Str × V)} {ds : List (Str × D)} {f : Str} {d : D}, Rfs K F vs ds → ds.lookup f = some d → ∃ v, vs.lookup f = some v ∧ Rp K F v d
  | _, _, _, _, .nil, e => by simp at e
  | _, _, f, d, .cons (n := n) r t, e => by
    rw [List.lookup_cons] at e ⊢
    cases h : f == n with
    | true => rw [h] at e; simp at e; subst e; exact ⟨_, rfl, r⟩
    | false => rw [h] at e; exact Rfs.lookup t e
theorem Rfs.lookup_none : ∀ {vs : List (Str × V)} {ds : List (Str × D)} {f : Str}, Rfs K F vs ds → ds.lookup f = none → vs.lookup f = none
  | _, _, _, .nil, _ => rfl
  | _, _, f, .cons (n := n) r t, e => by
    rw [List.lookup_cons] at e ⊢
    cases h : f == n with
    | true => rw [h] at e; cases e
    | false => rw [h] at e; exact Rfs.lookup_none t e
theorem Rfs.length : ∀ {vs : List (Str × V)} {ds : List (Str × D)}, Rfs K F vs ds → vs.length = ds.length
  | _, _, .nil => rfl
  | _, _, .cons _ hs => by rw [List.length_cons, List.length_cons, Rfs.length hs]
end

/-! ### a local name: nothing, frozen data, or a list that the frame owns (an: its slot is not stored to) -/
inductive O where
  | un | fz (d : D) | ow (an : Bool) (ds : List D) | ce (a : Addr) (ds : List D)
/-- the slots, then cells: lists that the frame owns at known addresses -/
abbrev Env := List O
def O.isOw : O → Bool
  | .ow _ _ => true
  | _ => false
/-- an own error: its class, its fields -/
structure Er where
  C : Addr
  fs : List (Str × D)
/-- what stays through a body: the anchored slots, a heap that F extends, the callers' owned objects -/
structure PCx where
  A : Nat → Option V
  F0 : Hp
  Fr : Hp
  n : Nat

/-- slot i owns the address p -/
def Owns (σ : L2.St) (env : Env) (i : Nat) (p : Addr) : Prop := ((∃ an ds, env[i]? = some (.ow an ds)) ∧ σ[i]? = some (some (.ref p))) ∨ ∃ ds, env[i]? = some (.ce p ds)

structure StR (K : PySem.W.Frag) (c : PCx) (F H : Hp) (σ : L2.St) (env : Env) : Prop where
  len : σ.length = c.n ∧ σ.length ≤ env.length
  gr0 : Same c.F0 F
  gr : Same F H
  fz : ∀ (i : Nat) (d : D), env[i]? = some (.fz d) → ∃ v, σ[i]? = some (some v) ∧ Rp K F v d
  ow : ∀ (i : Nat) (an : Bool) (ds : List D), env[i]? = some (.ow an ds) → ∃ p vs, σ[i]? = some (some (.ref p)) ∧ F p = none ∧ c.Fr p = none ∧ H p = some (.lst vs) ∧ Rps K F vs ds
  an : ∀ (i : Nat) (v : V), c.A i = some v → (∃ ds, env[i]? = some (.ow true ds)) ∧ σ[i]? = some (some v)
  ce : ∀ (i : Nat) (a : Addr) (ds : List D), env[i]? = some (.ce a ds) → σ.length ≤ i ∧ F a = none ∧ c.Fr a = none ∧ ∃ vs, H a = some (.lst vs) ∧ Rps K F vs ds
  hi : ∀ (i : Nat) (o : O), env[i]? = some o → σ.length ≤ i → ∃ a ds, o = .ce a ds
  ap : ∀ (i j : Nat) (p : Addr), Owns σ env i p → Owns σ env j p → i = j
  fr : ∀ b o, c.Fr b = some o → F b = none ∧ H b = some o

/-- what a value of an expression is -/
def OvR (K : PySem.W.Frag) (c : PCx) (F H : Hp) (σ : L2.St) (env : Env) (v : V) : O → Prop
  | .un => False
  | .ce _ _ => False
  | .fz d => Rp K F v d
  | .ow _ ds => ∃ p vs, v = .ref p ∧ F p = none ∧ c.Fr p = none ∧ H p = some (.lst vs) ∧ Rps K F vs ds ∧ ∀ i, ¬ Owns σ env i p
/-- a value that may be read now -/
def BrR (K : PySem.W.Frag) (F H : Hp) (v : V) (d : D) : Prop := Rp K F v d ∨ ∃ p vs ds, v = .ref p ∧ d = .lst ds ∧ H p = some (.lst vs) ∧ Rps K F vs ds
def ErR (K : PySem.W.Frag) (Fr F H : Hp) (cls : Value) (d : Option Addr) (e : Er) : Prop := cls = .ref e.C ∧ ∃ dd vs, d = some dd ∧ H dd = some (.xd vs) ∧ Rfs K F vs e.fs ∧ Fr dd = none

section
variable {K : PySem.W.Frag} {c : PCx} {F F' H H' : Hp} {σ : L2.St} {env : Env}
theorem upd_new {H : Hp} {q : Addr} {o : HO} (h : H q = none) : Same H (upd H q o) := fun b u e => by
  rw [upd_ne (ne_of_none e h)]
  exact e
theorem upd_both {F H : Hp} {q : Addr} {o : HO} (e : Same F H) : Same (upd F q o) (upd H q o) := fun b u hb => by
  by_cases z : b = q
  · subst z; rw [upd_same] at hb ⊢; exact hb
  · rw [upd_ne z] at hb ⊢; exact e b u hb
/-- an object that is new, frozen at once -/
theorem StR.alloc (S : StR K c F H σ env) {q : Addr} {o : HO} (h : H q = none) : StR K c (upd F q o) (upd H q o) σ env := by
  have hF : F q = none := S.gr.free h
  refine ⟨S.len, S.gr0.trans (upd_new hF), upd_both S.gr, fun i d e => ?_, fun i an ds e => ?_, S.an, fun i p ds e => ?_, S.hi, S.ap, fun b u e => ?_⟩
  · obtain ⟨v, h1, h2⟩ := S.fz i d e
    exact ⟨v, h1, h2.mono (upd_new hF)⟩
  · obtain ⟨p, vs, h1, h2, h3, h4, h5⟩ := S.ow i an ds e
    have ne : p ≠ q := ne_of_none h4 h
    exact ⟨p, vs, h1, by rw [upd_ne ne]; exact h2, h3, by rw [upd_ne ne]; exact h4, h5.mono (upd_new hF)⟩
  · obtain ⟨h1, h2, h3, vs, h4, h5⟩ := S.ce i p ds e
    have ne : p ≠ q := ne_of_none h4 h
    exact ⟨h1, by rw [upd_ne ne]; exact h2, h3, vs, by rw [upd_ne ne]; exact h4, h5.mono (upd_new hF)⟩
  · obtain ⟨h1, h2⟩ := S.fr b u e
    have ne : b ≠ q := ne_of_none h2 h
    exact ⟨by rw [upd_ne ne]; exact h1, by rw [upd_ne ne]; exact h2⟩
/-- an object that is new, not known to any -/
theorem StR.leak (S : StR K c F H σ env) {q : Addr} {o : HO} (h : H q = none) : StR K c F (upd H q o) σ env := by
  refine ⟨S.len, S.gr0, S.gr.trans (upd_new h), S.fz, fun i an ds e => ?_, S.an, fun i p ds e => ?_, S.hi, S.ap, fun b u e => ?_⟩
  · obtain ⟨p, vs, h1, h2, h3, h4, h5⟩ := S.ow i an ds e
    exact ⟨p, vs, h1, h2, h3, (upd_new h) _ _ h4, h5⟩
  · obtain ⟨h1, h2, h3, vs, h4, h5⟩ := S.ce i p ds e
    exact ⟨h1, h2, h3, vs, (upd_new h) _ _ h4, h5⟩
  · obtain ⟨h1, h2⟩ := S.fr b u e
    exact ⟨h1, (upd_new h) _ _ h2⟩
theorem StR.frNone (S : StR K c F H σ env) {q : Addr} (h : H q = none) : c.Fr q = none := by
  cases e : c.Fr q with
  | none => rfl
  | some o => rw [(S.fr q o e).2] at h; cases h
theorem StR.notOwn (S : StR K c F H σ env) {q : Addr} (h : H q = none) (i : Nat) : ¬ Owns σ env i q := fun o => by
  rcases o with ⟨⟨an, ds, e⟩, e2⟩ | ⟨ds, e⟩
  · obtain ⟨p, vs, h1, _, _, h4, _⟩ := S.ow i an ds e
    rw [e2] at h1
    cases h1
    rw [h4] at h; cases h
  · obtain ⟨_, _, _, vs, h4, _⟩ := S.ce i q ds e
    rw [h4] at h; cases h
/-- what an owner holds -/
theorem StR.owns (S : StR K c F H σ env) {i : Nat} {q : Addr} (o : Owns σ env i q) : F q = none ∧ c.Fr q = none ∧ ∃ vs ds, H q = some (.lst vs) ∧ Rps K F vs ds := by
  rcases o with ⟨⟨an, ds, e⟩, e2⟩ | ⟨ds, e⟩
  · obtain ⟨p, vs, h1, h2, h3, h4, h5⟩ := S.ow i an ds e
    rw [e2] at h1
    cases h1
    exact ⟨h2, h3, vs, ds, h4, h5⟩
  · obtain ⟨_, h2, h3, vs, h4, h5⟩ := S.ce i q ds e
    exact ⟨h2, h3, vs, ds, h4, h5⟩
/-- a new list, owned by nobody yet -/
theorem StR.fresh (S : StR K c F H σ env) {q : Addr} {vs : List V} {ds : List D} {an : Bool} (h : H q = none) (r : Rps K F vs ds) : StR K c F (upd H q (.lst vs)) σ env ∧ OvR K c F (upd H q (.lst vs)) σ env (.ref q) (.ow an ds) :=
  ⟨S.leak h, q, vs, rfl, S.gr.free h, S.frNone h, upd_same, r, S.notOwn h⟩
/-- an owned value is frozen -/
theorem StR.freeze (S : StR K c F H σ env) {p : Addr} {vs : List V} {ds : List D} (h2 : F p = none) (h3 : c.Fr p = none) (h4 : H p = some (.lst vs)) (h5 : Rps K F vs ds) (h6 : ∀ i, ¬ Owns σ env i p) :
    StR K c (upd F p (.lst vs)) H σ env ∧ Rp K (upd F p (.lst vs)) (.ref p) (.lst ds) := by
  have g := upd_new (o := .lst vs) h2
  refine ⟨⟨S.len, S.gr0.trans g, fun b o e => ?_, fun i d e => ?_, fun i an es e => ?_, S.an, fun i q es e => ?_, S.hi, S.ap, fun b u e => ?_⟩, .lst upd_same (h5.mono g)⟩
  · by_cases z : b = p
    · subst z; rw [upd_same] at e; cases e; exact h4
    · rw [upd_ne z] at e; exact S.gr b o e
  · obtain ⟨v, k1, k2⟩ := S.fz i d e
    exact ⟨v, k1, k2.mono g⟩
  · obtain ⟨q, ws, k1, k2, k3, k4, k5⟩ := S.ow i an es e
    have ne : q ≠ p := fun z => h6 i (.inl ⟨⟨an, es, e⟩, by rw [k1, z]⟩)
    exact ⟨q, ws, k1, by rw [upd_ne ne]; exact k2, k3, k4, k5.mono g⟩
  · obtain ⟨k1, k2, k3, ws, k4, k5⟩ := S.ce i q es e
    have ne : q ≠ p := fun z => h6 i (.inr ⟨es, by rw [e, z]⟩)
    exact ⟨k1, by rw [upd_ne ne]; exact k2, k3, ws, k4, k5.mono g⟩
  · obtain ⟨k1, k2⟩ := S.fr b u e
    have ne : b ≠ p := ne_of_none e h3
    exact ⟨by rw [upd_ne ne]; exact k1, k2⟩
theorem get_set {α : Type} {l : List α} {i j : Nat} {a : α} : (l.set i a)[j]? = if i = j then (if j < l.length then some a else none) else l[j]? := by
  rw [List.getElem?_set]
  by_cases h : i = j
  · rw [if_pos h, if_pos h]
    subst h
    rfl
  · rw [if_neg h, if_neg h]
theorem set_self {α : Type} {l : List α} {i : Nat} {a b : α} (h : l[i]? = some b) : (l.set i a)[i]? = some a := by
  have hl : i < l.length := (List.getElem?_eq_some_iff.mp h).1
  rw [get_set, if_pos rfl, if_pos hl]
theorem set_other {α : Type} {l : List α} {i j : Nat} {a : α} (h : i ≠ j) : (l.set i a)[j]? = l[j]? := by rw [get_set, if_neg h]
/-- a slot that is not anchored is stored to -/
theorem StR.store (S : StR K c F H σ env) {i : Nat} {v : V} {r old : O} (he : env[i]? = some old) (hn : ∀ ds, old ≠ .ow true ds) (hnc : ∀ a ds, old ≠ .ce a ds) (hr : OvR K c F H σ env v r) (han : ∀ ds, r ≠ .ow true ds) : StR K c F H (σ.set i (some v)) (env.set i r) := by
  have hi : i < env.length := (List.getElem?_eq_some_iff.mp he).1
  have hs : i < σ.length := Nat.lt_of_not_le fun z => by
    obtain ⟨a, ds, e⟩ := S.hi i old he z
    exact hnc a ds e
  have hrc : ∀ a ds, r ≠ .ce a ds := fun a ds z => by subst z; exact hr
  have sget : ∀ j, j ≠ i → (σ.set i (some v))[j]? = σ[j]? := fun j h => set_other (Ne.symm h)
  have eget : ∀ j, j ≠ i → (env.set i r)[j]? = env[j]? := fun j h => set_other (Ne.symm h)
  have sself : (σ.set i (some v))[i]? = some (some v) := by rw [get_set, if_pos rfl, if_pos hs]
  have eself : (env.set i r)[i]? = some r := by rw [get_set, if_pos rfl, if_pos hi]
  have own : ∀ j p, Owns (σ.set i (some v)) (env.set i r) j p → (j ≠ i ∧ Owns σ env j p) ∨ (j = i ∧ v = .ref p ∧ ∃ an ds, r = .ow an ds) := fun j p o => by
    by_cases z : j = i
    · subst z
      rcases o with ⟨⟨an, ds, e⟩, e2⟩ | ⟨ds, e⟩
      · rw [eself] at e; rw [sself] at e2
        cases e
        exact .inr ⟨rfl, Option.some.inj (Option.some.inj e2), an, ds, rfl⟩
      · rw [eself] at e; exact (hrc _ _ (Option.some.inj e)).elim
    · rcases o with ⟨⟨an, ds, e⟩, e2⟩ | ⟨ds, e⟩
      · rw [eget j z] at e; rw [sget j z] at e2
        exact .inl ⟨z, .inl ⟨⟨an, ds, e⟩, e2⟩⟩
      · rw [eget j z] at e; exact .inl ⟨z, .inr ⟨ds, e⟩⟩
  refine ⟨by simp only [List.length_set]; exact S.len, S.gr0, S.gr, fun j d e => ?_, fun j an ds e => ?_, fun j w e => ?_, fun j q ds e => ?_, fun j o e h => ?_, fun j k p o1 o2 => ?_, S.fr⟩
  · by_cases z : j = i
    · subst z
      rw [eself] at e; cases e
      exact ⟨v, sself, hr⟩
    · rw [eget j z] at e
      rw [sget j z]
      exact S.fz j d e
  · by_cases z : j = i
    · subst z
      rw [eself] at e; cases e
      obtain ⟨p, vs, rfl, h2, h3, h4, h5, _⟩ := hr
      exact ⟨p, vs, sself, h2, h3, h4, h5⟩
    · rw [eget j z] at e
      rw [sget j z]
      exact S.ow j an ds e
  · obtain ⟨⟨ds, e1⟩, e2⟩ := S.an j w e
    have z : j ≠ i := fun z => by
      subst z
      rw [he] at e1; cases e1
      exact hn _ rfl
    exact ⟨⟨ds, by rw [eget j z]; exact e1⟩, by rw [sget j z]; exact e2⟩
  · by_cases z : j = i
    · subst z
      rw [eself] at e; exact (hrc _ _ (Option.some.inj e)).elim
    · rw [eget j z] at e
      rw [List.length_set]
      exact S.ce j q ds e
  · rw [List.length_set] at h
    have z : j ≠ i := fun z => by subst z; exact absurd hs (Nat.not_lt.mpr h)
    rw [eget j z] at e
    exact S.hi j o e h
  · rcases own j p o1 with ⟨z, q⟩ | ⟨z, e, an, ds, er⟩
    · rcases own k p o2 with ⟨z2, q2⟩ | ⟨z2, e, an, ds, er⟩
      · exact S.ap j k p q q2
      · subst er e
        obtain ⟨p', vs, ep, _, _, _, _, h6⟩ := hr
        cases ep
        exact absurd q (h6 j)
    · rcases own k p o2 with ⟨z2, q2⟩ | ⟨z2, _⟩
      · subst er e
        obtain ⟨p', vs, ep, _, _, _, _, h6⟩ := hr
        cases ep
        exact absurd q2 (h6 k)
      · rw [z, z2]
/-- an owned list is written -/
theorem StR.write (S : StR K c F H σ env) {i : Nat} {an : Bool} {ds es : List D} {p : Addr} {ws : List V} (he : env[i]? = some (.ow an ds)) (hp : σ[i]? = some (some (.ref p))) (r : Rps K F ws es) : StR K c F (upd H p (.lst ws)) σ (env.set i (.ow an es)) := by
  obtain ⟨p', vs, h1, h2, h3, h4, h5⟩ := S.ow i an ds he
  rw [hp] at h1; cases h1
  have hi : i < env.length := (List.getElem?_eq_some_iff.mp he).1
  have eself : (env.set i (.ow an es))[i]? = some (.ow an es) := set_self he
  have own : ∀ j q, Owns σ (env.set i (.ow an es)) j q → Owns σ env j q := fun j q o => by
    by_cases z : i = j
    · subst z
      rcases o with ⟨_, e2⟩ | ⟨d, e⟩
      · exact .inl ⟨⟨an, ds, he⟩, e2⟩
      · rw [eself] at e; cases e
    · unfold Owns at o
      rw [set_other z] at o; exact o
  refine ⟨by simp only [List.length_set]; exact S.len, S.gr0, fun b o e => ?_, fun j d e => ?_, fun j a d e => ?_, fun j w e => ?_, fun j q d e => ?_, fun j o e h => ?_, fun j k q o1 o2 => S.ap j k q (own j q o1) (own k q o2), fun b o e => ?_⟩
  · rw [upd_ne (ne_of_none e h2)]; exact S.gr b o e
  · by_cases z : i = j
    · subst z; rw [eself] at e; cases e
    · rw [set_other z] at e; exact S.fz j d e
  · by_cases z : i = j
    · subst z; rw [eself] at e; cases e
      exact ⟨p, ws, hp, h2, h3, upd_same, r⟩
    · rw [set_other z] at e
      obtain ⟨q, us, k1, k2, k3, k4, k5⟩ := S.ow j a d e
      have ne : q ≠ p := fun zz => z (S.ap i j p (.inl ⟨⟨an, ds, he⟩, hp⟩) (.inl ⟨⟨a, d, e⟩, by rw [k1, zz]⟩))
      exact ⟨q, us, k1, k2, k3, by rw [upd_ne ne]; exact k4, k5⟩
  · obtain ⟨⟨d, e1⟩, e2⟩ := S.an j w e
    refine ⟨?_, e2⟩
    by_cases z : i = j
    · subst z; rw [he] at e1; cases e1; exact ⟨es, eself⟩
    · exact ⟨d, by rw [set_other z]; exact e1⟩
  · by_cases z : i = j
    · subst z; rw [eself] at e; cases e
    · rw [set_other z] at e
      obtain ⟨k1, k2, k3, us, k4, k5⟩ := S.ce j q d e
      have ne : q ≠ p := fun zz => z (S.ap i j p (.inl ⟨⟨an, ds, he⟩, hp⟩) (.inr ⟨d, by rw [e, zz]⟩))
      exact ⟨k1, k2, k3, us, by rw [upd_ne ne]; exact k4, k5⟩
  · by_cases z : i = j
    · subst z
      obtain ⟨a, d, e'⟩ := S.hi i _ he h
      cases e'
    · rw [set_other z] at e; exact S.hi j o e h
  · obtain ⟨k1, k2⟩ := S.fr b o e
    exact ⟨k1, by rw [upd_ne (ne_of_none e h3)]; exact k2⟩
/-- an owned slot is frozen -/
theorem StR.freezeAt (S : StR K c F H σ env) {i : Nat} {ds : List D} (he : env[i]? = some (.ow false ds)) : ∃ p vs, σ[i]? = some (some (.ref p)) ∧ StR K c (upd F p (.lst vs)) H σ (env.set i (.fz (.lst ds))) ∧ Rp K (upd F p (.lst vs)) (.ref p) (.lst ds) := by
  obtain ⟨p, vs, h1, h2, h3, h4, h5⟩ := S.ow i false ds he
  have g := upd_new (o := .lst vs) h2
  have eself : (env.set i (.fz (.lst ds)))[i]? = some (.fz (.lst ds)) := set_self he
  have rp : Rp K (upd F p (.lst vs)) (.ref p) (.lst ds) := .lst upd_same (h5.mono g)
  have own : ∀ j q, Owns σ (env.set i (.fz (.lst ds))) j q → i ≠ j ∧ Owns σ env j q := fun j q o => by
    unfold Owns at o
    by_cases z : i = j
    · subst z; rw [eself] at o; rcases o with ⟨⟨_, _, e⟩, _⟩ | ⟨_, e⟩ <;> cases e
    · rw [set_other z] at o; exact ⟨z, o⟩
  refine ⟨p, vs, h1, ⟨by simp only [List.length_set]; exact S.len, S.gr0.trans g, fun b o e => ?_, fun j d e => ?_, fun j a d e => ?_, fun j w e => ?_, fun j q d e => ?_, fun j o e h => ?_, fun j k q o1 o2 => S.ap j k q (own j q o1).2 (own k q o2).2, fun b o e => ?_⟩, rp⟩
  · by_cases z : b = p
    · subst z; rw [upd_same] at e; cases e; exact h4
    · rw [upd_ne z] at e; exact S.gr b o e
  · by_cases z : i = j
    · subst z; rw [eself] at e; cases e; exact ⟨_, h1, rp⟩
    · rw [set_other z] at e
      obtain ⟨v, k1, k2⟩ := S.fz j d e
      exact ⟨v, k1, k2.mono g⟩
  · by_cases z : i = j
    · subst z; rw [eself] at e; cases e
    · rw [set_other z] at e
      obtain ⟨q, us, k1, k2, k3, k4, k5⟩ := S.ow j a d e
      have ne : q ≠ p := fun zz => z (S.ap i j p (.inl ⟨⟨false, ds, he⟩, h1⟩) (.inl ⟨⟨a, d, e⟩, by rw [k1, zz]⟩))
      exact ⟨q, us, k1, by rw [upd_ne ne]; exact k2, k3, k4, k5.mono g⟩
  · obtain ⟨⟨d, e1⟩, e2⟩ := S.an j w e
    refine ⟨?_, e2⟩
    by_cases z : i = j
    · subst z; rw [he] at e1; cases e1
    · exact ⟨d, by rw [set_other z]; exact e1⟩
  · by_cases z : i = j
    · subst z; rw [eself] at e; cases e
    · rw [set_other z] at e
      obtain ⟨k1, k2, k3, us, k4, k5⟩ := S.ce j q d e
      have ne : q ≠ p := fun zz => z (S.ap i j p (.inl ⟨⟨false, ds, he⟩, h1⟩) (.inr ⟨d, by rw [e, zz]⟩))
      exact ⟨k1, by rw [upd_ne ne]; exact k2, k3, us, k4, k5.mono g⟩
  · by_cases z : i = j
    · subst z
      obtain ⟨a, d, e'⟩ := S.hi i _ he h
      cases e'
    · rw [set_other z] at e; exact S.hi j o e h
  · obtain ⟨k1, k2⟩ := S.fr b o e
    exact ⟨by rw [upd_ne (ne_of_none e h3)]; exact k1, k2⟩
/-- another base, below F -/
theorem StR.base (S : StR K c F H σ env) (F1 : Hp) (h : Same F1 F) : StR K { c with F0 := F1 } F H σ env := ⟨S.len, h, S.gr, S.fz, S.ow, S.an, S.ce, S.hi, S.ap, S.fr⟩
theorem StR.here (S : StR K c F H σ env) : StR K { c with F0 := F } F H σ env := S.base F (Same.refl F)
theorem StR.back {c : PCx} {F1 : Hp} (S : StR K { c with F0 := F1 } F H σ env) (h : Same c.F0 F1) : StR K c F H σ env := ⟨S.len, h.trans S.gr0, S.gr, S.fz, S.ow, S.an, S.ce, S.hi, S.ap, S.fr⟩
/-- an object held by the frame -/
theorem StR.hold (S : StR K c F H σ env) {p : Addr} {o : HO} (h1 : F p = none) (h2 : H p = some o) (h6 : ∀ i, ¬ Owns σ env i p) : StR K { c with Fr := upd c.Fr p o } F H σ env := by
  refine ⟨S.len, S.gr0, S.gr, S.fz, fun i an ds e => ?_, S.an, fun i q ds e => ?_, S.hi, S.ap, fun b u e => ?_⟩
  · obtain ⟨q, vs, k1, k2, k3, k4, k5⟩ := S.ow i an ds e
    have ne : q ≠ p := fun z => h6 i (.inl ⟨⟨an, ds, e⟩, by rw [k1, z]⟩)
    exact ⟨q, vs, k1, k2, by show upd c.Fr p o q = none; rw [upd_ne ne]; exact k3, k4, k5⟩
  · obtain ⟨k1, k2, k3, vs, k4, k5⟩ := S.ce i q ds e
    have ne : q ≠ p := fun z => h6 i (.inr ⟨ds, by rw [e, z]⟩)
    exact ⟨k1, k2, by show upd c.Fr p o q = none; rw [upd_ne ne]; exact k3, vs, k4, k5⟩
  · by_cases z : b = p
    · subst z
      have e' : upd c.Fr b o b = some u := e
      rw [upd_same] at e'; cases e'
      exact ⟨h1, h2⟩
    · have e' : upd c.Fr p o b = some u := e
      rw [upd_ne z] at e'
      exact S.fr b u e'
theorem StR.unhold {p : Addr} {o : HO} (S : StR K { c with Fr := upd c.Fr p o } F H σ env) (h : c.Fr p = none) : StR K c F H σ env ∧ F p = none ∧ H p = some o ∧ ∀ i, ¬ Owns σ env i p := by
  obtain ⟨k1, k2⟩ := S.fr p o upd_same
  refine ⟨⟨S.len, S.gr0, S.gr, S.fz, fun i an ds e => ?_, S.an, fun i q ds e => ?_, S.hi, S.ap, fun b u e => ?_⟩, k1, k2, fun i o' => ?_⟩
  · obtain ⟨q, vs, k1, k2, k3, k4, k5⟩ := S.ow i an ds e
    have ne : q ≠ p := fun z => by
      have k3' : upd c.Fr p o q = none := k3
      rw [z, upd_same] at k3'; cases k3'
    have k3' : upd c.Fr p o q = none := k3
    rw [upd_ne ne] at k3'
    exact ⟨q, vs, k1, k2, k3', k4, k5⟩
  · obtain ⟨k1, k2, k3, vs, k4, k5⟩ := S.ce i q ds e
    have ne : q ≠ p := fun z => by
      have k3' : upd c.Fr p o q = none := k3
      rw [z, upd_same] at k3'; cases k3'
    have k3' : upd c.Fr p o q = none := k3
    rw [upd_ne ne] at k3'
    exact ⟨k1, k2, k3', vs, k4, k5⟩
  · have ne : b ≠ p := ne_of_none e h
    exact S.fr b u (by show upd c.Fr p o b = some u; rw [upd_ne ne]; exact e)
  · have k3' : upd c.Fr p o p = none := (S.owns o').2.1
    rw [upd_same] at k3'; cases k3'
theorem BrR.of {v : V} {d : D} (h : Rp K F v d) : BrR K F H v d := .inl h
theorem BrR.list {v : V} {ds : List D} (g : Same F H) (h : BrR K F H v (.lst ds)) : ∃ p vs, v = .ref p ∧ H p = some (.lst vs) ∧ Rps K F vs ds := by
  rcases h with h | ⟨p, vs, es, rfl, e, h1, h2⟩
  · cases h with
    | lst hq hs => exact ⟨_, _, rfl, g _ _ hq, hs⟩
  · cases e; exact ⟨p, vs, rfl, h1, h2⟩
theorem BrR.rp {v : V} {d : D} (h : BrR K F H v d) (n : ∀ ds, d ≠ .lst ds) : Rp K F v d := by
  rcases h with h | ⟨p, vs, es, rfl, e, h1, h2⟩
  · exact h
  · exact absurd e (n es)
theorem BrR.int {v : V} {i : Int} (h : BrR K F H v (.int i)) : v = .int i := by cases h.rp (fun _ e => nomatch e) <;> rfl
theorem BrR.bl {v : V} {i : Bool} (h : BrR K F H v (.bl i)) : v = .bl i := by cases h.rp (fun _ e => nomatch e) <;> rfl
theorem BrR.str {v : V} {i : Str} (h : BrR K F H v (.str i)) : v = .str i := by cases h.rp (fun _ e => nomatch e) <;> rfl
theorem BrR.non {v : V} (h : BrR K F H v .non) : v = .non := by cases h.rp (fun _ e => nomatch e) <;> rfl
theorem BrR.ty {v : V} {n : String} (h : BrR K F H v (.ty n)) : v = .ty n := by cases h.rp (fun _ e => nomatch e) <;> rfl
theorem BrR.refD {v : V} {a : Addr} (h : BrR K F H v (.ref a)) : v = .ref a := by cases h.rp (fun _ e => nomatch e) <;> rfl
theorem BrR.tup {v : V} {ds : List D} (h : BrR K F H v (.tup ds)) : ∃ p vs, v = .ref p ∧ SqT K F p vs ∧ Rps K F vs ds := by
  cases h.rp (fun _ e => nomatch e) with
  | tup hq hs => exact ⟨_, _, rfl, hq, hs⟩
theorem BrR.rls {v : V} {ds : List D} (h : BrR K F H v (.rls ds)) : ∃ p vs, v = .ref p ∧ SqL K F p vs ∧ Rps K F vs ds := by
  cases h.rp (fun _ e => nomatch e) with
  | rls hq hs => exact ⟨_, _, rfl, hq, hs⟩
end
end PW
set_option Elab.async false
set_option linter.all false
set_option maxRecDepth 100000
set_option maxHeartbeats 4000000
namespace PW
open PySem PySem.Spec PyProof.Rows L2

/-! ### pure readings -/
abbrev PM (α : Type) := Env → (α → Env → Prop) → (Er → Env → Prop) → Prop
abbrev Arg := D ⊕ Nat
abbrev PEx := PM D
abbrev POx := PM O
abbrev PTx := PM Bool
abbrev PGx := PM Arg
abbrev PAs := PM (List Arg)
def Mono {α : Type} (p : PM α) : Prop := ∀ env Q Q' E E', (∀ a e, Q a e → Q' a e) → (∀ x e, E x e → E' x e) → p env Q E → p env Q' E'
structure PEnds where
  nx : Env → Prop
  rt : O → Env → Prop
  ex : Er → Env → Prop
  bk : Env → Prop := fun _ => False
  ct : Env → Prop := fun _ => False
structure PEnds.le (D D' : PEnds) : Prop where
  nx : ∀ e, D.nx e → D'.nx e
  rt : ∀ r e, D.rt r e → D'.rt r e
  ex : ∀ x e, D.ex x e → D'.ex x e
  bk : ∀ e, D.bk e → D'.bk e
  ct : ∀ e, D.ct e → D'.ct e
theorem PEnds.le.refl (D : PEnds) : D.le D := ⟨fun _ h => h, fun _ _ h => h, fun _ _ h => h, fun _ h => h, fun _ h => h⟩
abbrev PSt := PEnds → Env → Prop
def MonoS (p : PSt) : Prop := ∀ D D' env, D.le D' → p D env → p D' env

/-- the contents of a cell -/
def cellOf : Env → Addr → Option (List D)
  | [], _ => none
  | .ce b ds :: e, a => if b = a then some ds else cellOf e a
  | _ :: e, a => cellOf e a
theorem cellOf_get : ∀ {e : Env} {a : Addr} {ds : List D}, cellOf e a = some ds → ∃ i : Nat, e[i]? = some (.ce a ds)
  | [], _, _, h => by cases h
  | .ce b ds :: e, a, es, h => by
    unfold cellOf at h
    by_cases z : b = a
    · rw [if_pos z] at h; cases h; subst z; exact ⟨0, rfl⟩
    · rw [if_neg z] at h
      obtain ⟨i, k⟩ := cellOf_get h
      exact ⟨i + 1, by simpa using k⟩
  | .un :: e, a, es, h => by obtain ⟨i, k⟩ := cellOf_get (e := e) h; exact ⟨i + 1, by simpa using k⟩
  | .fz _ :: e, a, es, h => by obtain ⟨i, k⟩ := cellOf_get (e := e) h; exact ⟨i + 1, by simpa using k⟩
  | .ow _ _ :: e, a, es, h => by obtain ⟨i, k⟩ := cellOf_get (e := e) h; exact ⟨i + 1, by simpa using k⟩
/-- data, a cell looked into -/
def rv (e : Env) (d : D) : D := match d with
  | .ref a => match cellOf e a with
    | some ds => .lst ds
    | none => .ref a
  | d => d
def noCe : Env → Bool
  | [] => true
  | .ce _ _ :: _ => false
  | _ :: e => noCe e
theorem cellOf_no : ∀ {e : Env} {a : Addr}, noCe e = true → cellOf e a = none
  | [], _, _ => rfl
  | .ce _ _ :: _, _, h => by cases h
  | .un :: e, a, h => cellOf_no (e := e) h
  | .fz _ :: e, a, h => cellOf_no (e := e) h
  | .ow _ _ :: e, a, h => cellOf_no (e := e) h
theorem rv_nc {e : Env} {d : D} (h : noCe e = true) : rv e d = d := by
  cases d <;> first | rfl | (unfold rv; dsimp only; rw [cellOf_no h])
/-- an argument's data now -/
def rsO (e : Env) : Option O → Option D
  | some (.fz d) => some (rv e d)
  | some (.ow _ ds) => some (.lst ds)
  | _ => none
def res (e : Env) : Arg → Option D
  | .inl d => some (rv e d)
  | .inr j => rsO e e[j]?

section
variable (K : PySem.W.Frag)
/-- how values lie to what a pure reading gives -/
abbrev Rel (β α : Type) := PCx → Hp → Hp → L2.St → Env → β → α → Prop
def RF : Rel V D := fun _ F _ _ _ v d => Rp K F v d
def RO : Rel V O := fun c F H σ e v r => OvR K c F H σ e v r
def RT : Rel Bool Bool := fun _ _ _ _ _ b a => b = a
def ArgR (F : Hp) (σ : L2.St) (v : V) : Arg → Prop
  | .inl d => Rp K F v d
  | .inr j => σ[j]? = some (some v)
def RG : Rel V Arg := fun _ F _ σ _ v a => ArgR K F σ v a
inductive ArgsR (F : Hp) (σ : L2.St) : List V → List Arg → Prop
  | nil : ArgsR F σ [] []
  | cons {v : V} {vs : List V} {a : Arg} {as : List Arg} : ArgR K F σ v a → ArgsR F σ vs as → ArgsR F σ (v :: vs) (a :: as)
def RL : Rel (List V) (List Arg) := fun _ F _ σ _ vs as => ArgsR K F σ vs as
/-- the reading of the heap that a pure reading is -/
def tM (W : WX) {α β : Type} (R : Rel β α) (p : PM α) : L2.St → Hp → (β → Hp → Prop) → Prop := fun σ H Q =>
  ∃ (c : PCx) (F : Hp) (e : Env), StR K c F H σ e ∧ p e (fun a e' => ∀ F' H' v, StR K c F' H' σ e' → R c F' H' σ e' v a → Q v H') (fun x e' => ∀ F' H' cls d, StR K c F' H' σ e' → ErR K c.Fr F' H' cls d x → W cls d σ H')
end
section
variable {K : PySem.W.Frag} {W : WX}
theorem tM.go {α β : Type} {R : Rel β α} {p : PM α} {c : PCx} {F H : Hp} {σ : L2.St} {e : Env} {Q : β → Hp → Prop} {Qp : α → Env → Prop} {Ep : Er → Env → Prop} (m : Mono p) (S : StR K c F H σ e) (h : p e Qp Ep)
    (hq : ∀ a e' F' H' v, StR K { c with F0 := F } F' H' σ e' → R { c with F0 := F } F' H' σ e' v a → Qp a e' → Q v H')
    (he : ∀ x e' F' H' cls d, StR K { c with F0 := F } F' H' σ e' → ErR K c.Fr F' H' cls d x → Ep x e' → W cls d σ H') : tM K W R p σ H Q :=
  ⟨{ c with F0 := F }, F, e, S.here, m _ _ _ _ _ (fun a e' q F' H' v S' r => hq a e' F' H' v S' r q) (fun x e' q F' H' cls d S' r => he x e' F' H' cls d S' r q) h⟩
theorem ArgR.mono {F F' : Hp} {σ : L2.St} {v : V} (e : Same F F') : ∀ {a : Arg}, ArgR K F σ v a → ArgR K F' σ v a
  | .inl _, h => Rp.mono e h
  | .inr _, h => h
theorem ArgsR.mono {F F' : Hp} {σ : L2.St} (e : Same F F') : ∀ {vs : List V} {as : List Arg}, ArgsR K F σ vs as → ArgsR K F' σ vs as
  | _, _, .nil => .nil
  | _, _, .cons h hs => .cons (h.mono e) (ArgsR.mono e hs)
theorem ArgsR.length {F : Hp} {σ : L2.St} : ∀ {vs : List V} {as : List Arg}, ArgsR K F σ vs as → vs.length = as.length
  | _, _, .nil => rfl
  | _, _, .cons _ hs => by rw [List.length_cons, List.length_cons, ArgsR.length hs]
theorem ArgsR.get {F : Hp} {σ : L2.St} : ∀ {vs : List V} {as : List Arg} {i : Nat} {a : Arg}, ArgsR K F σ vs as → as[i]? = some a → ∃ v, vs[i]? = some v ∧ ArgR K F σ v a
  | _, _, _, _, .nil, e => by simp at e
  | _, _, 0, _, .cons r _, e => by simp at e; subst e; exact ⟨_, rfl, r⟩
  | _, _, i + 1, a, .cons _ t, e => by
    obtain ⟨d, h1, h2⟩ := ArgsR.get (i := i) (a := a) t (by simpa using e)
    exact ⟨d, by simpa using h1, h2⟩
theorem BrR.rv {c : PCx} {F H : Hp} {σ : L2.St} {e : Env} {v : V} {d : D} (S : StR K c F H σ e) (h : Rp K F v d) : BrR K F H v (rv e d) := by
  cases h with
  | ref a =>
    unfold PW.rv
    dsimp only
    cases hc : cellOf e a with
    | none => exact .inl (.ref a)
    | some ds =>
      obtain ⟨i, hi⟩ := cellOf_get hc
      obtain ⟨_, _, _, vs, h4, h5⟩ := S.ce i a ds hi
      exact .inr ⟨a, vs, ds, rfl, rfl, h4, h5⟩
  | non => exact .inl .non
  | bl b => exact .inl (.bl b)
  | int b => exact .inl (.int b)
  | str b => exact .inl (.str b)
  | ty b => exact .inl (.ty b)
  | lst h1 h2 => exact .inl (.lst h1 h2)
  | tup h1 h2 => exact .inl (.tup h1 h2)
  | rls h1 h2 => exact .inl (.rls h1 h2)
  | ins h1 h2 => exact .inl (.ins h1 h2)
  | xr h1 h2 => exact .inl (.xr h1 h2)
/-- an argument is read -/
theorem ArgR.br {c : PCx} {F H : Hp} {σ : L2.St} {e : Env} {v : V} {a : Arg} {d : D} (S : StR K c F H σ e) (h : ArgR K F σ v a) (r : res e a = some d) : BrR K F H v d := by
  cases a with
  | inl x =>
    cases r
    exact BrR.rv S h
  | inr j =>
    have h' : σ[j]? = some (some v) := h
    have r' : rsO e e[j]? = some d := r
    cases ex : e[j]? with
    | none => rw [ex] at r'; cases r'
    | some o =>
    rw [ex] at r'
    cases o with
    | un => cases r'
    | fz x =>
      cases r'
      obtain ⟨w, k1, k2⟩ := S.fz j _ ex
      rw [h'] at k1; cases k1
      exact BrR.rv S k2
    | ce a ds => cases r'
    | ow an ds =>
      cases r'
      obtain ⟨p, vs, k1, k2, k3, k4, k5⟩ := S.ow j an ds ex
      rw [h'] at k1; cases k1
      exact .inr ⟨p, vs, ds, rfl, rfl, k4, k5⟩
end

/-! ### judgements -/
structure SF (X : Cx) (W : WX) (e : Expr) (p : PEx) : Prop where
  run : PE X e (tM X.K W (RF X.K) p)
  mono : Mono p
structure SO (X : Cx) (W : WX) (e : Expr) (p : POx) : Prop where
  run : PE X e (tM X.K W (RO X.K) p)
  mono : Mono p
structure SG (X : Cx) (W : WX) (e : Expr) (p : PGx) : Prop where
  run : PE X e (tM X.K W (RG X.K) p)
  mono : Mono p
structure ST (X : Cx) (W : WX) (e : Expr) (p : PTx) : Prop where
  run : PT X e (tM X.K W RT p)
  mono : Mono p
structure SW (X : Cx) (W : WX) (e : Expr) (p : PTx) : Prop where
  run : PW X e (tM X.K W RT p)
  mono : Mono p
structure SA (X : Cx) (W : WX) (es : List Expr) (p : PAs) : Prop where
  run : PA X es (tM X.K W (RL X.K) p)
  mono : Mono p
def tS (K : PySem.W.Frag) (W : WX) (p : PSt) : TS := fun D σ H => ∃ (c : PCx) (F : Hp) (e : Env), StR K c F H σ e ∧ p
  { nx := fun e' => ∀ F' H' σ', StR K c F' H' σ' e' → D.nx σ' H'
    rt := fun r e' => ∀ F' H' σ' v, StR K c F' H' σ' e' → OvR K c F' H' σ' e' v r → D.rt v H'
    ex := fun x e' => ∀ F' H' σ' cls d, StR K c F' H' σ' e' → ErR K c.Fr F' H' cls d x → W cls d σ' H'
    bk := fun e' => ∀ F' H' σ', StR K c F' H' σ' e' → D.bk σ' H'
    ct := fun e' => ∀ F' H' σ', StR K c F' H' σ' e' → D.ct σ' H' } e
structure SS (X : Cx) (W : WX) (st : Stmt) (p : PSt) : Prop where
  run : PS X st (tS X.K W p)
  mono : MonoS p
structure SSs (X : Cx) (W : WX) (sts : List Stmt) (p : PSt) : Prop where
  run : PSs X sts (tS X.K W p)
  mono : MonoS p

theorem _root_.L2.PE.weak {X : Cx} {e : Expr} {t t' : TE} (h : PE X e t) (w : ∀ σ H Q, t' σ H Q → t σ H Q) : PE X e t' := ⟨fun pins s σ H Q I q => h.run pins s σ H Q I (w σ H Q q)⟩
theorem _root_.L2.PT.weak {X : Cx} {e : Expr} {t t' : TT} (h : PT X e t) (w : ∀ σ H Q, t' σ H Q → t σ H Q) : PT X e t' := ⟨fun pins s σ H Q I q => h.run pins s σ H Q I (w σ H Q q)⟩
theorem _root_.L2.PW.weak {X : Cx} {e : Expr} {t t' : TT} (h : PW X e t) (w : ∀ σ H Q, t' σ H Q → t σ H Q) : PW X e t' := ⟨fun wh pins s σ H Q I q => h.run wh pins s σ H Q I (w σ H Q q)⟩
theorem _root_.L2.PA.weak {X : Cx} {e : List Expr} {t t' : TA} (h : PA X e t) (w : ∀ σ H Q, t' σ H Q → t σ H Q) : PA X e t' := ⟨fun pos pins s σ H Q I q => h.run pos pins s σ H Q I (w σ H Q q)⟩
theorem _root_.L2.PS.weak {X : Cx} {e : Stmt} {t t' : TS} (h : PS X e t) (w : ∀ D σ H, t' D σ H → t D σ H) : PS X e t' := ⟨fun pins s σ H D I q => h.run pins s σ H D I (w D σ H q)⟩
theorem _root_.L2.PSs.weak {X : Cx} {e : List Stmt} {t t' : TS} (h : PSs X e t) (w : ∀ D σ H, t' D σ H → t D σ H) : PSs X e t' := ⟨fun pins s σ H D I q => h.run pins s σ H D I (w D σ H q)⟩

/-! ### small expressions -/
section
variable {X : Cx} {W : WX} {a b e : Expr} {pos : Pos}
def pC (d : D) : PEx := fun e Q _ => Q d e
theorem mono_C {d : D} : Mono (pC d) := fun _ _ _ _ _ hq _ h => hq _ _ h
theorem sf_of_tC {v : V} {d : D} (h : PE X e (tC v)) (r : ∀ F, Rp X.K F v d) : SF X W e (pC d) :=
  ⟨h.weak fun σ H Q ⟨c, F, en, S, q⟩ => q F H v S (r F), mono_C⟩
theorem sf_int {i j} : SF X W (.Constant (.int i) j pos) (pC (.int i)) := sf_of_tC pe_int fun _ => .int _
theorem sf_bl {i j} : SF X W (.Constant (.bool i) j pos) (pC (.bl i)) := sf_of_tC pe_bl fun _ => .bl _
theorem sf_non {j} : SF X W (.Constant .none j pos) (pC .non) := sf_of_tC pe_non fun _ => .non
theorem sf_str {x j} : SF X W (.Constant (.str x) j pos) (pC (.str x)) := sf_of_tC pe_str fun _ => .str _
theorem sf_glI {x : Str} {i : Int} {t : Tok} (hg : Gl X x) (hm : X.mg x = some (.int i t)) (hd : (x == ("__debug__" : Str)) = false := by decide) : SF X W (.Name x pos) (pC (.int i)) := sf_of_tC (pe_glob (v := .int i) hg hm ⟨_, rfl⟩ hd) fun _ => .int _
theorem sf_glS {x y : Str} {t : Tok} (hg : Gl X x) (hm : X.mg x = some (.str y t)) (hd : (x == ("__debug__" : Str)) = false := by decide) : SF X W (.Name x pos) (pC (.str y)) := sf_of_tC (pe_glob (v := .str y) hg hm ⟨_, rfl⟩ hd) fun _ => .str _
theorem sf_glR {x : Str} {C : Addr} (hg : Gl X x) (hm : X.mg x = some (.ref C)) (hd : (x == ("__debug__" : Str)) = false := by decide) : SF X W (.Name x pos) (pC (.ref C)) := sf_of_tC (pe_glob (v := .ref C) hg hm rfl hd) fun _ => .ref _
theorem sf_ty {x : Str} {n : String} (hg : Gl X x) (hm : X.mg x = none) (hv : bootBuiltins x = some (.type n)) (hn : x ≠ "__name__" := by decide) (hd : (x == ("__debug__" : Str)) = false := by decide) : SF X W (.Name x pos) (pC (.ty n)) := sf_of_tC (pe_bltn (v := .ty n) hg hm hv rfl hn hd) fun _ => .ty _
/-- a name: an owned list is frozen -/
def pVar (i : Nat) : PEx := fun e Q _ => match e[i]? with
  | some (.fz d) => Q d e
  | some (.ow false ds) => Q (.lst ds) (e.set i (.fz (.lst ds)))
  | _ => False
theorem mono_Var {i : Nat} : Mono (pVar i) := fun e Q Q' E E' hq _ h => by
  unfold pVar at h ⊢
  generalize e[i]? = o at h ⊢
  cases o with
  | none => exact h
  | some o =>
    cases o with
    | un => exact h
    | ce _ _ => exact h
    | fz d => exact hq _ _ h
    | ow an ds => cases an <;> first | exact hq _ _ h | exact h
theorem sf_var {i : Nat} (h : PE X e (tVar i)) : SF X W e (pVar i) := by
  refine ⟨h.weak fun σ H Q ⟨c, F, en, S, q⟩ => ?_, mono_Var⟩
  unfold pVar at q
  split at q
  · rename_i d ed
    obtain ⟨v, k1, k2⟩ := S.fz i d ed
    exact ⟨v, k1, q F H v S k2⟩
  · rename_i ds ed
    obtain ⟨p, vs, k1, S', k2⟩ := S.freezeAt ed
    exact ⟨_, k1, q _ H _ S' k2⟩
  · exact q.elim
/-- a name as an argument -/
def pArg (j : Nat) : PGx := fun e Q _ => match e[j]? with
  | some (.fz _) => Q (.inr j) e
  | some (.ow _ _) => Q (.inr j) e
  | _ => False
theorem mono_Arg {i : Nat} : Mono (pArg i) := fun e Q Q' E E' hq _ h => by
  unfold pArg at h ⊢
  generalize e[i]? = o at h ⊢
  cases o with
  | none => exact h
  | some o => cases o <;> first | exact hq _ _ h | exact h
theorem sg_var {i : Nat} (h : PE X e (tVar i)) : SG X W e (pArg i) := by
  refine ⟨h.weak fun σ H Q ⟨c, F, en, S, q⟩ => ?_, mono_Arg⟩
  unfold pArg at q
  split at q
  · rename_i d ed
    obtain ⟨v, k1, k2⟩ := S.fz i d ed
    exact ⟨v, k1, q F H v S k1⟩
  · rename_i an ds ed
    obtain ⟨p, vs, k1, _⟩ := S.ow i an ds ed
    exact ⟨_, k1, q F H _ S k1⟩
  · exact q.elim
def pIn (p : PEx) : PGx := fun e Q E => p e (fun d => Q (.inl d)) E
theorem sg_of {p : PEx} (h : SF X W e p) : SG X W e (pIn p) :=
  ⟨h.run.weak fun σ H Q q => q, fun _ _ _ _ _ hq he k => h.mono _ _ _ _ _ (fun _ _ => hq _ _) he k⟩
/-- data as a value of any kind -/
def pFz (p : PEx) : POx := fun e Q E => p e (fun d => Q (.fz d)) E
theorem so_of {p : PEx} (h : SF X W e p) : SO X W e (pFz p) :=
  ⟨h.run.weak fun σ H Q q => q, fun _ _ _ _ _ hq he k => h.mono _ _ _ _ _ (fun _ _ => hq _ _) he k⟩
/-- a value of any kind, frozen -/
def frz (Q : D → Env → Prop) : O → Env → Prop
  | .fz d, e => Q d e
  | .ow _ ds, e => Q (.lst ds) e
  | .un, _ => False
  | .ce _ _, _ => False
def pFr (p : POx) : PEx := fun e Q E => p e (frz Q) E
theorem sf_of {p : POx} (h : SO X W e p) : SF X W e (pFr p) := by
  refine ⟨h.run.weak fun σ H Q ⟨c, F, en, S, q⟩ => ⟨c, F, en, S, h.mono _ _ _ _ _ (fun r e' k F' H' v S' hr => ?_) (fun _ _ k => k) q⟩, fun _ _ _ _ _ hq he k => h.mono _ _ _ _ _ (fun r e' k => ?_) he k⟩
  · cases r with
    | un => exact k.elim
    | ce _ _ => exact k.elim
    | fz d => exact k F' H' v S' hr
    | ow an ds =>
      obtain ⟨p, vs, rfl, h2, h3, h4, h5, h6⟩ := hr
      obtain ⟨S2, r2⟩ := S'.freeze h2 h3 h4 h5 h6
      exact k _ H' _ S2 r2
  · cases r with
    | un => exact k
    | ce _ _ => exact k
    | fz d => exact hq _ _ k
    | ow an ds => exact hq _ _ k
/-- a local list, handed over with its ownership (return x) -/
def pMv (i : Nat) : POx := fun e Q _ => match e[i]? with
  | some (.fz d) => Q (.fz d) e
  | some (.ow false ds) => Q (.ow false ds) (e.set i .un)
  | _ => False
theorem StR.moveAt {K : PySem.W.Frag} {c : PCx} {F H : Hp} {σ : L2.St} {e : Env} (S : StR K c F H σ e) {i : Nat} {ds : List D} (he : e[i]? = some (.ow false ds)) : ∃ v, σ[i]? = some (some v) ∧ StR K c F H σ (e.set i .un) ∧ OvR K c F H σ (e.set i .un) v (.ow false ds) := by
  obtain ⟨p, vs, h1, h2, h3, h4, h5⟩ := S.ow i false ds he
  have eself : (e.set i .un)[i]? = some .un := set_self he
  have own : ∀ j q, Owns σ (e.set i .un) j q → i ≠ j ∧ Owns σ e j q := fun j q o => by
    unfold Owns at o
    by_cases z : i = j
    · subst z; rw [eself] at o; rcases o with ⟨⟨_, _, k⟩, _⟩ | ⟨_, k⟩ <;> cases k
    · rw [set_other z] at o; exact ⟨z, o⟩
  refine ⟨.ref p, h1, ⟨by simp only [List.length_set]; exact S.len, S.gr0, S.gr, fun j d k => ?_, fun j a d k => ?_, fun j w k => ?_, fun j a d k => ?_, fun j o k h => ?_, fun j k q o1 o2 => S.ap j k q (own j q o1).2 (own k q o2).2, S.fr⟩, p, vs, rfl, h2, h3, h4, h5, fun j o => ?_⟩
  · by_cases z : i = j
    · subst z; rw [eself] at k; cases k
    · rw [set_other z] at k; exact S.fz j d k
  · by_cases z : i = j
    · subst z; rw [eself] at k; cases k
    · rw [set_other z] at k; exact S.ow j a d k
  · obtain ⟨⟨d, e1⟩, e2⟩ := S.an j w k
    refine ⟨?_, e2⟩
    by_cases z : i = j
    · subst z; rw [he] at e1; cases e1
    · exact ⟨d, by rw [set_other z]; exact e1⟩
  · by_cases z : i = j
    · subst z; rw [eself] at k; cases k
    · rw [set_other z] at k; exact S.ce j a d k
  · by_cases z : i = j
    · subst z
      obtain ⟨a, d, e'⟩ := S.hi i _ he h
      cases e'
    · rw [set_other z] at k; exact S.hi j o k h
  · obtain ⟨z, o'⟩ := own j p o
    exact z (S.ap i j p (.inl ⟨⟨false, ds, he⟩, h1⟩) o')
theorem so_mv {i : Nat} (h : PE X e (tVar i)) : SO X W e (pMv i) := by
  refine ⟨h.weak fun σ H Q ⟨c, F, en, S, q⟩ => ?_, fun en Q Q' E E' hq _ k => ?_⟩
  · unfold pMv at q
    split at q
    · rename_i d ed
      obtain ⟨v, k1, k2⟩ := S.fz i d ed
      exact ⟨v, k1, q F H v S k2⟩
    · rename_i ds ed
      obtain ⟨v, k1, S', k2⟩ := S.moveAt ed
      exact ⟨v, k1, q F H v S' k2⟩
    · exact q.elim
  · unfold pMv at k ⊢
    generalize en[i]? = o at k ⊢
    cases o with
    | none => exact k
    | some o =>
      cases o with
      | un => exact k
      | ce _ _ => exact k
      | fz d => exact hq _ _ k
      | ow an ds => cases an <;> first | exact hq _ _ k | exact k

/-! ### arguments -/
def pNil : PAs := fun e Q _ => Q [] e
def pCons (p : PGx) (q : PAs) : PAs := fun e Q E => p e (fun a e1 => q e1 (fun as e2 => Q (a :: as) e2) E) E
theorem sa_nil : SA X W [] pNil := ⟨pa_nil.weak fun σ H Q ⟨c, F, en, S, q⟩ => q F H [] S .nil, fun _ _ _ _ _ hq _ h => hq _ _ h⟩
theorem sa_cons {es : List Expr} {p : PGx} {q : PAs} (h : SG X W e p) (hs : SA X W es q) (he : starEach (e :: es) X.env = (false, eval e X.env) :: starEach es X.env := by rfl) : SA X W (e :: es) (pCons p q) := by
  refine ⟨(pa_cons h.run hs.run he).weak fun σ H Q ⟨c, F, en, S, k⟩ => ?_, fun _ _ _ _ _ hq he k => h.mono _ _ _ _ _ (fun _ _ k => hs.mono _ _ _ _ _ (fun _ _ => hq _ _) he k) he k⟩
  refine tM.go h.mono S k (fun a e1 F1 H1 v S1 r1 k1 => ?_) (fun x e1 F1 H1 cls d S1 r1 k1 => k1 F1 H1 cls d (S1.back S.gr0) r1)
  refine tM.go hs.mono S1 k1 (fun as e2 F2 H2 vs S2 r2 k2 => ?_) (fun x e2 F2 H2 cls d S2 r2 k2 => k2 F2 H2 cls d ((S2.back (c := { c with F0 := F }) S1.gr0).back S.gr0) r2)
  exact k2 F2 H2 (v :: vs) ((S2.back (c := { c with F0 := F }) S1.gr0).back S.gr0) (.cons (ArgR.mono S2.gr0 r1) r2)

/-! ### operators: two operands -/
/-- f: what an operation of values is, by data -/
structure OpO (K : PySem.W.Frag) (r : R2) (f : D → D → (O → Prop) → Prop) : Prop where
  mono : ∀ x y (Q Q' : O → Prop), (∀ z, Q z → Q' z) → f x y Q → f x y Q'
  run : ∀ (c : PCx) (F H : Hp) (σ : L2.St) (e : Env) (v w : V) (x y : D) (Q : VK), StR K c F H σ e → BrR K F H v x → BrR K F H w y →
    f x y (fun z => ∀ F' H' u, StR K { c with F0 := F } F' H' σ e → OvR K c F' H' σ e u z → Q u H') → r v w H Q
def p2 (f : D → D → (O → Prop) → Prop) (pa pb : PGx) : POx := fun e Q E => pa e (fun x e1 => pb e1 (fun y e2 =>
  match res e2 x, res e2 y with
  | some dx, some dy => f dx dy (fun z => Q z e2)
  | _, _ => False) E) E
theorem mono_2 {f : D → D → (O → Prop) → Prop} (hf : ∀ x y (Q Q' : O → Prop), (∀ z, Q z → Q' z) → f x y Q → f x y Q') {pa pb : PGx} (ha : Mono pa) (hb : Mono pb) : Mono (p2 f pa pb) := fun e Q Q' E E' hq he k => by
  refine ha _ _ _ _ _ (fun x e1 k => hb _ _ _ _ _ (fun y e2 k => ?_) he k) he k
  cases h1 : res e2 x with
  | none => simp only [h1] at k
  | some dx =>
    cases h2 : res e2 y with
    | none => simp only [h1, h2] at k
    | some dy =>
      simp only [h1, h2] at k ⊢
      exact hf _ _ _ _ (fun z => hq z e2) k
theorem p2_run {r : R2} {f : D → D → (O → Prop) → Prop} (hs : OpO X.K r f) {pa pb : PGx} (ha : Mono pa) (hb : Mono pb) {σ : L2.St} {H : Hp} {Q : VK} (h : tM X.K W (RO X.K) (p2 f pa pb) σ H Q) : tOp r (tM X.K W (RG X.K) pa) (tM X.K W (RG X.K) pb) σ H Q := by
  obtain ⟨c, F, en, S, k⟩ := h
  refine tM.go ha S k (fun x e1 F1 H1 v S1 r1 k1 => ?_) (fun x e1 F1 H1 cls d S1 r1 k1 => k1 F1 H1 cls d (S1.back S.gr0) r1)
  refine tM.go hb S1 k1 (fun y e2 F2 H2 w S2 r2 k2 => ?_) (fun x e2 F2 H2 cls d S2 r2 k2 => k2 F2 H2 cls d ((S2.back (c := { c with F0 := F }) S1.gr0).back S.gr0) r2)
  cases h1 : res e2 x with
  | none => simp only [h1] at k2
  | some dx =>
    cases h2 : res e2 y with
    | none => simp only [h1, h2] at k2
    | some dy =>
      simp only [h1, h2] at k2
      have S2' := (S2.back (c := { c with F0 := F }) S1.gr0).back S.gr0
      refine hs.run c F2 H2 σ e2 v w dx dy Q S2' (ArgR.br S2' (ArgR.mono S2.gr0 r1) h1) (ArgR.br S2' r2 h2) (hs.mono _ _ _ _ (fun z k F' H' u S' hr => ?_) k2)
      exact k F' H' u (S'.back S2'.gr0) hr
theorem so_bin {op : Operator} {r : R2} {f : D → D → (O → Prop) → Prop} (ho : OpR X (binaryOp op) r) (hs : OpO X.K r f) {pa pb : PGx} (ha : SG X W a pa) (hb : SG X W b pb) : SO X W (.BinOp a op b pos) (p2 f pa pb) :=
  ⟨(pe_op ho ha.run hb.run).weak fun _ _ _ h => p2_run hs ha.mono hb.mono h, mono_2 hs.mono ha.mono hb.mono⟩
theorem so_ix {r : R2} {f : D → D → (O → Prop) → Prop} (hr : IxR X r) (hs : OpO X.K r f) {pa pb : PGx} (ha : SG X W a pa) (hb : SG X W b pb) (hp : PlainIx b) : SO X W (.Subscript a b pos) (p2 f pa pb) :=
  ⟨(pe_ix hr ha.run hb.run hp).weak fun _ _ _ h => p2_run hs ha.mono hb.mono h, mono_2 hs.mono ha.mono hb.mono⟩
/-- comparisons -/
structure OpB (K : PySem.W.Frag) (r : R2) (f : D → D → (Bool → Prop) → Prop) : Prop where
  mono : ∀ x y (Q Q' : Bool → Prop), (∀ z, Q z → Q' z) → f x y Q → f x y Q'
  run : ∀ (c : PCx) (F H : Hp) (σ : L2.St) (e : Env) (v w : V) (x y : D) (Q : VK), StR K c F H σ e → BrR K F H v x → BrR K F H w y → f x y (fun z => Q (.bl z) H) → r v w H Q
def pB (f : D → D → (Bool → Prop) → Prop) (pa pb : PGx) : PTx := fun e Q E => pa e (fun x e1 => pb e1 (fun y e2 =>
  match res e2 x, res e2 y with
  | some dx, some dy => f dx dy (fun z => Q z e2)
  | _, _ => False) E) E
theorem mono_B {f : D → D → (Bool → Prop) → Prop} (hf : ∀ x y (Q Q' : Bool → Prop), (∀ z, Q z → Q' z) → f x y Q → f x y Q') {pa pb : PGx} (ha : Mono pa) (hb : Mono pb) : Mono (pB f pa pb) := fun e Q Q' E E' hq he k => by
  refine ha _ _ _ _ _ (fun x e1 k => hb _ _ _ _ _ (fun y e2 k => ?_) he k) he k
  cases h1 : res e2 x with
  | none => simp only [h1] at k
  | some dx =>
    cases h2 : res e2 y with
    | none => simp only [h1, h2] at k
    | some dy =>
      simp only [h1, h2] at k ⊢
      exact hf _ _ _ _ (fun z => hq z e2) k
theorem pB_run {r : R2} {f : D → D → (Bool → Prop) → Prop} (hs : OpB X.K r f) {pa pb : PGx} (ha : Mono pa) (hb : Mono pb) {σ : L2.St} {H : Hp} {Q : Bool → Hp → Prop} (h : tM X.K W RT (pB f pa pb) σ H Q) : tTest (tOp r (tM X.K W (RG X.K) pa) (tM X.K W (RG X.K) pb)) σ H Q := by
  obtain ⟨c, F, en, S, k⟩ := h
  refine tM.go ha S k (fun x e1 F1 H1 v S1 r1 k1 => ?_) (fun x e1 F1 H1 cls d S1 r1 k1 => k1 F1 H1 cls d (S1.back S.gr0) r1)
  refine tM.go hb S1 k1 (fun y e2 F2 H2 w S2 r2 k2 => ?_) (fun x e2 F2 H2 cls d S2 r2 k2 => k2 F2 H2 cls d ((S2.back (c := { c with F0 := F }) S1.gr0).back S.gr0) r2)
  cases h1 : res e2 x with
  | none => simp only [h1] at k2
  | some dx =>
    cases h2 : res e2 y with
    | none => simp only [h1, h2] at k2
    | some dy =>
      simp only [h1, h2] at k2
      have S2' := (S2.back (c := { c with F0 := F }) S1.gr0).back S.gr0
      exact hs.run c F2 H2 σ e2 v w dx dy _ S2' (ArgR.br S2' (ArgR.mono S2.gr0 r1) h1) (ArgR.br S2' r2 h2) (hs.mono _ _ _ _ (fun z k => ⟨z, rfl, k F2 H2 z S2' rfl⟩) k2)
theorem st_cmp {op : CmpOp} {r : R2} {f : D → D → (Bool → Prop) → Prop} (ho : OpR X (compareOp op) r) (hs : OpB X.K r f) {pa pb : PGx} (ha : SG X W a pa) (hb : SG X W b pb) (hm : behindInMarks op b = false) : ST X W (.Compare a [op] [b] pos) (pB f pa pb) :=
  ⟨(pt_cmpR ho ha.run hb.run hm).weak fun _ _ _ h => pB_run hs ha.mono hb.mono h, mono_B hs.mono ha.mono hb.mono⟩
/-- a truth value as a value -/
def pBl (p : PTx) : PEx := fun e Q E => p e (fun b => Q (.bl b)) E
theorem sf_cmp {op : CmpOp} {r : R2} {f : D → D → (Bool → Prop) → Prop} (ho : OpR X (compareOp op) r) (hs : OpB X.K r f) {pa pb : PGx} (ha : SG X W a pa) (hb : SG X W b pb) (hm : behindInMarks op b = false) : SF X W (.Compare a [op] [b] pos) (pBl (pB f pa pb)) := by
  refine ⟨(pe_cmpR ho ha.run hb.run hm).weak fun σ H Q h => ?_, fun _ _ _ _ _ hq he k => mono_B hs.mono ha.mono hb.mono _ _ _ _ _ (fun _ _ => hq _ _) he k⟩
  obtain ⟨c, F, en, S, k⟩ := h
  refine tM.go ha.mono S k (fun x e1 F1 H1 v S1 r1 k1 => ?_) (fun x e1 F1 H1 cls d S1 r1 k1 => k1 F1 H1 cls d (S1.back S.gr0) r1)
  refine tM.go hb.mono S1 k1 (fun y e2 F2 H2 w S2 r2 k2 => ?_) (fun x e2 F2 H2 cls d S2 r2 k2 => k2 F2 H2 cls d ((S2.back (c := { c with F0 := F }) S1.gr0).back S.gr0) r2)
  cases h1 : res e2 x with
  | none => simp only [h1] at k2
  | some dx =>
    cases h2 : res e2 y with
    | none => simp only [h1, h2] at k2
    | some dy =>
      simp only [h1, h2] at k2
      have S2' := (S2.back (c := { c with F0 := F }) S1.gr0).back S.gr0
      exact hs.run c F2 H2 σ e2 v w dx dy _ S2' (ArgR.br S2' (ArgR.mono S2.gr0 r1) h1) (ArgR.br S2' r2 h2) (hs.mono _ _ _ _ (fun z k => k F2 H2 _ S2' (.bl z)) k2)
end
end PW
set_option Elab.async false
set_option linter.all false
set_option maxRecDepth 100000
set_option maxHeartbeats 4000000
namespace PW
open PySem PySem.Spec PyProof.Rows L2

/-! ### operators by data -/
def rOr (r r' : R2) : R2 := fun x y H Q => r x y H Q ∨ r' x y H Q
theorem OpR.or {X : Cx} {f : Value → Value → Sem Value} {r r' : R2} (h : OpR X f r) (h' : OpR X f r') : OpR X f (rOr r r') := by
  intro pins s σ H x y v u Q I rx ry q
  rcases q with q | q
  · exact h pins s σ H x y v u Q I rx ry q
  · exact h' pins s σ H x y v u Q I rx ry q
def rAddS : R2 := fun x y H Q => ∃ i j, x = .str i ∧ y = .str j ∧ i.length + j.length ≤ sizeLine ∧ Q (.str (i ++ j)) H
def rAdd (K : PySem.W.Frag) : R2 := rOr (rI0 fun i j => .int (i + j)) (rOr rCat (rOr (rCatA K) rAddS))
theorem op_addA {X : Cx} : OpR X (binaryOp .Add) (rAdd X.K) := op_add.or (op_cat.or (op_catA.or op_add_str))
def fAdd : D → D → (O → Prop) → Prop
  | .int i, .int j, Q => Q (.fz (.int (i + j)))
  | .str i, .str j, Q => i.length + j.length ≤ sizeLine ∧ Q (.fz (.str (i ++ j)))
  | .lst xs, .lst ys, Q => xs.length + ys.length ≤ sizeLine ∧ Q (.ow false (xs ++ ys))
  | .tup xs, .tup ys, Q => xs.length + ys.length ≤ sizeLine ∧ Q (.fz (.tup (xs ++ ys)))
  | _, _, _ => False
section
variable {K : PySem.W.Frag} {c : PCx} {F H : Hp} {σ : L2.St} {e : Env}
/-- a new tuple, frozen -/
theorem StR.newTup (S : StR K c F H σ e) {p : Addr} {vs : List V} {ds : List D} (hp : H p = none) (r : Rps K F vs ds) : StR K c (upd F p (.tup vs)) (upd H p (.tup vs)) σ e ∧ Rp K (upd F p (.tup vs)) (.ref p) (.tup ds) :=
  ⟨S.alloc hp, .tup (SqT.of upd_same) (r.mono (upd_new (S.gr.free hp)))⟩
theorem opo_add : OpO K (rAdd K) fAdd where
  mono := fun x y Q Q' hq k => by
    cases x <;> cases y <;> first | exact hq _ k | exact ⟨k.1, hq _ k.2⟩ | exact k
  run := fun c F H σ e v w x y Q S hv hw k => by
    cases x <;> cases y <;> try exact k.elim
    · rw [hv.int, hw.int]
      exact .inl ⟨_, _, rfl, rfl, k F H _ S.here (.int _)⟩
    · rw [hv.str, hw.str]
      exact .inr (.inr (.inr ⟨_, _, rfl, rfl, k.1, k.2 F H _ S.here (.str _)⟩))
    · obtain ⟨p, vs, rfl, h1, h2⟩ := hv.list S.gr
      obtain ⟨q, ws, rfl, h3, h4⟩ := hw.list S.gr
      refine .inr (.inl ⟨_, _, _, _, rfl, rfl, h1, h3, by rw [h2.length, h4.length]; exact k.1, fun t ht => ?_⟩)
      obtain ⟨S2, r2⟩ := S.here.fresh (an := false) ht (h2.append h4)
      exact k.2 F _ _ S2 r2
    · obtain ⟨p, vs, rfl, h1, h2⟩ := hv.tup
      obtain ⟨q, ws, rfl, h3, h4⟩ := hw.tup
      refine .inr (.inr (.inl ⟨_, _, _, _, rfl, rfl, sq_t S.gr h1, sq_t S.gr h3, by rw [h2.length, h4.length]; exact k.1, fun e0 => ?_, fun _ e0 => ?_, fun _ _ t ht => ?_⟩))
      · subst e0
        cases h2
        exact k.2 F H _ S.here (.tup h3 h4)
      · subst e0
        cases h4
        refine k.2 F H _ S.here ?_
        rw [List.append_nil]
        exact .tup h1 h2
      · obtain ⟨S2, r2⟩ := S.here.newTup ht (h2.append h4)
        exact k.2 _ _ _ S2 r2
/-- ints alone -/
def fI (C : Int → Int → Prop) (g : Int → Int → Int) : D → D → (O → Prop) → Prop
  | .int i, .int j, Q => C i j ∧ Q (.fz (.int (g i j)))
  | _, _, _ => False
theorem opo_I {C : Int → Int → Prop} {g : Int → Int → Int} : OpO K (rI C fun i j => .int (g i j)) (fI C g) where
  mono := fun x y Q Q' hq k => by
    cases x <;> cases y <;> first | exact ⟨k.1, hq _ k.2⟩ | exact k
  run := fun c F H σ e v w x y Q S hv hw k => by
    cases x <;> cases y <;> try exact k.elim
    rw [hv.int, hw.int]
    exact ⟨_, _, rfl, rfl, k.1, k.2 F H _ S.here (.int _)⟩
def fI0 (g : Int → Int → Int) : D → D → (O → Prop) → Prop
  | .int i, .int j, Q => Q (.fz (.int (g i j)))
  | _, _, _ => False
theorem opo_I0 {g : Int → Int → Int} : OpO K (rI0 fun i j => .int (g i j)) (fI0 g) where
  mono := fun x y Q Q' hq k => by
    cases x <;> cases y <;> first | exact hq _ k | exact k
  run := fun c F H σ e v w x y Q S hv hw k => by
    cases x <;> cases y <;> try exact k.elim
    rw [hv.int, hw.int]
    exact ⟨_, _, rfl, rfl, k F H _ S.here (.int _)⟩
abbrev fSub := fI0 fun i j => i - j
abbrev fFdiv := fI CDivW fun i j => i / j
abbrev fMod := fI (fun _ j => 0 < j) fun i j => i % j
abbrev fPow := fI CPow fun i j => i ^ j.toNat
abbrev fShl := fI CPow fun i j => i * 2 ^ j.toNat
abbrev fShr := fI (fun _ j => 0 ≤ j) fun i j => i / 2 ^ j.toNat
abbrev fAnd := fI0 fun i j => Builtin.bitAnd i j
def rMul : R2 := rOr (rI CMulW fun i j => .int (i * j)) (rOr (rI CMul fun i j => .int (i * j)) rRep)
theorem op_mulA {X : Cx} : OpR X (binaryOp .Mult) rMul := op_mulW.or (op_mul.or op_rep)
def fMul : D → D → (O → Prop) → Prop
  | .int i, .int j, Q => (CMulW i j ∨ CMul i j) ∧ Q (.fz (.int (i * j)))
  | .lst xs, .int k, Q => (-(2 ^ 63) ≤ k ∧ k < 2 ^ 63 ∧ xs.length * k.toNat ≤ sizeLine) ∧ Q (.ow false (List.replicate k.toNat xs).flatten)
  | _, _, _ => False
theorem opo_mul : OpO K rMul fMul where
  mono := fun x y Q Q' hq k => by
    cases x <;> cases y <;> first | exact ⟨k.1, hq _ k.2⟩ | exact k
  run := fun c F H σ e v w x y Q S hv hw k => by
    cases x <;> cases y <;> try exact k.elim
    · rw [hv.int, hw.int]
      rcases k.1 with z | z
      · exact .inl ⟨_, _, rfl, rfl, z, k.2 F H _ S.here (.int _)⟩
      · exact .inr (.inl ⟨_, _, rfl, rfl, z, k.2 F H _ S.here (.int _)⟩)
    · obtain ⟨p, vs, rfl, h1, h2⟩ := hv.list S.gr
      rw [hw.int]
      refine .inr (.inr ⟨_, _, _, rfl, rfl, h1, k.1.1, k.1.2.1, by rw [h2.length]; exact k.1.2.2, fun t ht => ?_⟩)
      obtain ⟨S2, r2⟩ := S.here.fresh (an := false) ht (h2.rep _)
      exact k.2 F _ _ S2 r2
/-! ### subscripts -/
def fIx : D → D → (O → Prop) → Prop
  | .lst xs, .int i, Q => ∃ d, atI xs i = some d ∧ Q (.fz d)
  | .tup xs, .int i, Q => ∃ d, atI xs i = some d ∧ Q (.fz d)
  | .rls xs, .int i, Q => ∃ d, atI xs i = some d ∧ Q (.fz d)
  | .str z, .int i, Q => ∃ ch, z.length ≤ sizeLine ∧ atI z.cps.toList i = some ch ∧ Q (.fz (.str ⟨#[ch]⟩))
  | _, _, _ => False
theorem Rps.atI {vs : List V} {ds : List D} {i : Int} {d : D} (h : Rps K F vs ds) (e : L2.atI ds i = some d) : ∃ v, L2.atI vs i = some v ∧ Rp K F v d := by
  unfold L2.atI at e ⊢
  rw [h.length]
  cases k : ixN ds.length i with
  | none => rw [k] at e; cases e
  | some j =>
    rw [k] at e
    exact h.get' e
theorem opo_ix : OpO K (rIx K) fIx where
  mono := fun x y Q Q' hq k => by
    cases x <;> cases y <;> first | exact k.elim | (obtain ⟨d, k1, k2⟩ := k; exact ⟨d, k1, hq _ k2⟩) | (obtain ⟨d, k1, k0, k2⟩ := k; exact ⟨d, k1, k0, hq _ k2⟩)
  run := fun c F H σ e v w x y Q S hv hw k => by
    cases x <;> cases y <;> try exact k.elim
    · obtain ⟨ch, k0, k1, k2⟩ := k
      rw [hv.str, hw.int]
      exact .inr (.inr ⟨_, _, _, rfl, rfl, k0, k1, k2 F H _ S.here (.str _)⟩)
    · obtain ⟨d, k1, k2⟩ := k
      obtain ⟨p, vs, rfl, h1, h2⟩ := hv.list S.gr
      rw [hw.int]
      obtain ⟨u, h3, h4⟩ := h2.atI k1
      exact .inl ⟨p, vs, _, u, rfl, rfl, SqL.of h1, h3, k2 F H _ S.here h4⟩
    · obtain ⟨d, k1, k2⟩ := k
      obtain ⟨p, vs, rfl, h1, h2⟩ := hv.tup
      rw [hw.int]
      obtain ⟨u, h3, h4⟩ := h2.atI k1
      exact .inr (.inl ⟨p, vs, _, u, rfl, rfl, sq_t S.gr h1, h3, k2 F H _ S.here h4⟩)
    · obtain ⟨d, k1, k2⟩ := k
      obtain ⟨p, vs, rfl, h1, h2⟩ := hv.rls
      rw [hw.int]
      obtain ⟨u, h3, h4⟩ := h2.atI k1
      exact .inl ⟨p, vs, _, u, rfl, rfl, S.gr.seq h1, h3, k2 F H _ S.here h4⟩
/-! ### comparisons -/
def fCI (g : Int → Int → Bool) : D → D → (Bool → Prop) → Prop
  | .int i, .int j, Q => Q (g i j)
  | _, _, _ => False
theorem opb_CI {g : Int → Int → Bool} : OpB K (rI0 fun i j => .bl (g i j)) (fCI g) where
  mono := fun x y Q Q' hq k => by
    cases x <;> cases y <;> first | exact hq _ k | exact k
  run := fun c F H σ e v w x y Q S hv hw k => by
    cases x <;> cases y <;> try exact k.elim
    rw [hv.int, hw.int]
    exact ⟨_, _, rfl, rfl, k⟩
abbrev fLt := fCI fun i j => decide (i < j)
abbrev fLe := fCI fun i j => decide (i ≤ j)
abbrev fGt := fCI fun i j => decide (j < i)
abbrev fGe := fCI fun i j => decide (j ≤ i)
/-- is None -/
def isNon : D → Bool
  | .non => true
  | _ => false
def fIsN (neg : Bool) : D → D → (Bool → Prop) → Prop
  | x, .non, Q => Q (if neg then !isNon x else isNon x)
  | _, _, _ => False
theorem BrR.isNon {v : V} {d : D} (h : BrR K F H v d) : decide (v = .non) = isNon d := by
  rcases h with h | ⟨p, vs, ds, rfl, rfl, _, _⟩
  · cases h <;> rfl
  · rfl
theorem opb_isN : OpB K (fun x y H Q => y = .non ∧ Q (.bl (decide (x = .non))) H) (fIsN false) where
  mono := fun x y Q Q' hq k => by
    cases y <;> first | exact hq _ k | exact k
  run := fun c F H σ e v w x y Q S hv hw k => by
    cases y <;> try exact k.elim
    rw [hw.non, hv.isNon]
    exact ⟨rfl, k⟩
theorem opb_notN : OpB K (fun x y H Q => y = .non ∧ Q (.bl (!decide (x = .non))) H) (fIsN true) where
  mono := fun x y Q Q' hq k => by
    cases y <;> first | exact hq _ k | exact k
  run := fun c F H σ e v w x y Q S hv hw k => by
    cases y <;> try exact k.elim
    rw [hw.non, hv.isNon]
    exact ⟨rfl, k⟩
/-! as the library data -/
mutual
def D.py : D → Option PyData
  | .non => some .none
  | .bl b => some (.bool b)
  | .int i => some (.int i)
  | .str x => some (.str x)
  | .lst xs => (D.pys xs).map .list
  | .rls xs => (D.pys xs).map .list
  | .tup xs => (D.pys xs).map .tuple
  | _ => none
def D.pys : List D → Option (List PyData)
  | [] => some []
  | x :: xs => match D.py x, D.pys xs with
    | some p, some ps => some (p :: ps)
    | _, _ => none
end
mutual
theorem Rp.dp (g : Same F H) : ∀ {v : V} {d : D} {p : PyData}, Rp K F v d → d.py = some p → Dp K H v p
  | _, _, _, .non, h => by cases h; exact .non
  | _, _, _, .bl b, h => by cases h; exact .bl b
  | _, _, _, .int i, h => by cases h; exact .int i
  | _, _, _, .str x, h => by cases h; exact .str x
  | _, _, _, .ty n, h => by cases h
  | _, _, _, .ref a, h => by cases h
  | _, _, _, .lst (ds := ds) k hs, h => by
    unfold D.py at h
    cases e : D.pys ds with
    | none => rw [e] at h; cases h
    | some ps => rw [e] at h; cases h; exact .lst (SqL.of (g _ _ k)) (Rps.dp g hs e)
  | _, _, _, .tup (ds := ds) k hs, h => by
    unfold D.py at h
    cases e : D.pys ds with
    | none => rw [e] at h; cases h
    | some ps => rw [e] at h; cases h; exact .tup (sq_t g k) (Rps.dp g hs e)
  | _, _, _, .rls (ds := ds) k hs, h => by
    unfold D.py at h
    cases e : D.pys ds with
    | none => rw [e] at h; cases h
    | some ps => rw [e] at h; cases h; exact .lst (g.seq k) (Rps.dp g hs e)
  | _, _, _, .ins k hs, h => by unfold D.py at h; cases h
theorem Rps.dp (g : Same F H) : ∀ {vs : List V} {ds : List D} {ps : List PyData}, Rps K F vs ds → D.pys ds = some ps → DpAll K H vs ps
  | _, _, _, .nil, h => by cases h; exact .nil
  | _, _, _, .cons (d := d) (ds := ds) k hs, h => by
    unfold D.pys at h
    cases e : d.py with
    | none => rw [e] at h; cases h
    | some p =>
      cases e2 : D.pys ds with
      | none => rw [e, e2] at h; cases h
      | some ps => rw [e, e2] at h; cases h; exact .cons (Rp.dp g k e) (Rps.dp g hs e2)
end
theorem BrR.dp {v : V} {d : D} {p : PyData} (g : Same F H) (h : BrR K F H v d) (e : d.py = some p) : Dp K H v p := by
  rcases h with h | ⟨q, vs, ds, rfl, rfl, h1, h2⟩
  · exact h.dp g e
  · unfold D.py at e
    cases e2 : D.pys ds with
    | none => rw [e2] at e; cases e
    | some ps => rw [e2] at e; cases e; exact .lst (SqL.of h1) (h2.dp g e2)
/-- == (neg: !=) -/
def fEq (neg : Bool) : D → D → (Bool → Prop) → Prop := fun x y Q => match x.py, y.py with
  | some p, some q => (SeqAt.shaped p = true ∧ SeqAt.shaped q = true) ∧ Q (if neg then !PyData.eqv p q else PyData.eqv p q)
  | _, _ => False
theorem fEq_mono {neg : Bool} (x y : D) (Q Q' : Bool → Prop) (hq : ∀ z, Q z → Q' z) (k : fEq neg x y Q) : fEq neg x y Q' := by
  unfold fEq at k ⊢
  generalize x.py = p at k ⊢
  generalize y.py = q at k ⊢
  cases p <;> cases q <;> first | exact k.elim | exact ⟨k.1, hq _ k.2⟩
theorem opb_eq : OpB K (rEqD K) (fEq false) where
  mono := fEq_mono
  run := fun c F H σ e v w x y Q S hv hw k => by
    unfold fEq at k
    cases e1 : x.py with
    | none => rw [e1] at k; exact k.elim
    | some p =>
      cases e2 : y.py with
      | none => rw [e1, e2] at k; exact k.elim
      | some q =>
        rw [e1, e2] at k
        exact ⟨p, q, hv.dp S.gr e1, hw.dp S.gr e2, k.1.1, k.1.2, k.2⟩
theorem opb_ne : OpB K (rNeD K) (fEq true) where
  mono := fEq_mono
  run := fun c F H σ e v w x y Q S hv hw k => by
    unfold fEq at k
    cases e1 : x.py with
    | none => rw [e1] at k; exact k.elim
    | some p =>
      cases e2 : y.py with
      | none => rw [e1, e2] at k; exact k.elim
      | some q =>
        rw [e1, e2] at k
        exact ⟨p, q, hv.dp S.gr e1, hw.dp S.gr e2, k.1.1, k.1.2, k.2⟩
/-- flat data: its value -/
def D.toV : D → Option V
  | .non => some .non
  | .bl b => some (.bl b)
  | .int i => some (.int i)
  | .str x => some (.str x)
  | _ => none
def D.toVs : List D → Option (List V)
  | [] => some []
  | d :: ds => match d.toV, D.toVs ds with
    | some v, some vs => some (v :: vs)
    | _, _ => none
theorem Rp.toV {v u : V} {d : D} (h : Rp K F v d) (e : d.toV = some u) : v = u ∧ flatV u = true := by
  cases h <;> first | (cases e; exact ⟨rfl, rfl⟩) | cases e
theorem Rps.toVs : ∀ {vs us : List V} {ds : List D}, Rps K F vs ds → D.toVs ds = some us → vs = us ∧ us.all flatV = true
  | _, _, _, .nil, e => by cases e; exact ⟨rfl, rfl⟩
  | _, _, _, .cons (d := d) (ds := ds) r t, e => by
    unfold D.toVs at e
    cases e1 : d.toV with
    | none => rw [e1] at e; cases e
    | some u =>
      cases e2 : D.toVs ds with
      | none => rw [e1, e2] at e; cases e
      | some us =>
        rw [e1, e2] at e; cases e
        obtain ⟨rfl, h1⟩ := r.toV e1
        obtain ⟨rfl, h2⟩ := t.toVs e2
        exact ⟨rfl, by rw [List.all_cons, h1, h2]; rfl⟩
theorem toVs_ints : ∀ ns : List Int, D.toVs (ns.map D.int) = some (ns.map V.int)
  | [] => rfl
  | n :: ns => by
    show (match D.toV (.int n), D.toVs (ns.map D.int) with | some v, some vs => some (v :: vs) | _, _ => none) = _
    rw [toVs_ints ns]; rfl
/-- x in ys (neg: not in) -/
def fInL (neg : Bool) (x : D) (ys : List D) (Q : Bool → Prop) : Prop := match x.toV, D.toVs ys with
  | some v, some vs => Q (if neg then !inV v vs else inV v vs)
  | _, _ => False
def fIn (neg : Bool) : D → D → (Bool → Prop) → Prop
  | x, .lst ys, Q => fInL neg x ys Q
  | x, .tup ys, Q => fInL neg x ys Q
  | x, .rls ys, Q => fInL neg x ys Q
  | _, _, _ => False
theorem fInL_mono {neg : Bool} {x : D} {ys : List D} {Q Q' : Bool → Prop} (hq : ∀ z, Q z → Q' z) (k : fInL neg x ys Q) : fInL neg x ys Q' := by
  unfold fInL at k ⊢
  generalize x.toV = p at k ⊢
  generalize D.toVs ys = q at k ⊢
  cases p <;> cases q <;> first | exact k.elim | exact hq _ k
theorem fInL_run {neg : Bool} {x : D} {ys : List D} {v : V} {vs : List V} {Q : V → Hp → Prop} (hv : BrR K F H v x) (hs : Rps K F vs ys) (k : fInL neg x ys (fun z => Q (.bl z) H)) : flatV v = true ∧ vs.all flatV = true ∧ Q (.bl (if neg then !inV v vs else inV v vs)) H := by
  unfold fInL at k
  cases e1 : x.toV with
  | none => rw [e1] at k; exact k.elim
  | some u =>
    cases e2 : D.toVs ys with
    | none => rw [e1, e2] at k; exact k.elim
    | some us =>
      rw [e1, e2] at k
      obtain ⟨rfl, h1⟩ := Rp.toV (hv.rp fun ds z => by subst z; cases e1) e1
      obtain ⟨rfl, h2⟩ := hs.toVs e2
      exact ⟨h1, h2, k⟩
theorem opb_in {neg : Bool} : OpB K (rIn K neg) (fIn neg) where
  mono := fun x y Q Q' hq k => by
    cases y <;> first | exact k.elim | exact fInL_mono hq k
  run := fun c F H σ e v w x y Q S hv hw k => by
    cases y <;> try exact k.elim
    · obtain ⟨p, vs, rfl, h1, h2⟩ := hw.list S.gr
      obtain ⟨a, b, q⟩ := fInL_run hv h2 k
      exact ⟨p, vs, rfl, .inl (SqL.of h1), a, b, q⟩
    · obtain ⟨p, vs, rfl, h1, h2⟩ := hw.tup
      obtain ⟨a, b, q⟩ := fInL_run hv h2 k
      exact ⟨p, vs, rfl, .inr (sq_t S.gr h1), a, b, q⟩
    · obtain ⟨p, vs, rfl, h1, h2⟩ := hw.rls
      obtain ⟨a, b, q⟩ := fInL_run hv h2 k
      exact ⟨p, vs, rfl, .inl (S.gr.seq h1), a, b, q⟩
end

/-! ### builtins called -/
def ress (e : Env) : List Arg → Option (List D)
  | [] => some []
  | a :: as => match res e a, ress e as with
    | some d, some ds => some (d :: ds)
    | _, _ => none
inductive BrRs (K : PySem.W.Frag) (F H : Hp) : List V → List D → Prop
  | nil : BrRs K F H [] []
  | cons {v : V} {vs : List V} {d : D} {ds : List D} : BrR K F H v d → BrRs K F H vs ds → BrRs K F H (v :: vs) (d :: ds)
structure CallO (K : PySem.W.Frag) (r : List V → Hp → VK → Prop) (g : List D → (O → Prop) → Prop) : Prop where
  mono : ∀ x (Q Q' : O → Prop), (∀ z, Q z → Q' z) → g x Q → g x Q'
  run : ∀ (c : PCx) (F H : Hp) (σ : L2.St) (e : Env) (vs : List V) (x : List D) (Q : VK), StR K c F H σ e → BrRs K F H vs x →
    g x (fun z => ∀ F' H' u, StR K { c with F0 := F } F' H' σ e → OvR K c F' H' σ e u z → Q u H') → r vs H Q
def pCB (g : List D → (O → Prop) → Prop) (p : PAs) : POx := fun e Q E => p e (fun as e1 => match ress e1 as with
  | some ds => g ds (fun z => Q z e1)
  | none => False) E
section
variable {X : Cx} {W : WX} {a b e : Expr} {pos : Pos}
theorem ArgsR.br {K : PySem.W.Frag} {c : PCx} {F H : Hp} {σ : L2.St} {e : Env} (S : StR K c F H σ e) : ∀ {vs : List V} {as : List Arg} {ds : List D}, ArgsR K F σ vs as → ress e as = some ds → BrRs K F H vs ds
  | _, _, _, .nil, r => by cases r; exact .nil
  | _, _, _, .cons (a := a) (as := as) h hs, r => by
    unfold ress at r
    cases e1 : res e a with
    | none => rw [e1] at r; cases r
    | some d =>
      cases e2 : ress e as with
      | none => rw [e1, e2] at r; cases r
      | some ds => rw [e1, e2] at r; cases r; exact .cons (ArgR.br S h e1) (ArgsR.br S hs e2)
theorem mono_CB {g : List D → (O → Prop) → Prop} (hg : ∀ x (Q Q' : O → Prop), (∀ z, Q z → Q' z) → g x Q → g x Q') {p : PAs} (hp : Mono p) : Mono (pCB g p) := fun e Q Q' E E' hq he k => by
  refine hp _ _ _ _ _ (fun as e1 k => ?_) he k
  cases h1 : ress e1 as with
  | none => simp only [h1] at k
  | some ds =>
    simp only [h1] at k ⊢
    exact hg _ _ _ (fun z => hq z e1) k
theorem pCB_run {r : List V → Hp → VK → Prop} {g : List D → (O → Prop) → Prop} (hs : CallO X.K r g) {p : PAs} (hp : Mono p) {σ : L2.St} {H : Hp} {Q : VK} (h : tM X.K W (RO X.K) (pCB g p) σ H Q) : tCB r (tM X.K W (RL X.K) p) σ H Q := by
  obtain ⟨c, F, en, S, k⟩ := h
  refine tM.go hp S k (fun as e1 F1 H1 vs S1 r1 k1 => ?_) (fun x e1 F1 H1 cls d S1 r1 k1 => k1 F1 H1 cls d (S1.back S.gr0) r1)
  cases h1 : ress e1 as with
  | none => simp only [h1] at k1
  | some ds =>
    simp only [h1] at k1
    have S1' := S1.back S.gr0
    exact hs.run c F1 H1 σ e1 vs ds Q S1' (ArgsR.br S1' r1 h1) (hs.mono _ _ _ (fun z k F' H' u S' hr => k F' H' u (S'.back S1'.gr0) hr) k1)
theorem so_callB {id : String} {x : Str} {p0 : Pos} {es : List Expr} {r : List V → Hp → VK → Prop} {g : List D → (O → Prop) → Prop} {p : PAs} (hc : CallR X (.builtin id) r) (hs : CallO X.K r g) (hg : Gl X x) (hm : X.mg x = none) (hv : bootBuiltins x = some (.builtin id)) (ha : SA X W (e :: es) p)
    (hn : x ≠ "__name__" := by decide) (hdb : (x == ("__debug__" : Str)) = false := by decide) (he : starEach (e :: es) X.env = (false, eval e X.env) :: starEach es X.env := by rfl) (hpl : (backTo pos (starEach es X.env)).any (·.1) = false := by rfl) :
    SO X W (.Call (.Name x p0) (e :: es) [] pos) (pCB g p) :=
  ⟨(pe_callB hc hg hm hv ha.run hn hdb he hpl).weak fun _ _ _ h => pCB_run hs ha.mono h, mono_CB hs.mono ha.mono⟩
theorem so_callTy {T : String} {x : Str} {p0 : Pos} {es : List Expr} {r : List V → Hp → VK → Prop} {g : List D → (O → Prop) → Prop} {p : PAs} (hc : CallR X (.type T) r) (hs : CallO X.K r g) (hg : Gl X x) (hm : X.mg x = none) (hv : bootBuiltins x = some (.type T)) (ha : SA X W (e :: es) p)
    (hn : x ≠ "__name__" := by decide) (hdb : (x == ("__debug__" : Str)) = false := by decide) (he : starEach (e :: es) X.env = (false, eval e X.env) :: starEach es X.env := by rfl) (hpl : (backTo pos (starEach es X.env)).any (·.1) = false := by rfl) :
    SO X W (.Call (.Name x p0) (e :: es) [] pos) (pCB g p) :=
  ⟨(pe_callTy hc hg hm hv ha.run hn hdb he hpl).weak fun _ _ _ h => pCB_run hs ha.mono h, mono_CB hs.mono ha.mono⟩
end
section
variable {K : PySem.W.Frag}
theorem BrRs.one {F H : Hp} {vs : List V} {d : D} (h : BrRs K F H vs [d]) : ∃ v, vs = [v] ∧ BrR K F H v d := by
  cases h with
  | cons r t => cases t; exact ⟨_, rfl, r⟩
theorem BrRs.two {F H : Hp} {vs : List V} {d d' : D} (h : BrRs K F H vs [d, d']) : ∃ v v', vs = [v, v'] ∧ BrR K F H v d ∧ BrR K F H v' d' := by
  cases h with
  | cons r t =>
    cases t with
    | cons r' t => cases t; exact ⟨_, _, rfl, r, r'⟩
def gLen : List D → (O → Prop) → Prop
  | [.str s], Q => s.length ≤ sizeLine ∧ Q (.fz (.int s.length))
  | [.lst xs], Q => Q (.fz (.int xs.length))
  | [.tup xs], Q => Q (.fz (.int xs.length))
  | [.rls xs], Q => Q (.fz (.int xs.length))
  | _, _ => False
def rLen (K : PySem.W.Frag) : List V → Hp → VK → Prop := fun xs H Q => (∃ p ys, xs = [.ref p] ∧ (SqL K H p ys ∨ SqT K H p ys) ∧ Q (.int ys.length) H) ∨ ∃ z, xs = [.str z] ∧ z.length ≤ sizeLine ∧ Q (.int z.length) H
theorem call_lenA {X : Cx} : CallR X (.builtin "len") (rLen X.K) := call_len_seq.or call_len_str
theorem co_len : CallO K (rLen K) gLen where
  mono := fun x Q Q' hq k => by
    rcases x with _ | ⟨d, _ | ⟨_, _⟩⟩
    · exact k
    · cases d <;> first | exact hq _ k | exact ⟨k.1, hq _ k.2⟩ | exact k
    · cases d <;> exact k
  run := fun c F H σ e vs x Q S hs k => by
    rcases x with _ | ⟨d, _ | ⟨_, _⟩⟩
    · exact k.elim
    · obtain ⟨v, rfl, hv⟩ := hs.one
      cases d <;> try exact k.elim
      · rw [hv.str]
        exact .inr ⟨_, rfl, k.1, k.2 F H _ S.here (.int _)⟩
      · obtain ⟨p, ws, rfl, h1, h2⟩ := hv.list S.gr
        refine .inl ⟨p, ws, rfl, .inl (SqL.of h1), ?_⟩
        rw [h2.length]
        exact k F H _ S.here (.int _)
      · obtain ⟨p, ws, rfl, h1, h2⟩ := hv.tup
        refine .inl ⟨p, ws, rfl, .inr (sq_t S.gr h1), ?_⟩
        rw [h2.length]
        exact k F H _ S.here (.int _)
      · obtain ⟨p, ws, rfl, h1, h2⟩ := hv.rls
        refine .inl ⟨p, ws, rfl, .inl (S.gr.seq h1), ?_⟩
        rw [h2.length]
        exact k F H _ S.here (.int _)
    · cases d <;> exact k.elim
def gAbs : List D → (O → Prop) → Prop
  | [.int i], Q => Q (.fz (.int (if i < 0 then -i else i)))
  | _, _ => False
theorem co_abs : CallO K (fun xs H Q => ∃ i, xs = [.int i] ∧ Q (.int (if i < 0 then -i else i)) H) gAbs where
  mono := fun x Q Q' hq k => by
    rcases x with _ | ⟨d, _ | ⟨_, _⟩⟩
    · exact k
    · cases d <;> first | exact hq _ k | exact k
    · cases d <;> exact k
  run := fun c F H σ e vs x Q S hs k => by
    rcases x with _ | ⟨d, _ | ⟨_, _⟩⟩
    · exact k.elim
    · obtain ⟨v, rfl, hv⟩ := hs.one
      cases d <;> try exact k.elim
      rw [hv.int]
      exact ⟨_, rfl, k F H _ S.here (.int _)⟩
    · cases d <;> exact k.elim
def gInt : List D → (O → Prop) → Prop
  | [.int i], Q => Q (.fz (.int i))
  | [.bl b], Q => Q (.fz (.int (if b then 1 else 0)))
  | _, _ => False
theorem co_int : CallO K (fun xs H Q => (∃ i, xs = [.int i] ∧ Q (.int i) H) ∨ ∃ k, xs = [.bl k] ∧ Q (.int (if k then 1 else 0)) H) gInt where
  mono := fun x Q Q' hq k => by
    rcases x with _ | ⟨d, _ | ⟨_, _⟩⟩
    · exact k
    · cases d <;> first | exact hq _ k | exact k
    · cases d <;> exact k
  run := fun c F H σ e vs x Q S hs k => by
    rcases x with _ | ⟨d, _ | ⟨_, _⟩⟩
    · exact k.elim
    · obtain ⟨v, rfl, hv⟩ := hs.one
      cases d <;> try exact k.elim
      · rw [hv.bl]
        exact .inr ⟨_, rfl, k F H _ S.here (.int _)⟩
      · rw [hv.int]
        exact .inl ⟨_, rfl, k F H _ S.here (.int _)⟩
    · cases d <;> exact k.elim
def gTwo (g : Int → Int → Int) : List D → (O → Prop) → Prop
  | [.int i, .int j], Q => Q (.fz (.int (g i j)))
  | _, _ => False
theorem co_two {g : Int → Int → Int} : CallO K (fun xs H Q => ∃ i j, xs = [.int i, .int j] ∧ Q (.int (g i j)) H) (gTwo g) where
  mono := fun x Q Q' hq k => by
    rcases x with _ | ⟨d, _ | ⟨d', _ | ⟨_, _⟩⟩⟩
    · exact k
    · cases d <;> exact k
    · cases d <;> cases d' <;> first | exact hq _ k | exact k
    · cases d <;> cases d' <;> exact k
  run := fun c F H σ e vs x Q S hs k => by
    rcases x with _ | ⟨d, _ | ⟨d', _ | ⟨_, _⟩⟩⟩
    · exact k.elim
    · cases d <;> exact k.elim
    · obtain ⟨v, w, rfl, hv, hw⟩ := hs.two
      cases d <;> cases d' <;> try exact k.elim
      rw [hv.int, hw.int]
      exact ⟨_, _, rfl, k F H _ S.here (.int _)⟩
    · cases d <;> cases d' <;> exact k.elim
abbrev gMax2 := gTwo fun i j => if j > i then j else i
abbrev gMin2 := gTwo fun i j => if j < i then j else i
/-- list(x), tuple(x) -/
def gList : List D → (O → Prop) → Prop
  | [.lst xs], Q => Q (.ow false xs)
  | [.tup xs], Q => Q (.ow false xs)
  | [.rls xs], Q => Q (.ow false xs)
  | _, _ => False
theorem co_list : CallO K (fun xs H Q => ∃ p ys, xs = [.ref p] ∧ (SqL K H p ys ∨ SqT K H p ys) ∧ ∀ l, H l = none → Q (.ref l) (upd H l (.lst ys))) gList where
  mono := fun x Q Q' hq k => by
    rcases x with _ | ⟨d, _ | ⟨_, _⟩⟩
    · exact k
    · cases d <;> first | exact hq _ k | exact k
    · cases d <;> exact k
  run := fun c F H σ e vs x Q S hs k => by
    rcases x with _ | ⟨d, _ | ⟨_, _⟩⟩
    · exact k.elim
    · obtain ⟨v, rfl, hv⟩ := hs.one
      cases d <;> try exact k.elim
      · obtain ⟨p, ws, rfl, h1, h2⟩ := hv.list S.gr
        refine ⟨p, ws, rfl, .inl (SqL.of h1), fun l hl => ?_⟩
        obtain ⟨S2, r2⟩ := S.here.fresh (an := false) hl h2
        exact k F _ _ S2 r2
      · obtain ⟨p, ws, rfl, h1, h2⟩ := hv.tup
        refine ⟨p, ws, rfl, .inr (sq_t S.gr h1), fun l hl => ?_⟩
        obtain ⟨S2, r2⟩ := S.here.fresh (an := false) hl h2
        exact k F _ _ S2 r2
      · obtain ⟨p, ws, rfl, h1, h2⟩ := hv.rls
        refine ⟨p, ws, rfl, .inl (S.gr.seq h1), fun l hl => ?_⟩
        obtain ⟨S2, r2⟩ := S.here.fresh (an := false) hl h2
        exact k F _ _ S2 r2
    · cases d <;> exact k.elim
def gTuple : List D → (O → Prop) → Prop
  | [.lst xs], Q => Q (.fz (.tup xs))
  | [.tup xs], Q => Q (.fz (.tup xs))
  | [.rls xs], Q => Q (.fz (.tup xs))
  | _, _ => False
theorem co_tuple : CallO K (fun xs H Q => ∃ p ys, xs = [.ref p] ∧ ((SqL K H p ys ∧ ∀ l, H l = none → Q (.ref l) (upd H l (.tup ys))) ∨ (SqT K H p ys ∧ Q (.ref p) H))) gTuple where
  mono := fun x Q Q' hq k => by
    rcases x with _ | ⟨d, _ | ⟨_, _⟩⟩
    · exact k
    · cases d <;> first | exact hq _ k | exact k
    · cases d <;> exact k
  run := fun c F H σ e vs x Q S hs k => by
    rcases x with _ | ⟨d, _ | ⟨_, _⟩⟩
    · exact k.elim
    · obtain ⟨v, rfl, hv⟩ := hs.one
      cases d <;> try exact k.elim
      · obtain ⟨p, ws, rfl, h1, h2⟩ := hv.list S.gr
        refine ⟨p, ws, rfl, .inl ⟨SqL.of h1, fun l hl => ?_⟩⟩
        obtain ⟨S2, r2⟩ := S.here.newTup hl h2
        exact k _ _ _ S2 r2
      · obtain ⟨p, ws, rfl, h1, h2⟩ := hv.tup
        exact ⟨p, ws, rfl, .inr ⟨sq_t S.gr h1, k F H _ S.here (.tup h1 h2)⟩⟩
      · obtain ⟨p, ws, rfl, h1, h2⟩ := hv.rls
        refine ⟨p, ws, rfl, .inl ⟨S.gr.seq h1, fun l hl => ?_⟩⟩
        obtain ⟨S2, r2⟩ := S.here.newTup hl h2
        exact k _ _ _ S2 r2
    · cases d <;> exact k.elim
/-- isinstance(x, a built-in class) -/
def tyD : D → Option String
  | .non => some "NoneType"
  | .bl _ => some "bool"
  | .int _ => some "int"
  | .str _ => some "str"
  | .lst _ => some "list"
  | .tup _ => some "tuple"
  | _ => none
def isi (t n : String) : Option Bool :=
  if ["NoneType", "bool", "int", "str", "list", "tuple"].contains t && ["bool", "int", "str", "list", "tuple"].contains n then some (t == n || (t == "bool" && n == "int")) else none
theorem isi_ok {t n : String} {b : Bool} (h : isi t n = some b) : kitB t n = some b := by
  unfold isi at h
  split at h
  · rename_i hc
    simp only [List.contains_cons, List.contains_nil, Bool.or_false, Bool.and_eq_true, Bool.or_eq_true, beq_iff_eq] at hc
    obtain ⟨h1, h2⟩ := hc
    have e := Option.some.inj h
    subst e
    rcases h1 with rfl | rfl | rfl | rfl | rfl | rfl <;> rcases h2 with rfl | rfl | rfl | rfl | rfl <;> decide +kernel
  · cases h
def gIsi : List D → (O → Prop) → Prop
  | [x, .ty n], Q => match tyD x with
    | some t => ∃ b, isi t n = some b ∧ Q (.fz (.bl b))
    | none => False
  | _, _ => False
theorem BrR.tyx {F H : Hp} {v : V} {d : D} {t : String} (g : Same F H) (h : BrR K F H v d) (e : tyD d = some t) : TyX K H v (.type t) := by
  cases d <;> try (cases e <;> done)
  · cases e; rw [h.non]; exact .base .non
  · cases e; rw [h.bl]; exact .base (.bl _)
  · cases e; rw [h.int]; exact .base (.int _)
  · cases e; rw [h.str]; exact .base (.str _)
  · cases e
    obtain ⟨p, vs, rfl, h1, h2⟩ := h.list g
    exact .base (.lst h1)
  · cases e
    obtain ⟨p, vs, rfl, h1, h2⟩ := h.tup
    rcases h1 with (h1 | ⟨o, h1⟩) | ⟨o, its, n, h1, h2, _⟩
    · exact .base (.tup (g _ _ h1))
    · exact .fTuple (g _ _ h1)
    · exact .kTuple h1 h2
theorem co_isi : CallO K (rIsi K) gIsi where
  mono := fun x Q Q' hq k => by
    rcases x with _ | ⟨d, _ | ⟨d', _ | ⟨_, _⟩⟩⟩
    · exact k
    · exact k
    · cases d' <;> try exact k
      unfold gIsi at k ⊢
      dsimp only at k ⊢
      generalize tyD d = o at k ⊢
      cases o with
      | none => exact k
      | some t => obtain ⟨b, h1, h2⟩ := k; exact ⟨b, h1, hq _ h2⟩
    · cases d' <;> exact k
  run := fun c F H σ e vs x Q S hs k => by
    rcases x with _ | ⟨d, _ | ⟨d', _ | ⟨_, _⟩⟩⟩
    · exact k.elim
    · exact k.elim
    · obtain ⟨v, w, rfl, hv, hw⟩ := hs.two
      cases d' <;> try exact k.elim
      unfold gIsi at k
      dsimp only at k
      cases ed : tyD d with
      | none => rw [ed] at k; exact k.elim
      | some t =>
        rw [ed] at k
        obtain ⟨b, h1, h2⟩ := k
        rw [hw.ty]
        exact ⟨v, _, _, _, b, rfl, .ty _, hv.tyx S.gr ed, kit_ty (isi_ok h1), h2 F H _ S.here (.bl b)⟩
    · cases d' <;> exact k.elim
end
end PW
set_option Elab.async false
set_option linter.all false
set_option maxRecDepth 100000
set_option maxHeartbeats 4000000
namespace PW
open PySem PySem.Spec PyProof.Rows L2

/-! ### tests -/
def pAnd (p q : PTx) : PTx := fun e Q E => p e (fun b e1 => if b = true then q e1 Q E else Q false e1) E
def pOr (p q : PTx) : PTx := fun e Q E => p e (fun b e1 => if b = true then Q true e1 else q e1 Q E) E
def pNot (p : PTx) : PTx := fun e Q E => p e (fun b e1 => Q (!b) e1) E
def truD : D → (Bool → Prop) → Prop
  | .non, Q => Q false
  | .bl b, Q => Q b
  | .int i, Q => Q (i != 0)
  | .str s, Q => s.length ≤ sizeLine ∧ Q ((s.length : Int) != 0)
  | .lst xs, Q => Q (!xs.isEmpty)
  | .tup xs, Q => Q (!xs.isEmpty)
  | .rls xs, Q => Q (!xs.isEmpty)
  | _, _ => False
def pTru (p : PGx) : PTx := fun e Q E => p e (fun a e1 => match res e1 a with
  | some d => truD d (fun b => Q b e1)
  | none => False) E
def isBl (Q : Bool → Env → Prop) : D → Env → Prop
  | .bl b, e => Q b e
  | _, _ => False
def pVal (p : PEx) : PTx := fun e Q E => p e (isBl Q) E
theorem truD_mono : ∀ (x : D) (Q Q' : Bool → Prop), (∀ z, Q z → Q' z) → truD x Q → truD x Q' := fun x Q Q' hq k => by
  cases x <;> first | exact hq _ k | exact ⟨k.1, hq _ k.2⟩ | exact k
theorem isBl_mono {Q Q' : Bool → Env → Prop} (hq : ∀ b e, Q b e → Q' b e) : ∀ (d : D) (e : Env), isBl Q d e → isBl Q' d e := fun d e k => by
  cases d <;> first | exact hq _ _ k | exact k
section
variable {X : Cx} {W : WX} {a b e c : Expr} {rest : List Expr} {pos : Pos}
theorem sw_and1 {p : PTx} (h : ST X W a p) : SW X W (.BoolOp .And [a] pos) p := ⟨pw_and1 h.run, h.mono⟩
theorem sw_or1 {p : PTx} (h : ST X W a p) : SW X W (.BoolOp .Or [a] pos) p := ⟨pw_or1 h.run, h.mono⟩
theorem mono_And {p q : PTx} (hp : Mono p) (hq : Mono q) : Mono (pAnd p q) := fun e Q Q' E E' h1 h2 k => hp _ _ _ _ _ (fun b e1 k => by
  cases b with
  | true => exact hq _ _ _ _ _ h1 h2 k
  | false => exact h1 _ _ k) h2 k
theorem mono_Or {p q : PTx} (hp : Mono p) (hq : Mono q) : Mono (pOr p q) := fun e Q Q' E E' h1 h2 k => hp _ _ _ _ _ (fun b e1 k => by
  cases b with
  | false => exact hq _ _ _ _ _ h1 h2 k
  | true => exact h1 _ _ k) h2 k
theorem sw_and {p q : PTx} (h : ST X W a p) (hb : SW X W (.BoolOp .And (b :: rest) pos) q) : SW X W (.BoolOp .And (a :: b :: rest) pos) (pAnd p q) := by
  refine ⟨(pw_and h.run hb.run).weak fun σ H Q ⟨c, F, en, S, k⟩ => ?_, mono_And h.mono hb.mono⟩
  refine tM.go h.mono S k (fun x e1 F1 H1 v S1 r1 k1 => ?_) (fun x e1 F1 H1 cls d S1 r1 k1 => k1 F1 H1 cls d (S1.back S.gr0) r1)
  have r1' : v = x := r1
  subst r1'
  cases v with
  | true => exact ⟨c, F1, e1, S1.back S.gr0, k1⟩
  | false => exact k1 F1 H1 _ (S1.back S.gr0) rfl
theorem sw_or {p q : PTx} (h : ST X W a p) (hb : SW X W (.BoolOp .Or (b :: rest) pos) q) : SW X W (.BoolOp .Or (a :: b :: rest) pos) (pOr p q) := by
  refine ⟨(pw_or h.run hb.run).weak fun σ H Q ⟨c, F, en, S, k⟩ => ?_, mono_Or h.mono hb.mono⟩
  refine tM.go h.mono S k (fun x e1 F1 H1 v S1 r1 k1 => ?_) (fun x e1 F1 H1 cls d S1 r1 k1 => k1 F1 H1 cls d (S1.back S.gr0) r1)
  have r1' : v = x := r1
  subst r1'
  cases v with
  | false => exact ⟨c, F1, e1, S1.back S.gr0, k1⟩
  | true => exact k1 F1 H1 _ (S1.back S.gr0) rfl
theorem st_w {p : PTx} (h : SW X W a p) : ST X W a p := ⟨PW.pt h.run, h.mono⟩
theorem st_not {p : PTx} (h : ST X W a p) : ST X W (.UnaryOp .Not a pos) (pNot p) := by
  refine ⟨(pt_not h.run).weak fun σ H Q ⟨c, F, en, S, k⟩ => ?_, fun _ _ _ _ _ h1 h2 k => h.mono _ _ _ _ _ (fun _ _ => h1 _ _) h2 k⟩
  refine tM.go h.mono S k (fun x e1 F1 H1 v S1 r1 k1 => ?_) (fun x e1 F1 H1 cls d S1 r1 k1 => k1 F1 H1 cls d (S1.back S.gr0) r1)
  have r1' : v = x := r1
  subst r1'
  exact k1 F1 H1 _ (S1.back S.gr0) rfl
theorem BrR.tru {K : PySem.W.Frag} {F H : Hp} {v : V} {d : D} (g : Same F H) (h : BrR K F H v d) {Q : Bool → Prop} (k : truD d Q) : ∃ t, TruV K v H t ∧ Q t := by
  cases d <;> try exact k.elim
  · rw [h.non]; exact ⟨_, rfl, k⟩
  · rw [h.bl]; exact ⟨_, rfl, k⟩
  · rw [h.int]; exact ⟨_, rfl, k⟩
  · rw [h.str]; exact ⟨_, ⟨k.1, rfl⟩, k.2⟩
  · obtain ⟨p, vs, rfl, h1, h2⟩ := h.list g
    exact ⟨_, .inl ⟨vs, SqL.of h1, rfl⟩, by rw [h2.isEmpty]; exact k⟩
  · obtain ⟨p, vs, rfl, h1, h2⟩ := h.tup
    exact ⟨_, .inr (.inl ⟨vs, sq_t g h1, rfl⟩), by rw [h2.isEmpty]; exact k⟩
  · obtain ⟨p, vs, rfl, h1, h2⟩ := h.rls
    exact ⟨_, .inl ⟨vs, g.seq h1, rfl⟩, by rw [h2.isEmpty]; exact k⟩
theorem st_tru {p : PGx} (h : SG X W a p) (he : ∀ whole, isTrue a X.env whole = (do let v ← whole; standAt a.pos; holding [v] (truthy v)) := by intro _; rfl) : ST X W a (pTru p) := by
  refine ⟨(pt_truth h.run he).weak fun σ H Q ⟨c, F, en, S, k⟩ => ?_, fun _ _ _ _ _ h1 h2 k => h.mono _ _ _ _ _ (fun x e1 k => ?_) h2 k⟩
  · refine tM.go h.mono S k (fun x e1 F1 H1 v S1 r1 k1 => ?_) (fun x e1 F1 H1 cls d S1 r1 k1 => k1 F1 H1 cls d (S1.back S.gr0) r1)
    cases ex : res e1 x with
    | none => simp only [ex] at k1
    | some d =>
      simp only [ex] at k1
      obtain ⟨t, h1, h2⟩ := BrR.tru S1.gr (ArgR.br S1 r1 ex) k1
      exact ⟨t, h1, h2 F1 H1 t (S1.back S.gr0) rfl⟩
  · cases ex : res e1 x with
    | none => simp only [ex] at k
    | some d =>
      simp only [ex] at k ⊢
      exact truD_mono _ _ _ (fun z => h1 z e1) k
theorem st_val {p : PEx} (h : SF X W a p) (he : ∀ whole, isTrue a X.env whole = (do let v ← whole; standAt a.pos; holding [v] (truthy v)) := by intro _; rfl) : ST X W a (pVal p) := by
  refine ⟨(pt_val h.run he).weak fun σ H Q ⟨c, F, en, S, k⟩ => ?_, fun _ _ _ _ _ h1 h2 k => h.mono _ _ _ _ _ (isBl_mono h1) h2 k⟩
  refine tM.go h.mono S k (fun x e1 F1 H1 v S1 r1 k1 => ?_) (fun x e1 F1 H1 cls d S1 r1 k1 => k1 F1 H1 cls d (S1.back S.gr0) r1)
  cases x <;> try exact k1.elim
  have r1' : Rp X.K F1 v (.bl _) := r1
  cases r1'
  exact ⟨_, rfl, k1 F1 H1 _ (S1.back S.gr0) rfl⟩
/-- a if t else b -/
def pIfE (t : PTx) (p q : POx) : POx := fun e Q E => t e (fun b e1 => if b = true then p e1 Q E else q e1 Q E) E
theorem so_ifE {t : PTx} {p q : POx} (h : ST X W c t) (ha : SO X W a p) (hb : SO X W b q) : SO X W (.IfExp c a b pos) (pIfE t p q) := by
  refine ⟨(pe_ifExp h.run ha.run hb.run).weak fun σ H Q ⟨c, F, en, S, k⟩ => ?_, fun _ _ _ _ _ h1 h2 k => h.mono _ _ _ _ _ (fun x e1 k => ?_) h2 k⟩
  · refine tM.go h.mono S k (fun x e1 F1 H1 v S1 r1 k1 => ?_) (fun x e1 F1 H1 cls d S1 r1 k1 => k1 F1 H1 cls d (S1.back S.gr0) r1)
    have r1' : v = x := r1
    subst r1'
    cases v with
    | true => exact ⟨c, F1, e1, S1.back S.gr0, k1⟩
    | false => exact ⟨c, F1, e1, S1.back S.gr0, k1⟩
  · cases x with
    | true => exact ha.mono _ _ _ _ _ h1 h2 k
    | false => exact hb.mono _ _ _ _ _ h1 h2 k
/-- and, or, not as values: truth values -/
def pAndV (p q : PEx) : PEx := fun e Q E => p e (isBl fun b e1 => if b = true then q e1 Q E else Q (.bl false) e1) E
def pOrV (p q : PEx) : PEx := fun e Q E => p e (isBl fun b e1 => if b = true then Q (.bl true) e1 else q e1 Q E) E
def pNotV (p : PEx) : PEx := fun e Q E => p e (isBl fun b e1 => Q (.bl (!b)) e1) E
theorem sf_one {op} {p : PEx} (h : SF X W a p) : SF X W (.BoolOp op [a] pos) p := ⟨pe_one h.run, h.mono⟩
theorem sf_and {p q : PEx} (h : SF X W a p) (hb : SF X W (.BoolOp .And (b :: rest) pos) q) : SF X W (.BoolOp .And (a :: b :: rest) pos) (pAndV p q) := by
  refine ⟨(pe_and h.run hb.run).weak fun σ H Q ⟨c, F, en, S, k⟩ => ?_, fun _ _ _ _ _ h1 h2 k => h.mono _ _ _ _ _ (isBl_mono fun x e1 k => ?_) h2 k⟩
  · refine tM.go h.mono S k (fun x e1 F1 H1 v S1 r1 k1 => ?_) (fun x e1 F1 H1 cls d S1 r1 k1 => k1 F1 H1 cls d (S1.back S.gr0) r1)
    cases x <;> try exact k1.elim
    rename_i t
    have r1' : Rp X.K F1 v (.bl t) := r1
    cases r1'
    refine ⟨t, rfl, ?_⟩
    cases t with
    | true => exact ⟨c, F1, e1, S1.back S.gr0, k1⟩
    | false => exact k1 F1 H1 _ (S1.back S.gr0) (.bl _)
  · cases x with
    | true => exact hb.mono _ _ _ _ _ h1 h2 k
    | false => exact h1 _ _ k
theorem sf_or {p q : PEx} (h : SF X W a p) (hb : SF X W (.BoolOp .Or (b :: rest) pos) q) : SF X W (.BoolOp .Or (a :: b :: rest) pos) (pOrV p q) := by
  refine ⟨(pe_or h.run hb.run).weak fun σ H Q ⟨c, F, en, S, k⟩ => ?_, fun _ _ _ _ _ h1 h2 k => h.mono _ _ _ _ _ (isBl_mono fun x e1 k => ?_) h2 k⟩
  · refine tM.go h.mono S k (fun x e1 F1 H1 v S1 r1 k1 => ?_) (fun x e1 F1 H1 cls d S1 r1 k1 => k1 F1 H1 cls d (S1.back S.gr0) r1)
    cases x <;> try exact k1.elim
    rename_i t
    have r1' : Rp X.K F1 v (.bl t) := r1
    cases r1'
    refine ⟨t, rfl, ?_⟩
    cases t with
    | false => exact ⟨c, F1, e1, S1.back S.gr0, k1⟩
    | true => exact k1 F1 H1 _ (S1.back S.gr0) (.bl _)
  · cases x with
    | false => exact hb.mono _ _ _ _ _ h1 h2 k
    | true => exact h1 _ _ k
theorem sf_not {p : PEx} (h : SF X W a p) : SF X W (.UnaryOp .Not a pos) (pNotV p) := by
  refine ⟨(pe_not h.run).weak fun σ H Q ⟨c, F, en, S, k⟩ => ?_, fun _ _ _ _ _ h1 h2 k => h.mono _ _ _ _ _ (isBl_mono fun x e1 k => h1 _ _ k) h2 k⟩
  refine tM.go h.mono S k (fun x e1 F1 H1 v S1 r1 k1 => ?_) (fun x e1 F1 H1 cls d S1 r1 k1 => k1 F1 H1 cls d (S1.back S.gr0) r1)
  cases x <;> try exact k1.elim
  rename_i t
  have r1' : Rp X.K F1 v (.bl t) := r1
  cases r1'
  exact ⟨t, rfl, k1 F1 H1 _ (S1.back S.gr0) (.bl _)⟩
/-- -a -/
def isInt (Q : Int → Env → Prop) : D → Env → Prop
  | .int b, e => Q b e
  | _, _ => False
theorem isInt_mono {Q Q' : Int → Env → Prop} (hq : ∀ b e, Q b e → Q' b e) : ∀ (d : D) (e : Env), isInt Q d e → isInt Q' d e := fun d e k => by
  cases d <;> first | exact hq _ _ k | exact k
def pNeg (p : PEx) : PEx := fun e Q E => p e (isInt fun i e1 => Q (.int (-i)) e1) E
theorem sf_neg {p : PEx} (h : SF X W a p) : SF X W (.UnaryOp .USub a pos) (pNeg p) := by
  refine ⟨(pe_un un_neg h.run).weak fun σ H Q ⟨c, F, en, S, k⟩ => ?_, fun _ _ _ _ _ h1 h2 k => h.mono _ _ _ _ _ (isInt_mono fun x e1 k => h1 _ _ k) h2 k⟩
  refine tM.go h.mono S k (fun x e1 F1 H1 v S1 r1 k1 => ?_) (fun x e1 F1 H1 cls d S1 r1 k1 => k1 F1 H1 cls d (S1.back S.gr0) r1)
  cases x <;> try exact k1.elim
  rename_i t
  have r1' : Rp X.K F1 v (.int t) := r1
  cases r1'
  exact ⟨t, rfl, k1 F1 H1 _ (S1.back S.gr0) (.int _)⟩

/-! ### displays -/
def allInl : List Arg → Option (List D)
  | [] => some []
  | .inl d :: as => (allInl as).map (d :: ·)
  | .inr _ :: _ => none
def pDisp (mk : List D → O) (p : PAs) : POx := fun e Q E => p e (fun as e1 => match allInl as with
  | some ds => ds.length ≤ sizeLine ∧ Q (mk ds) e1
  | none => False) E
theorem ArgsR.rps {K : PySem.W.Frag} {F : Hp} {σ : L2.St} : ∀ {vs : List V} {as : List Arg} {ds : List D}, ArgsR K F σ vs as → allInl as = some ds → Rps K F vs ds
  | _, _, _, .nil, r => by cases r; exact .nil
  | _, _, _, .cons (a := .inl d) (as := as) h hs, r => by
    unfold allInl at r
    cases e : allInl as with
    | none => rw [e] at r; cases r
    | some ds => rw [e] at r; cases r; exact .cons h (ArgsR.rps hs e)
  | _, _, _, .cons (a := .inr j) _ _, r => by cases r
theorem mono_Disp {mk : List D → O} {p : PAs} (h : Mono p) : Mono (pDisp mk p) := fun _ _ _ _ _ h1 h2 k => h _ _ _ _ _ (fun as e1 k => by
  generalize allInl as = o at k ⊢
  cases o with
  | none => exact k
  | some ds => exact ⟨k.1, h1 _ _ k.2⟩) h2 k
theorem so_tup {es : List Expr} {x1} {p : PAs} (h : SA X W es p) : SO X W (.Tuple es x1 pos) (pDisp (fun ds => .fz (.tup ds)) p) := by
  refine ⟨(pe_tup h.run).weak fun σ H Q ⟨c, F, en, S, k⟩ => ?_, mono_Disp h.mono⟩
  refine tM.go h.mono S k (fun as e1 F1 H1 vs S1 r1 k1 => ?_) (fun x e1 F1 H1 cls d S1 r1 k1 => k1 F1 H1 cls d (S1.back S.gr0) r1)
  cases ea : allInl as with
  | none => simp only [ea] at k1
  | some ds =>
    simp only [ea] at k1
    have rp := ArgsR.rps r1 ea
    refine ⟨by rw [rp.length]; exact k1.1, fun p hp => ?_⟩
    obtain ⟨S2, r2⟩ := (S1.back S.gr0).newTup hp rp
    exact k1.2 _ _ _ S2 r2
theorem so_lst {es : List Expr} {p : PAs} (h : SA X W es p) : SO X W (.List es pos) (pDisp (fun ds => .ow false ds) p) := by
  refine ⟨(pe_lst h.run).weak fun σ H Q ⟨c, F, en, S, k⟩ => ?_, mono_Disp h.mono⟩
  refine tM.go h.mono S k (fun as e1 F1 H1 vs S1 r1 k1 => ?_) (fun x e1 F1 H1 cls d S1 r1 k1 => k1 F1 H1 cls d (S1.back S.gr0) r1)
  cases ea : allInl as with
  | none => simp only [ea] at k1
  | some ds =>
    simp only [ea] at k1
    have rp := ArgsR.rps r1 ea
    refine ⟨by rw [rp.length]; exact k1.1, fun p hp => ?_⟩
    obtain ⟨S2, r2⟩ := (S1.back S.gr0).fresh (an := false) hp rp
    exact k1.2 _ _ _ S2 r2

/-! ### slices -/
def cutD (xs : List D) (lo hi : Option Int) : List D := (xs.drop (HT.sIx xs.length 0 lo)).take (HT.sIx xs.length xs.length hi - HT.sIx xs.length 0 lo)
theorem Rps.cut {K : PySem.W.Frag} {F : Hp} {vs : List V} {ds : List D} {lo hi : Option Int} (h : Rps K F vs ds) : Rps K F (cutV vs lo hi) (cutD ds lo hi) := by
  unfold cutV cutD
  rw [h.length]
  exact (h.drop _).take _
def cutO (o : D) (lo hi : Option Int) (Q : O → Prop) : Prop := match o with
  | .lst xs => Q (.ow false (cutD xs lo hi))
  | .rls xs => Q (.ow false (cutD xs lo hi))
  | .tup xs => Q (.fz (.tup (cutD xs lo hi)))
  | _ => False
abbrev PPt := PM (Option Int)
def pNoPt : PPt := fun e Q _ => Q none e
def pPt (p : PEx) : PPt := fun e Q E => p e (isInt fun i e1 => Q (some i) e1) E
def pCut (p : PGx) (lo hi : PPt) : POx := fun e Q E => p e (fun a e1 => lo e1 (fun l e2 => hi e2 (fun h e3 => match res e3 a with
  | some d => cutO d l h (fun z => Q z e3)
  | none => False) E) E) E
structure SPo (X : Cx) (W : WX) (e : Option Expr) (p : PPt) : Prop where
  run : PO X e (fun σ H Q => tM X.K W (fun _ _ _ _ _ v a => v = a) p σ H Q)
  mono : Mono p
theorem _root_.L2.PO.weak {X : Cx} {e : Option Expr} {t t' : TO} (h : PO X e t) (w : ∀ σ H Q, t' σ H Q → t σ H Q) : PO X e t' := ⟨fun pins s σ H Q I q => h.run pins s σ H Q I (w σ H Q q)⟩
theorem spo_none : SPo X W none pNoPt := ⟨po_none.weak fun σ H Q ⟨c, F, en, S, k⟩ => k F H none S rfl, fun _ _ _ _ _ hq _ h => hq _ _ h⟩
theorem spo_some {p : PEx} (h : SF X W a p) : SPo X W (some a) (pPt p) := by
  refine ⟨(po_some h.run).weak fun σ H Q ⟨c, F, en, S, k⟩ => ?_, fun _ _ _ _ _ h1 h2 k => h.mono _ _ _ _ _ (isInt_mono fun x e1 k => h1 _ _ k) h2 k⟩
  refine tM.go h.mono S k (fun x e1 F1 H1 v S1 r1 k1 => ?_) (fun x e1 F1 H1 cls d S1 r1 k1 => k1 F1 H1 cls d (S1.back S.gr0) r1)
  cases x <;> try exact k1.elim
  rename_i t
  have r1' : Rp X.K F1 v (.int t) := r1
  cases r1'
  exact ⟨t, rfl, k1 F1 H1 _ (S1.back S.gr0) rfl⟩
theorem cutO_mono : ∀ (d : D) (l h : Option Int) (Q Q' : O → Prop), (∀ z, Q z → Q' z) → cutO d l h Q → cutO d l h Q' := fun d l h Q Q' hq k => by
  cases d <;> first | exact hq _ k | exact k
def rSlAll (K : PySem.W.Frag) : V → Option Int → Option Int → Hp → VK → Prop := fun x lo hi H Q => rSlL K x lo hi H Q ∨ rSlA K x lo hi H Q
theorem cut_whole {xs : List D} {lo hi : Option Int} (h : HT.sIx xs.length 0 lo = 0 ∧ HT.sIx xs.length xs.length hi = xs.length) : cutD xs lo hi = xs := by
  unfold cutD
  rw [h.1, h.2, List.drop_zero, Nat.sub_zero, List.take_length]
theorem so_cut {lo hi : Option Expr} {p2 : Pos} {p : PGx} {pl ph : PPt} (h : SG X W a p) (hl : SPo X W lo pl) (hh : SPo X W hi ph) : SO X W (.Subscript a (.Slice lo hi none p2) pos) (pCut p pl ph) := by
  refine ⟨(pe_slice (r := rSlAll X.K) (sl_list.or sl_tupA) h.run hl.run hh.run).weak fun σ H Q ⟨c, F, en, S, k⟩ => ?_, fun _ _ _ _ _ h1 h2 k => h.mono _ _ _ _ _ (fun x e1 k => hl.mono _ _ _ _ _ (fun l e2 k => hh.mono _ _ _ _ _ (fun u e3 k => ?_) h2 k) h2 k) h2 k⟩
  · refine tM.go h.mono S k (fun x e1 F1 H1 v S1 r1 k1 => ?_) (fun x e1 F1 H1 cls d S1 r1 k1 => k1 F1 H1 cls d (S1.back S.gr0) r1)
    refine tM.go hl.mono S1 k1 (fun l e2 F2 H2 w S2 r2 k2 => ?_) (fun x e2 F2 H2 cls d S2 r2 k2 => k2 F2 H2 cls d ((S2.back (c := { c with F0 := F }) S1.gr0).back S.gr0) r2)
    have r2' : w = l := r2
    subst r2'
    refine tM.go hh.mono S2 k2 (fun u e3 F3 H3 w3 S3 r3 k3 => ?_) (fun x e3 F3 H3 cls d S3 r3 k3 => k3 F3 H3 cls d (((S3.back (c := { c with F0 := F1 }) S2.gr0).back (c := { c with F0 := F }) S1.gr0).back S.gr0) r3)
    have r3' : w3 = u := r3
    subst r3'
    cases ex : res e3 x with
    | none => simp only [ex] at k3
    | some d =>
      simp only [ex] at k3
      have S' := ((S3.back (c := { c with F0 := F1 }) S2.gr0).back (c := { c with F0 := F }) S1.gr0).back S.gr0
      have br := ArgR.br S' (ArgR.mono (S2.gr0.trans S3.gr0) r1) ex
      cases d <;> try exact k3.elim
      · obtain ⟨q, vs, rfl, h1, h2⟩ := br.list S'.gr
        refine .inl ⟨q, vs, rfl, SqL.of h1, fun p hp => ?_⟩
        obtain ⟨S4, r4⟩ := S'.fresh (an := false) hp (h2.cut (lo := w) (hi := w3))
        exact k3 _ _ _ S4 r4
      · obtain ⟨q, vs, rfl, h1, h2⟩ := br.tup
        have hc := h2.cut (lo := w) (hi := w3)
        refine .inr ⟨q, vs, rfl, sq_t S'.gr h1, fun hw => ?_, fun _ p hp => ?_⟩
        · rw [h2.length] at hw
          refine k3 _ _ _ S' ?_
          show Rp X.K F3 (.ref q) (.tup (cutD _ w w3))
          rw [cut_whole hw]
          exact .tup h1 h2
        · obtain ⟨S4, r4⟩ := S'.newTup hp hc
          exact k3 _ _ _ S4 r4
      · obtain ⟨q, vs, rfl, h1, h2⟩ := br.rls
        refine .inl ⟨q, vs, rfl, S'.gr.seq h1, fun p hp => ?_⟩
        obtain ⟨S4, r4⟩ := S'.fresh (an := false) hp (h2.cut (lo := w) (hi := w3))
        exact k3 _ _ _ S4 r4
  · cases ex : res e3 x with
    | none => simp only [ex] at k
    | some d =>
      simp only [ex] at k ⊢
      exact cutO_mono _ _ _ _ _ (fun z => h1 z e3) k
end
end PW
set_option Elab.async false
set_option linter.all false
set_option maxRecDepth 100000
set_option maxHeartbeats 4000000
namespace PW
open PySem PySem.Spec PyProof.Rows L2

/-! ### statements -/
def stR (e : Env) (i : Nat) (r : O) (k : Env → Prop) : Prop := match r with
  | .un => False
  | .ce _ _ => False
  | .fz d => k (e.set i (.fz d))
  | .ow _ ds => k (e.set i (.ow false ds))
/-- a slot that may be stored to -/
def freeO : O → Prop
  | .un => True
  | .fz _ => True
  | .ow an _ => an = false
  | .ce _ _ => False
/-- a slot is stored to -/
def stO (e : Env) (i : Nat) (r : O) (k : Env → Prop) : Prop := match e[i]? with
  | none => False
  | some o => freeO o ∧ stR e i r k
theorem stO_mono {e : Env} {i : Nat} {r : O} {k k' : Env → Prop} (h : ∀ e, k e → k' e) (q : stO e i r k) : stO e i r k' := by
  unfold stO at q ⊢
  generalize e[i]? = o at q ⊢
  cases o with
  | none => exact q
  | some o => exact ⟨q.1, by have := q.2; cases r <;> first | exact h _ this | exact this⟩
theorem StR.stO {K : PySem.W.Frag} {c : PCx} {F H : Hp} {σ : L2.St} {e : Env} {i : Nat} {v : V} {r : O} {k : Env → Prop} (S : StR K c F H σ e) (hr : OvR K c F H σ e v r) (q : PW.stO e i r k) : ∃ e', StR K c F H (σ.set i (some v)) e' ∧ k e' := by
  unfold PW.stO at q
  cases ei : e[i]? with
  | none => rw [ei] at q; exact q.elim
  | some old =>
    rw [ei] at q
    obtain ⟨hf, q'⟩ := q
    have hn : ∀ ds, old ≠ .ow true ds := fun ds z => by subst z; cases hf
    have hnc : ∀ a ds, old ≠ .ce a ds := fun a ds z => by subst z; exact hf
    cases r with
    | un => exact q'.elim
    | ce a ds => exact q'.elim
    | fz d => exact ⟨_, S.store ei hn hnc hr (fun _ z => nomatch z), q'⟩
    | ow an ds => exact ⟨_, S.store (r := .ow false ds) ei hn hnc hr (fun _ z => nomatch z), q'⟩
section
variable {X : Cx} {W : WX} {a b e : Expr} {pos : Pos}
def pNext : PSt := fun D e => D.nx e
def pSeq (p q : PSt) : PSt := fun D e => p { D with nx := q D } e
theorem mono_Next : MonoS pNext := fun D D' e h k => h.nx _ k
theorem mono_Seq {p q : PSt} (hp : MonoS p) (hq : MonoS q) : MonoS (pSeq p q) := fun D D' e h k => hp { D with nx := q D } { D' with nx := q D' } e ⟨fun e k => hq _ _ _ h k, h.rt, h.ex, h.bk, h.ct⟩ k
theorem ss_nil : SSs X W [] pNext := ⟨pss_nil.weak fun D σ H ⟨c, F, en, S, k⟩ => k F H σ S, mono_Next⟩
theorem ss_cons {st : Stmt} {rest : List Stmt} {p q : PSt} (h : SS X W st p) (hr : SSs X W rest q) : SSs X W (st :: rest) (pSeq p q) :=
  ⟨(pss_cons h.run hr.run).weak fun D σ H ⟨c, F, en, S, k⟩ => ⟨c, F, en, S, by
    refine h.mono _ _ _ ?_ (show p { nx := q _, rt := _, ex := _, bk := _, ct := _ } en from k)
    exact ⟨fun e' k F' H' σ' S' => ⟨c, F', e', S', k⟩, fun _ _ k => k, fun _ _ k => k, fun _ k => k, fun _ k => k⟩⟩, mono_Seq h.mono hr.mono⟩
theorem ss_one {st : Stmt} {p : PSt} (h : SS X W st p) : SSs X W [st] p := ⟨pss_one h.run, h.mono⟩
theorem ss_pass : SS X W (.Pass pos) pNext := ⟨ps_pass.weak fun D σ H ⟨c, F, en, S, k⟩ => k F H σ S, mono_Next⟩
theorem ss_doc {x j pos'} : SS X W (.Expr (.Constant (.str x) j pos) pos') pNext := ⟨ps_doc.weak fun D σ H ⟨c, F, en, S, k⟩ => k F H σ S, mono_Next⟩
def pBrk : PSt := fun D e => D.bk e
def pCnt : PSt := fun D e => D.ct e
theorem ss_break : SS X W (.Break pos) pBrk := ⟨ps_break.weak fun D σ H ⟨c, F, en, S, k⟩ => k F H σ S, fun D D' e h k => h.bk _ k⟩
theorem ss_continue : SS X W (.Continue pos) pCnt := ⟨ps_continue.weak fun D σ H ⟨c, F, en, S, k⟩ => k F H σ S, fun D D' e h k => h.ct _ k⟩
def pRet (p : POx) : PSt := fun D e => p e D.rt D.ex
theorem ss_ret {p : POx} (h : SO X W e p) : SS X W (.Return (some e) pos) (pRet p) := by
  refine ⟨(ps_ret h.run).weak fun D σ H ⟨c, F, en, S, k⟩ => ?_, fun D D' e hl k => h.mono _ _ _ _ _ hl.rt hl.ex k⟩
  exact tM.go h.mono S k (fun r e1 F1 H1 v S1 r1 k1 => k1 F1 H1 σ v (S1.back S.gr0) r1) (fun x e1 F1 H1 cls d S1 r1 k1 => k1 F1 H1 σ cls d (S1.back S.gr0) r1)
def pRetN : PSt := fun D e => D.rt (.fz .non) e
theorem ss_retN : SS X W (.Return none pos) pRetN := ⟨ps_retN.weak fun D σ H ⟨c, F, en, S, k⟩ => k F H σ .non S Rp.non, fun D D' e h k => h.rt _ _ k⟩
def pDrop (p : POx) : PSt := fun D e => p e (fun _ e1 => D.nx e1) D.ex
theorem ss_expr {p : POx} (h : SO X W e p) (hs : swapsWith e none pos.line X.env = pure false := by rfl) : SS X W (.Expr e pos) (pDrop p) := by
  refine ⟨(ps_expr h.run hs).weak fun D σ H ⟨c, F, en, S, k⟩ => ?_, fun D D' e hl k => h.mono _ _ _ _ _ (fun _ e k => hl.nx _ k) hl.ex k⟩
  exact tM.go h.mono S k (fun r e1 F1 H1 v S1 r1 k1 => k1 F1 H1 σ (S1.back S.gr0)) (fun x e1 F1 H1 cls d S1 r1 k1 => k1 F1 H1 σ cls d (S1.back S.gr0) r1)
def pAsg (i : Nat) (p : POx) : PSt := fun D e => p e (fun r e1 => stO e1 i r D.nx) D.ex
theorem mono_Asg {i : Nat} {p : POx} (h : Mono p) : MonoS (pAsg i p) := fun D D' e hl k => h _ _ _ _ _ (fun r e k => stO_mono hl.nx k) hl.ex k
theorem asg_run {i : Nat} {p : POx} (hp : Mono p) {D : Ends} {σ : L2.St} {H : Hp} (h : tS X.K W (pAsg i p) D σ H) : tAsg (tM X.K W (RO X.K) p) (gName i) D σ H := by
  obtain ⟨c, F, en, S, k⟩ := h
  refine tM.go hp S k (fun r e1 F1 H1 v S1 r1 k1 => ?_) (fun x e1 F1 H1 cls d S1 r1 k1 => k1 F1 H1 σ cls d (S1.back S.gr0) r1)
  obtain ⟨e2, S2, k2⟩ := (S1.back S.gr0).stO r1 k1
  exact k2 F1 H1 _ S2
theorem ss_asg {i : Nat} {x : Str} {pos' : Pos} {p : POx} (h : SO X W e p) (hN : X.N.Nodup) (hi : X.N[i]? = some x) (hx : Loc X.env.scope x) (hs : swapsWith e (some (.Name x pos')) pos.line X.env = pure false := by rfl) (hf : X.fn x = true ∨ X.env.scope.names.lookup x = some .local := by first | exact .inl rfl | exact .inr rfl | assumption) :
    SS X W (.Assign [.Name x pos'] e pos) (pAsg i p) := ⟨(ps_set hN hi hx h.run hs hf).weak fun _ _ _ h' => asg_run h.mono h', mono_Asg h.mono⟩
/-! ### targets -/
abbrev PTg := D → Env → (Env → Prop) → Prop
/-- all slots but these are as they were -/
def Sb (sl : List Nat) (σ σ' : L2.St) : Prop := σ'.length = σ.length ∧ ∀ i, i ∉ sl → σ'[i]? = σ[i]?
theorem Sb.refl (sl : List Nat) (σ : L2.St) : Sb sl σ σ := ⟨rfl, fun _ _ => rfl⟩
theorem Sb.trans {s1 s2 : List Nat} {σ σ1 σ2 : L2.St} (a : Sb s1 σ σ1) (b : Sb s2 σ1 σ2) : Sb (s1 ++ s2) σ σ2 :=
  ⟨b.1.trans a.1, fun i hi => (b.2 i fun z => hi (List.mem_append_right _ z)).trans (a.2 i fun z => hi (List.mem_append_left _ z))⟩
def tG (K : PySem.W.Frag) (sl : List Nat) (g : PTg) : TG := fun v σ H Q => ∃ (c : PCx) (F : Hp) (e : Env) (d : D), StR K c F H σ e ∧ Rp K F v d ∧ g d e (fun e' => ∀ σ', StR K c F H σ' e' → Sb sl σ σ' → Q σ' H)
structure SGt (X : Cx) (e : Expr) (sl : List Nat) (g : PTg) : Prop where
  run : PG X e (tG X.K sl g)
  mono : ∀ d e (k k' : Env → Prop), (∀ e, k e → k' e) → g d e k → g d e k'
theorem _root_.L2.PG.weak {X : Cx} {e : Expr} {t t' : TG} (h : PG X e t) (w : ∀ v σ H Q, t' v σ H Q → t v σ H Q) : PG X e t' := ⟨fun pins s σ H v u Q I r q => h.run pins s σ H v u Q I r (w v σ H Q q)⟩
def gtN (i : Nat) : PTg := fun d e k => stO e i (.fz d) k
theorem sgt_name {i : Nat} {x : Str} (hN : X.N.Nodup) (hi : X.N[i]? = some x) (hx : Loc X.env.scope x) (hf : X.fn x = true ∨ X.env.scope.names.lookup x = some .local := by first | exact .inl rfl | exact .inr rfl | assumption) : SGt X (.Name x pos) [i] (gtN i) := by
  refine ⟨(pg_name hN hi hx hf).weak fun v σ H Q ⟨c, F, en, d, S, r, k⟩ => ?_, fun d e k k' h q => stO_mono h q⟩
  obtain ⟨e2, S2, k2⟩ := S.stO (v := v) (r := .fz d) r k
  exact k2 _ S2 ⟨List.length_set .., fun j hj => set_other fun z => hj (by simp [z])⟩
/-- several targets -/
abbrev PTgs := List D → Env → (Env → Prop) → Prop
def tGs (K : PySem.W.Frag) (sl : List Nat) (g : PTgs) : TGs := fun vs σ H Q => ∃ (c : PCx) (F : Hp) (e : Env) (ds : List D), StR K c F H σ e ∧ Rps K F vs ds ∧ g ds e (fun e' => ∀ σ', StR K c F H σ' e' → Sb sl σ σ' → Q σ' H)
structure SGts (X : Cx) (es : List Expr) (sl : List Nat) (g : PTgs) : Prop where
  run : PGs X es (tGs X.K sl g)
  mono : ∀ ds e (k k' : Env → Prop), (∀ e, k e → k' e) → g ds e k → g ds e k'
theorem _root_.L2.PGs.weak {X : Cx} {e : List Expr} {t t' : TGs} (h : PGs X e t) (w : ∀ v σ H Q, t' v σ H Q → t v σ H Q) : PGs X e t' := ⟨fun pins s σ H v u Q I r q => h.run pins s σ H v u Q I r (w v σ H Q q)⟩
def gtsNil : PTgs := fun ds e k => match ds with
  | [] => k e
  | _ :: _ => False
def gtsCons (g : PTg) (gs : PTgs) : PTgs := fun ds e k => match ds with
  | [] => False
  | d :: ds => g d e (fun e1 => gs ds e1 k)
theorem sgts_nil : SGts X [] [] gtsNil := by
  refine ⟨pgs_nil.weak fun vs σ H Q ⟨c, F, en, ds, S, r, k⟩ => ?_, fun ds e k k' h q => ?_⟩
  · cases r with
    | nil => exact ⟨rfl, k _ S (Sb.refl _ _)⟩
    | cons _ _ => exact k.elim
  · cases ds <;> first | exact h _ q | exact q
theorem sgts_cons {es : List Expr} {s1 s2 : List Nat} {g : PTg} {gs : PTgs} (h1 : SGt X e s1 g) (h2 : SGts X es s2 gs) (hs : (assignEach (e :: es) X.env).map (·.2) = assign e X.env :: (assignEach es X.env).map (·.2) := by rfl) : SGts X (e :: es) (s1 ++ s2) (gtsCons g gs) := by
  refine ⟨(pgs_cons h1.run h2.run hs).weak fun vs σ H Q ⟨c, F, en, ds, S, r, k⟩ => ?_, fun ds e k k' h q => ?_⟩
  · cases r with
    | nil => exact k.elim
    | cons r rs =>
      refine ⟨_, _, rfl, c, F, en, _, S, r, h1.mono _ _ _ _ (fun e1 k σ1 S1 b1 => ?_) k⟩
      exact ⟨c, F, e1, _, S1, rs, h2.mono _ _ _ _ (fun e2 k σ2 S2 b2 => k σ2 S2 (b1.trans b2)) k⟩
  · cases ds with
    | nil => exact q
    | cons d ds => exact h1.mono _ _ _ _ (fun e1 q => h2.mono _ _ _ _ h q) q
def gtT (n : Nat) (gs : PTgs) : PTg := fun d e k => match d with
  | .tup ds => ds.length = n ∧ gs ds e k
  | _ => False
theorem sgt_tup {es : List Expr} {k : Nat} {sl : List Nat} {gs : PTgs} {n : Nat} (hc : X.calm = true) (h : SGts X es sl gs) (hn : (assignEach es X.env).length = n := by rfl) (hst : (assignEach es X.env).findIdx? (·.1) = none := by rfl) : SGt X (.Tuple es k pos) sl (gtT n gs) := by
  refine ⟨(pg_tup hc h.run hn hst).weak fun v σ H Q ⟨c, F, en, d, S, r, k⟩ => ?_, fun d e k k' hh q => ?_⟩
  · cases d <;> try exact k.elim
    cases r with
    | tup hq hs => exact ⟨_, _, rfl, sq_t S.gr hq, by rw [hs.length]; exact k.1, c, F, en, _, S, hs, k.2⟩
  · cases d <;> first | exact q.elim | exact ⟨q.1, h.mono _ _ _ _ hh q.2⟩
/-- (a, b) = e -/
def pAsgG (g : PTg) (p : PEx) : PSt := fun D e => p e (fun d e1 => g d e1 D.nx) D.ex
theorem ss_asgG {tg : Expr} {sl : List Nat} {g : PTg} {p : PEx} (h : SF X W e p) (hg : SGt X tg sl g) (hs : swapsWithSole [tg] e pos.line X.env = pure false := by rfl) (hw : swappedStores [tg] e X.env = pure none := by rfl)
    (h1 : (assignEach [tg] X.env).map (·.2) = [assign tg X.env] := by rfl) : SS X W (.Assign [tg] e pos) (pAsgG g p) := by
  refine ⟨(ps_asg h.run hg.run hs hw h1).weak fun D σ H ⟨c, F, en, S, k⟩ => ?_, fun D D' e hl k => h.mono _ _ _ _ _ (fun d e k => hg.mono _ _ _ _ hl.nx k) hl.ex k⟩
  refine tM.go h.mono S k (fun r e1 F1 H1 v S1 r1 k1 => ?_) (fun x e1 F1 H1 cls d S1 r1 k1 => k1 F1 H1 σ cls d (S1.back S.gr0) r1)
  exact ⟨c, F1, e1, r, S1.back S.gr0, r1, hg.mono _ _ _ _ (fun e2 k σ2 S2 _ => k F1 H1 σ2 S2) k1⟩

/-! ### what an owned list is made to do -/
/-- x.append(e) -/
def owAt (e : Env) (j : Nat) (k : Bool → List D → Prop) : Prop := match e[j]? with
  | some (.ow an ds) => k an ds
  | _ => False
theorem owAt_mono {e : Env} {j : Nat} {k k' : Bool → List D → Prop} (h : ∀ a d, k a d → k' a d) (q : owAt e j k) : owAt e j k' := by
  unfold owAt at q ⊢
  generalize e[j]? = o at q ⊢
  cases o with
  | none => exact q
  | some o => cases o <;> first | exact h _ _ q | exact q
theorem owAt_get {e : Env} {j : Nat} {k : Bool → List D → Prop} (q : owAt e j k) : ∃ an ds, e[j]? = some (.ow an ds) ∧ k an ds := by
  unfold owAt at q
  split at q
  · exact ⟨_, _, by assumption, q⟩
  · exact q.elim
def pApp (j : Nat) (p : PEx) : PEx := fun e Q E => owAt e j fun _ _ => p e (fun d e1 => owAt e1 j fun an ds => ds.length < sizeLine ∧ Q .non (e1.set j (.ow an (ds ++ [d])))) E
theorem sf_append {j : Nat} {p1 p2 : Pos} {p : PEx} (h : PE X e (tVar j)) (ha : SF X W a p) (hbase : attributeBase e "append" X.env (eval e X.env) = eval e X.env := by rfl)
    (hfew : ((backTo p2 (starEach [a] X.env)).all (fun x => !x.1) && (backToKw p2 (keywordEach [] X.env)).all (fun x => x.1.isSome) && decide ([a].length + ([] : List Keyword).length + (if ([] : List Keyword).isEmpty then 0 else 1) < 30)) = true := by rfl)
    (hline : (p1.endLine == p2.line) = true := by rfl) (hs : starEach [a] X.env = (false, eval a X.env) :: starEach [] X.env := by rfl) (hplain : (backTo p2 (starEach [] X.env)).any (·.1) = false := by rfl) : SF X W (.Call (.Attribute e "append" p1) [a] [] p2) (pApp j p) := by
  refine ⟨(pe_bm PySem.F.plainAttrs_list PySem.F.slot_list_append PySem.F.type_list_append mt_append h (pa_cons ha.run pa_nil hs) hbase hfew hline hs hplain).weak fun σ H Q ⟨c, F, en, S, k⟩ => ?_,
    fun _ _ _ _ _ h1 h2 k => owAt_mono (fun _ _ k => ha.mono _ _ _ _ _ (fun d e1 k => owAt_mono (fun an ds k => ⟨k.1, h1 _ _ k.2⟩) k) h2 k) k⟩
  obtain ⟨an, ds, ej, k⟩ := owAt_get k
  obtain ⟨q, vs, g1, g2, g3, g4, g5⟩ := S.ow j an ds ej
  refine ⟨_, g1, .inl ⟨rfl, vs, SqL.of g4⟩, ?_⟩
  refine tM.go ha.mono S k (fun d e1 F1 H1 v S1 r1 k1 => ?_) (fun x e1 F1 H1 cls d S1 r1 k1 => k1 F1 H1 cls d (S1.back S.gr0) r1)
  obtain ⟨an1, ds1, ej1, k1⟩ := owAt_get k1
  obtain ⟨q1, vs1, f1, f2, f3, f4, f5⟩ := S1.ow j an1 ds1 ej1
  rw [g1] at f1; cases f1
  refine ⟨q, vs1, v, rfl, rfl, f4, by rw [f5.length]; exact k1.1, ?_⟩
  exact k1.2 F1 _ _ ((S1.write ej1 g1 (f5.append (.cons r1 .nil))).back S.gr0) .non
/-- x.pop(k) -/
def pPopAt (j : Nat) (p : PEx) : PEx := fun e Q E => owAt e j fun _ _ => p e (isInt fun i e1 => owAt e1 j fun an ds => (-(2 ^ 63) ≤ i ∧ i < 2 ^ 63) ∧ ∃ m d, ixN ds.length i = some m ∧ ds[m]? = some d ∧ Q d (e1.set j (.ow an (ds.eraseIdx m)))) E
theorem sf_popAt {j : Nat} {p1 p2 : Pos} {p : PEx} (h : PE X e (tVar j)) (ha : SF X W a p) (hbase : attributeBase e "pop" X.env (eval e X.env) = eval e X.env := by rfl)
    (hfew : ((backTo p2 (starEach [a] X.env)).all (fun x => !x.1) && (backToKw p2 (keywordEach [] X.env)).all (fun x => x.1.isSome) && decide ([a].length + ([] : List Keyword).length + (if ([] : List Keyword).isEmpty then 0 else 1) < 30)) = true := by rfl)
    (hline : (p1.endLine == p2.line) = true := by rfl) (hs : starEach [a] X.env = (false, eval a X.env) :: starEach [] X.env := by rfl) (hplain : (backTo p2 (starEach [] X.env)).any (·.1) = false := by rfl) : SF X W (.Call (.Attribute e "pop" p1) [a] [] p2) (pPopAt j p) := by
  refine ⟨(pe_bm PySem.F.plainAttrs_list PySem.F.slot_list_pop PySem.F.type_list_pop mt_popAt h (pa_cons ha.run pa_nil hs) hbase hfew hline hs hplain).weak fun σ H Q ⟨c, F, en, S, k⟩ => ?_,
    fun _ _ _ _ _ h1 h2 k => owAt_mono (fun _ _ k => ha.mono _ _ _ _ _ (isInt_mono fun d e1 k => owAt_mono (fun an ds k => by obtain ⟨k0, m, d, k1, k2, k3⟩ := k; exact ⟨k0, m, d, k1, k2, h1 _ _ k3⟩) k) h2 k) k⟩
  obtain ⟨an, ds, ej, k⟩ := owAt_get k
  obtain ⟨q, vs, g1, g2, g3, g4, g5⟩ := S.ow j an ds ej
  refine ⟨_, g1, .inl ⟨rfl, vs, SqL.of g4⟩, ?_⟩
  refine tM.go ha.mono S k (fun d e1 F1 H1 v S1 r1 k1 => ?_) (fun x e1 F1 H1 cls d S1 r1 k1 => k1 F1 H1 cls d (S1.back S.gr0) r1)
  cases d <;> try exact k1.elim
  rename_i i
  have r1' : Rp X.K F1 v (.int i) := r1
  cases r1'
  have k1' := k1
  unfold isInt at k1'
  obtain ⟨an1, ds1, ej1, ⟨b1, b2⟩, m, d, k2, k3, k4⟩ := owAt_get k1'
  obtain ⟨q1, vs1, f1, f2, f3, f4, f5⟩ := S1.ow j an1 ds1 ej1
  rw [g1] at f1; cases f1
  obtain ⟨u, u1, u2⟩ := f5.get' k3
  refine ⟨q, vs1, i, m, u, rfl, rfl, f4, b1, b2, by rw [f5.length]; exact (ixN_seq k2).1, u1, ?_⟩
  exact k4 F1 _ _ ((S1.write ej1 g1 (f5.eraseIdx m)).back S.gr0) u2
/-- x.pop() -/
def pPop (j : Nat) : PEx := fun e Q E => owAt e j fun an ds => ∃ d, ds[ds.length - 1]? = some d ∧ Q d (e.set j (.ow an ds.dropLast))
theorem sf_pop {j : Nat} {p1 p2 : Pos} (h : PE X e (tVar j)) (hbase : attributeBase e "pop" X.env (eval e X.env) = eval e X.env := by rfl) (hline : (p1.endLine == p2.line) = true := by rfl) : SF X W (.Call (.Attribute e "pop" p1) [] [] p2) (pPop j) := by
  refine ⟨(pe_bm0 PySem.F.plainAttrs_list PySem.F.slot_list_pop PySem.F.type_list_pop mt_pop h hbase hline).weak fun σ H Q ⟨c, F, en, S, k⟩ => ?_, fun _ _ _ _ _ h1 h2 k => owAt_mono (fun _ _ k => by obtain ⟨d, k1, k2⟩ := k; exact ⟨d, k1, h1 _ _ k2⟩) k⟩
  obtain ⟨an, ds, ej, d, k1, k2⟩ := owAt_get k
  obtain ⟨q, vs, g1, g2, g3, g4, g5⟩ := S.ow j an ds ej
  obtain ⟨u, u1, u2⟩ := g5.get' k1
  refine ⟨_, g1, .inl ⟨rfl, vs, SqL.of g4⟩, q, vs, u, rfl, rfl, g4, by rw [g5.length]; exact u1, ?_⟩
  exact k2 F _ _ (S.write ej g1 g5.dropLast) u2
/-- x.clear() -/
def pClear (j : Nat) : PEx := fun e Q E => owAt e j fun an ds => Q .non (e.set j (.ow an []))
theorem sf_clear {j : Nat} {p1 p2 : Pos} (h : PE X e (tVar j)) (hbase : attributeBase e "clear" X.env (eval e X.env) = eval e X.env := by rfl) (hline : (p1.endLine == p2.line) = true := by rfl) : SF X W (.Call (.Attribute e "clear" p1) [] [] p2) (pClear j) := by
  refine ⟨(pe_bm0 PySem.F.plainAttrs_list PySem.F.slot_list_clear PySem.F.type_list_clear mt_clear h hbase hline).weak fun σ H Q ⟨c, F, en, S, k⟩ => ?_, fun _ _ _ _ _ h1 h2 k => owAt_mono (fun _ _ k => h1 _ _ k) k⟩
  obtain ⟨an, ds, ej, k⟩ := owAt_get k
  obtain ⟨q, vs, g1, g2, g3, g4, g5⟩ := S.ow j an ds ej
  refine ⟨_, g1, .inl ⟨rfl, vs, SqL.of g4⟩, q, vs, rfl, rfl, g4, ?_⟩
  exact k F _ _ (S.write ej g1 .nil) .non
/-- x.reverse() -/
def pRev (j : Nat) : PEx := fun e Q E => owAt e j fun an ds => Q .non (e.set j (.ow an ds.reverse))
theorem sf_reverse {j : Nat} {p1 p2 : Pos} (h : PE X e (tVar j)) (hbase : attributeBase e "reverse" X.env (eval e X.env) = eval e X.env := by rfl) (hline : (p1.endLine == p2.line) = true := by rfl) : SF X W (.Call (.Attribute e "reverse" p1) [] [] p2) (pRev j) := by
  refine ⟨(pe_bm0 PySem.F.plainAttrs_list PySem.F.slot_list_reverse PySem.F.type_list_reverse mt_reverse h hbase hline).weak fun σ H Q ⟨c, F, en, S, k⟩ => ?_, fun _ _ _ _ _ h1 h2 k => owAt_mono (fun _ _ k => h1 _ _ k) k⟩
  obtain ⟨an, ds, ej, k⟩ := owAt_get k
  obtain ⟨q, vs, g1, g2, g3, g4, g5⟩ := S.ow j an ds ej
  refine ⟨_, g1, .inl ⟨rfl, vs, SqL.of g4⟩, q, vs, rfl, rfl, g4, ?_⟩
  exact k F _ _ (S.write ej g1 g5.reverse) .non
/-- x[i] = e -/
def pSetIx (j : Nat) (pi : PGx) (pe : PEx) : PSt := fun D e => pe e (fun d e1 => owAt e1 j fun _ _ => pi e1 (fun a e2 => match res e2 a with
  | some (.int i) => owAt e2 j fun an ds => ∃ m, ixN ds.length i = some m ∧ D.nx (e2.set j (.ow an (ds.set m d)))
  | _ => False) D.ex) D.ex
theorem ss_setIx {j : Nat} {o i : Expr} {pos' : Pos} {pi : PGx} {p : PEx} (h : SF X W e p) (ho : PE X o (tVar j)) (hi : SG X W i pi)
    (ha : ∀ v, assign (.Subscript o i pos') X.env v = (do
      let ov ← holding [v] (eval o X.env)
      let iv ← holding [v, ov] (eval i X.env)
      standAt pos'
      holding [v, ov, iv] (setItem ov iv v)
      release [v, ov, iv] []) := by intro _; rfl)
    (hs : swapsWithSole [.Subscript o i pos'] e pos.line X.env = pure false := by rfl) (hw : swappedStores [.Subscript o i pos'] e X.env = pure none := by rfl)
    (h1 : (assignEach [.Subscript o i pos'] X.env).map (·.2) = [assign (.Subscript o i pos') X.env] := by rfl) : SS X W (.Assign [.Subscript o i pos'] e pos) (pSetIx j pi p) := by
  refine ⟨(ps_asg h.run (pg_sub ho hi.run set_list ha) hs hw h1).weak fun D σ H ⟨c, F, en, S, k⟩ => ?_, fun D D' e hl k => h.mono _ _ _ _ _ (fun d e1 k => owAt_mono (fun _ _ k => hi.mono _ _ _ _ _ (fun a e2 k => ?_) hl.ex k) k) hl.ex k⟩
  · refine tM.go h.mono S k (fun d e1 F1 H1 v S1 r1 k1 => ?_) (fun x e1 F1 H1 cls d S1 r1 k1 => k1 F1 H1 σ cls d (S1.back S.gr0) r1)
    obtain ⟨an, ds, ej, k1⟩ := owAt_get k1
    obtain ⟨q, vs, g1, g2, g3, g4, g5⟩ := S1.ow j an ds ej
    refine ⟨_, g1, ?_⟩
    refine tM.go hi.mono S1 k1 (fun a e2 F2 H2 w S2 r2 k2 => ?_) (fun x e2 F2 H2 cls d S2 r2 k2 => k2 F2 H2 σ cls d ((S2.back (c := { c with F0 := F }) S1.gr0).back S.gr0) r2)
    cases ex : res e2 a with
    | none => simp only [ex] at k2
    | some di =>
      cases di <;> simp only [ex] at k2
      rename_i i
      obtain ⟨an1, ds1, ej1, m, k3, k4⟩ := owAt_get k2
      obtain ⟨q1, vs1, f1, f2, f3, f4, f5⟩ := S2.ow j an1 ds1 ej1
      rw [g1] at f1; cases f1
      have ei := (ArgR.br S2 r2 ex).int
      subst ei
      refine ⟨q, vs1, i, m, rfl, rfl, f4, by rw [f5.length]; exact k3, ?_⟩
      exact k4 F2 _ σ (((S2.write ej1 g1 (f5.set (Rp.mono S2.gr0 r1) m)).back (c := { c with F0 := F }) S1.gr0).back S.gr0)
  · generalize res e2 a = o at k ⊢
    cases o with
    | none => exact k
    | some d' => cases d' <;> first | exact owAt_mono (fun an ds k => by obtain ⟨m, k1, k2⟩ := k; exact ⟨m, k1, hl.nx _ k2⟩) k | exact k
end
end PW
set_option Elab.async false
set_option linter.all false
set_option maxRecDepth 100000
set_option maxHeartbeats 4000000
namespace PW
open PySem PySem.Spec PyProof.Rows L2
section
variable {X : Cx} {W : WX} {a b e c : Expr} {pos : Pos}
/-! ### x += e -/
def pAug (i : Nat) (f : D → D → (O → Prop) → Prop) (p : PGx) : PSt := fun D e => match e[i]? with
  | some (.fz x) => p e (fun a e1 => match res e1 a with
    | some y => f x y (fun z => stO e1 i z D.nx)
    | none => False) D.ex
  | _ => False
theorem ss_aug {i : Nat} {x : Str} {op : Operator} {pos' : Pos} {r : R2} {f : D → D → (O → Prop) → Prop} {p : PGx} (ho : OpR X (inplaceOp op) r) (hs : OpO X.K r f) (h : SG X W e p) (hN : X.N.Nodup) (hi : X.N[i]? = some x) (hx : Loc X.env.scope x)
    (hf : X.fn x = true ∨ X.env.scope.names.lookup x = some .local := by first | exact .inl rfl | exact .inr rfl | assumption) : SS X W (.AugAssign (.Name x pos') op e pos) (pAug i f p) := by
  have hp : PIp X op r := fun pins s σ H x y v u Q I rx ry q => ho pins s σ H x y v u Q I rx ry q
  refine ⟨(ps_aug hN hi hx h.run hp hf).weak fun D σ H ⟨c, F, en, S, k⟩ => ?_, fun D D' e hl k => ?_⟩
  · unfold pAug at k
    cases ei : en[i]? with
    | none => simp only [ei] at k
    | some o =>
      cases o <;> simp only [ei] at k
      rename_i dx
      obtain ⟨v, k1, k2⟩ := S.fz i dx ei
      refine ⟨v, k1, ?_⟩
      refine tM.go h.mono S k (fun a e1 F1 H1 w S1 r1 q1 => ?_) (fun x e1 F1 H1 cls d S1 r1 q1 => q1 F1 H1 σ cls d (S1.back S.gr0) r1)
      cases ex : res e1 a with
      | none => simp only [ex] at q1
      | some y =>
        simp only [ex] at q1
        have S1' := S1.back S.gr0
        refine hs.run c F1 H1 σ e1 v w dx y _ S1' (.inl (k2.mono S1.gr0)) (ArgR.br S1' r1 ex) (hs.mono _ _ _ _ (fun z q F' H' u S' hr => ?_) q1)
        obtain ⟨e2, S2, q2⟩ := (S'.back S1'.gr0).stO hr q
        exact q2 F' H' _ S2
  · unfold pAug at k ⊢
    generalize e[i]? = o at k ⊢
    cases o with
    | none => exact k
    | some o =>
      cases o <;> try exact k
      refine h.mono _ _ _ _ _ (fun a e1 k => ?_) hl.ex k
      generalize res e1 a = o at k ⊢
      cases o with
      | none => exact k
      | some y => exact hs.mono _ _ _ _ (fun z q => stO_mono hl.nx q) k
/-! ### if, while -/
def pIf (t : PTx) (p q : PSt) : PSt := fun D e => t e (fun b e1 => if b = true then p D e1 else q D e1) D.ex
theorem ss_if {t : PTx} {p q : PSt} {as bs : List Stmt} (h : ST X W c t) (ha : SSs X W as p) (hb : SSs X W bs q) : SS X W (.If c as bs pos) (pIf t p q) := by
  refine ⟨(ps_if h.run ha.run hb.run).weak fun D σ H ⟨c, F, en, S, k⟩ => ?_, fun D D' e hl k => h.mono _ _ _ _ _ (fun b e k => ?_) hl.ex k⟩
  · refine tM.go h.mono S k (fun x e1 F1 H1 v S1 r1 k1 => ?_) (fun x e1 F1 H1 cls d S1 r1 k1 => k1 F1 H1 σ cls d (S1.back S.gr0) r1)
    have r1' : v = x := r1
    subst r1'
    cases v with
    | true => exact ⟨c, F1, e1, S1.back S.gr0, k1⟩
    | false => exact ⟨c, F1, e1, S1.back S.gr0, k1⟩
  · cases b with
    | true => exact ha.mono _ _ _ hl k
    | false => exact hb.mono _ _ _ hl k
def pWhile (t : PTx) (p : PSt) : PSt := fun D e => ∃ I : Nat → Env → Prop, (∃ m, I m e) ∧ ∀ m e, I m e →
  t e (fun b e1 => if b = true then p { D with nx := fun e' => ∃ m', m' < m ∧ I m' e', ct := fun e' => ∃ m', m' < m ∧ I m' e', bk := D.nx } e1 else D.nx e1) D.ex
theorem ss_while {t : PTx} {p : PSt} {body : List Stmt} (hp : PassesOwn (model X.prog X.w) X.A X.env X.xe) (h : ST X W c t) (hb : SSs X W body p) : SS X W (.While c body [] pos) (pWhile t p) := by
  refine ⟨(ps_while hp h.run hb.run).weak fun D σ H ⟨c, F, en, S, I, ⟨m0, k0⟩, k⟩ => ?_, fun Z Z' e hl ⟨I, k0, k⟩ => ⟨I, k0, fun m e q => h.mono _ _ _ _ _ (fun b e1 k => ?_) hl.ex (k m e q)⟩⟩
  · refine ⟨fun m σ H => ∃ F e, StR X.K c F H σ e ∧ I m e, ⟨m0, F, en, S, k0⟩, fun m σ H ⟨F, e, S, q⟩ => ?_⟩
    refine tM.go h.mono S (k m e q) (fun x e1 F1 H1 v S1 r1 k1 => ?_) (fun x e1 F1 H1 cls d S1 r1 k1 => k1 F1 H1 σ cls d (S1.back S.gr0) r1)
    have r1' : v = x := r1
    subst r1'
    have S1' := S1.back S.gr0
    cases v with
    | true =>
      refine ⟨fun σ' H' => ∃ m', m' < m ∧ ∃ F e, StR X.K c F H' σ' e ∧ I m' e, fun σ' H' z => z, c, F1, e1, S1', hb.mono _ _ _ ?_ k1⟩
      exact ⟨fun e' ⟨m', h1, h2⟩ F' H' σ' S' => ⟨m', h1, F', e', S', h2⟩, fun _ _ k => k, fun _ _ k => k, fun _ k => k, fun e' ⟨m', h1, h2⟩ F' H' σ' S' => ⟨m', h1, F', e', S', h2⟩⟩
    | false => exact k1 F1 H1 σ S1'
  · cases b with
    | true => exact hb.mono { Z with nx := _, ct := _, bk := Z.nx } { Z' with nx := _, ct := _, bk := Z'.nx } _ ⟨fun _ k => k, hl.rt, hl.ex, hl.nx, fun _ k => k⟩ k
    | false => exact hl.nx _ k

/-! ### what is walked -/
/-- ds: the items; Pr: what must be so at each turn -/
structure ItS (K : PySem.W.Frag) (Pr : Hp → Hp → Prop) (J : It) (ds : List D) : Prop where
  go : ∀ i F H, Pr F H → i < ds.length → J.go i H
  stop : ∀ i F H, Pr F H → ds.length ≤ i → J.stop i H
  yld : ∀ (c : PCx) (i : Nat) (F H : Hp) (σ : L2.St) (e : Env) (x : V) (H' : Hp), Pr F H → i < ds.length → StR K c F H σ e → J.yld i H x H' → ∃ d F', ds[i]? = some d ∧ StR K { c with F0 := F } F' H' σ e ∧ Rp K F' x d
abbrev PSrc := PM (List D)
/-- sources whose items stand still -/
structure SSr (X : Cx) (W : WX) (tg iter : Expr) (p : PSrc) : Prop where
  run : PI X tg iter (fun σ H R => tM X.K W (fun c F H σ e (J : It) ds => ∃ Pr, ItS X.K Pr J ds ∧ ∀ F' H', Same F F' → Same F' H' → Pr F' H') p σ H R)
  mono : Mono p
theorem _root_.L2.PI.weak {X : Cx} {tg iter : Expr} {t t' : TI} (h : PI X tg iter t) (w : ∀ σ H Q, t' σ H Q → t σ H Q) : PI X tg iter t' := ⟨fun pins s σ H R I q => h.run pins s σ H R I (w σ H R q)⟩
def forGo (ok : Env → Prop) (g : PTg) (p : PSt) (Z : PEnds) : List D → Env → Prop
  | [], e => ok e ∧ Z.nx e
  | d :: ds, e => ok e ∧ g d e (fun e1 => p { Z with nx := forGo ok g p Z ds, ct := forGo ok g p Z ds, bk := Z.nx } e1)
theorem forGo_mono {ok : Env → Prop} {g : PTg} {p : PSt} (hg : ∀ d e (k k' : Env → Prop), (∀ e, k e → k' e) → g d e k → g d e k') (hp : MonoS p) {Z Z' : PEnds} (hl : Z.le Z') : ∀ ds e, forGo ok g p Z ds e → forGo ok g p Z' ds e
  | [], e, k => ⟨k.1, hl.nx _ k.2⟩
  | d :: ds, e, k => ⟨k.1, hg _ _ _ _ (fun e1 k => hp { Z with nx := forGo ok g p Z ds, ct := forGo ok g p Z ds, bk := Z.nx } { Z' with nx := forGo ok g p Z' ds, ct := forGo ok g p Z' ds, bk := Z'.nx } _ ⟨forGo_mono hg hp hl ds, hl.rt, hl.ex, hl.nx, forGo_mono hg hp hl ds⟩ k) k.2⟩
def pFor (src : PSrc) (g : PTg) (p : PSt) : PSt := fun D e => src e (fun ds e1 => forGo (fun _ => True) g p D ds e1) D.ex
theorem ss_for {tg iter : Expr} {sl : List Nat} {src : PSrc} {g : PTg} {p : PSt} {body : List Stmt} (hp : PassesOwn (model X.prog X.w) X.A X.env X.xe) (hc : X.calm = true) (hi : SSr X W tg iter src) (hg : SGt X tg sl g) (hb : SSs X W body p)
    (hs : ∀ x, foldedSetIterable iter X.env x = pure x := by intro _; rfl) : SS X W (.For tg iter body [] pos) (pFor src g p) := by
  refine ⟨(ps_for hp hc hi.run hg.run hb.run hs).weak fun D σ H ⟨c, F, en, S, k⟩ => ?_, fun D D' e hl k => hi.mono _ _ _ _ _ (fun ds e1 k => forGo_mono hg.mono hb.mono hl ds e1 k) hl.ex k⟩
  unfold tFor
  dsimp only
  refine tM.go hi.mono S k (fun ds e1 F1 H1 J S1 r1 k1 => ?_) (fun x e1 F1 H1 cls d S1 r1 k1 => k1 F1 H1 σ cls d (S1.back S.gr0) r1)
  obtain ⟨Pr, it, pr⟩ := r1
  have S1' := S1.back S.gr0
  refine ⟨fun i m σ H => ∃ F e, StR X.K { c with F0 := F1 } F H σ e ∧ m = ds.length - i ∧ i ≤ ds.length ∧ forGo (fun _ => True) g p _ (ds.drop i) e, ⟨ds.length, F1, e1, S1'.here, rfl, Nat.zero_le _, k1⟩, fun i m σ H ⟨F, e, S, em, hi, q⟩ => ?_⟩
  subst em
  have hpr : Pr F H := pr F H S.gr0 S.gr
  by_cases hlt : i < ds.length
  · refine .inr ⟨it.go i F H hpr hlt, fun σ' H' => ∃ F e, StR X.K { c with F0 := F1 } F H' σ' e ∧ i + 1 ≤ ds.length ∧ forGo (fun _ => True) g p _ (ds.drop (i + 1)) e, fun σ' H' ⟨F, e, S, h1, h2⟩ => ⟨ds.length - (i + 1), by omega, F, e, S, rfl, h1, h2⟩, fun x H' y => ?_⟩
    obtain ⟨d, F', hd, S', rx⟩ := it.yld _ i F H σ e x H' hpr hlt S y
    have ed : ds.drop i = d :: ds.drop (i + 1) := by
      rw [List.drop_eq_getElem_cons hlt]
      rw [List.getElem?_eq_getElem hlt] at hd
      rw [Option.some.inj hd]
    rw [ed] at q
    refine ⟨{ c with F0 := F1 }, F', e, d, S'.back (c := { c with F0 := F1 }) S.gr0, rx, hg.mono _ _ _ _ (fun e2 k2 σ2 S2 _ => ?_) q.2⟩
    refine ⟨{ c with F0 := F1 }, F', e2, S2, hb.mono _ _ _ ?_ k2⟩
    exact ⟨fun e' k' F' H' σ' S' => ⟨F', e', S', hlt, k'⟩, fun r e' k' F' H' σ' v S' o => k' F' H' σ' v (S'.back S1'.gr0) o, fun x e' k' F' H' σ' cls d S' o => k' F' H' σ' cls d (S'.back S1'.gr0) o, fun e' k' F' H' σ' S' => k' F' H' σ' (S'.back S1'.gr0), fun e' k' F' H' σ' S' => ⟨F', e', S', hlt, k'⟩⟩
  · have ei : ds.drop i = [] := List.drop_eq_nil_of_le (by omega)
    rw [ei] at q
    exact .inl ⟨it.stop i F H hpr (by omega), q.2 F H σ (S.back S1'.gr0)⟩
/-- frozen lists and tuples -/
def seqD (Q : List D → Env → Prop) : D → Env → Prop
  | .lst ds, e => Q ds e
  | .rls ds, e => Q ds e
  | .tup ds, e => Q ds e
  | _, _ => False
theorem seqD_mono {Q Q' : List D → Env → Prop} (hq : ∀ b e, Q b e → Q' b e) : ∀ (d : D) (e : Env), seqD Q d e → seqD Q' d e := fun d e k => by
  cases d <;> first | exact hq _ _ k | exact k
def pSeqSrc (p : PEx) : PSrc := fun e Q E => p e (seqD Q) E
theorem its_list {K : PySem.W.Frag} {F1 : Hp} {a : Addr} {vs : List V} {ds : List D} (h : SqL K F1 a vs) (r : Rps K F1 vs ds) : ItS K (fun F H => Same F1 F ∧ Same F H) (Itl K a) ds where
  go := fun i F H ⟨h1, h2⟩ hi => by
    rw [← r.length] at hi
    exact ⟨vs, vs[i], (h1.trans h2).seq h, by simp [hi]⟩
  stop := fun i F H ⟨h1, h2⟩ hi => ⟨vs, (h1.trans h2).seq h, by rw [r.length]; exact hi⟩
  yld := fun c i F H σ e x H' ⟨h1, h2⟩ _ S y => by
    obtain ⟨rfl, y⟩ := y
    obtain ⟨d, k1, k2⟩ := r.get (y vs ((h1.trans h2).seq h))
    exact ⟨d, F, k1, S.here, k2.mono h1⟩
theorem its_tup {K : PySem.W.Frag} {F1 : Hp} {a : Addr} {vs : List V} {ds : List D} (h : SqT K F1 a vs) (r : Rps K F1 vs ds) : ItS K (fun F H => Same F1 F ∧ Same F H) (Itt K a) ds where
  go := fun i F H ⟨h1, h2⟩ hi => by
    rw [← r.length] at hi
    exact ⟨vs, vs[i], sq_t (h1.trans h2) h, by simp [hi]⟩
  stop := fun i F H ⟨h1, h2⟩ hi => ⟨vs, sq_t (h1.trans h2) h, by rw [r.length]; exact hi⟩
  yld := fun c i F H σ e x H' ⟨h1, h2⟩ _ S y => by
    obtain ⟨rfl, y⟩ := y
    obtain ⟨d, k1, k2⟩ := r.get (y vs (sq_t (h1.trans h2) h))
    exact ⟨d, F, k1, S.here, k2.mono h1⟩
/-- a list or a tuple is walked -/
def iSeq (K : PySem.W.Frag) (tl : TE) : TI := fun σ H R => tl σ H fun x H1 => ∃ a, x = .ref a ∧ (((∃ xs, SqL K H1 a xs) ∧ R (Itl K a) H1) ∨ ((∃ xs, SqT K H1 a xs) ∧ R (Itt K a) H1))
theorem pi_seq {tg l : Expr} {tl : TE} (hl : PE X l tl) : PI X tg l (iSeq X.K tl) := by
  refine ⟨fun pins s σ H R I h => ?_⟩
  have h1 : ∀ (t : TE), (∀ σ H Q, t σ H Q → tl σ H Q) → PE X l t := fun t w => hl.weak w
  refine thn (hl.run pins s σ H _ I h) fun v s1 ⟨x, H1, I1, r1, q1⟩ => ?_
  obtain ⟨a, e, q⟩ := q1
  subst e
  cases r1
  rcases q with ⟨⟨xs, hq⟩, q⟩ | ⟨⟨xs, hq⟩, q⟩
  · obtain ⟨its, rv, p, hz⟩ := I1.list hq
    refine wpAny_pyIter_list p.isList ?_
    refine ⟨s1.heap.objs.size, [s1.heap.objs.size], _, _, H1, rfl, I1.kept (t' := s1.toks) fun b o e => Heap.get?_push_of_some _ e, turn_list a _, ⟨_, Heap.get?_push_size _ rfl, rfl, rfl⟩, fun b hb => ?_, q⟩
    have e : b = s1.heap.objs.size := by simpa using hb
    subst e
    exact I1.fpOk (Nat.le_refl _) (I1.hok.fresh (Nat.le_refl _))
  · obtain ⟨its, rv, p, hz⟩ := I1.tuple hq
    refine wpAny_pyIter_tuple (show s1.heap.IsTuple a its.toArray from p) ?_
    refine ⟨s1.heap.objs.size, [s1.heap.objs.size], _, _, H1, rfl, I1.kept (t' := s1.toks) fun b o e => Heap.get?_push_of_some _ e, turn_tuple a _, ⟨_, Heap.get?_push_size _ rfl, rfl, rfl⟩, fun b hb => ?_, q⟩
    have e : b = s1.heap.objs.size := by simpa using hb
    subst e
    exact I1.fpOk (Nat.le_refl _) (I1.hok.fresh (Nat.le_refl _))
theorem ssr_seq {tg l : Expr} {p : PEx} (h : SF X W l p) : SSr X W tg l (pSeqSrc p) := by
  refine ⟨(pi_seq h.run).weak fun σ H R ⟨c, F, en, S, k⟩ => ?_, fun _ _ _ _ _ h1 h2 k => h.mono _ _ _ _ _ (seqD_mono h1) h2 k⟩
  refine tM.go h.mono S k (fun d e1 F1 H1 v S1 r1 k1 => ?_) (fun x e1 F1 H1 cls d S1 r1 k1 => k1 F1 H1 cls d (S1.back S.gr0) r1)
  have r1' : Rp X.K F1 v d := r1
  have S1' := S1.back S.gr0
  cases r1' <;> try exact k1.elim
  · rename_i q qs
    exact ⟨_, rfl, .inl ⟨⟨_, SqL.of (S1.gr _ _ q)⟩, k1 F1 H1 _ S1' ⟨_, its_list (SqL.of q) qs, fun F' H' h1 h2 => ⟨h1, h2⟩⟩⟩⟩
  · rename_i q qs
    exact ⟨_, rfl, .inr ⟨⟨_, sq_t S1.gr q⟩, k1 F1 H1 _ S1' ⟨_, its_tup q qs, fun F' H' h1 h2 => ⟨h1, h2⟩⟩⟩⟩
  · rename_i q qs
    exact ⟨_, rfl, .inl ⟨⟨_, S1.gr.seq q⟩, k1 F1 H1 _ S1' ⟨_, its_list q qs, fun F' H' h1 h2 => ⟨h1, h2⟩⟩⟩⟩
/-- range -/
def rngD (lo : Int) (n : Nat) : List D := (List.range n).map fun k => .int (lo + (k : Nat))
theorem rngD_length {lo : Int} {n : Nat} : (rngD lo n).length = n := by unfold rngD; rw [List.length_map, List.length_range]
theorem its_rng {K : PySem.W.Frag} {lo : Int} {n : Nat} : ItS K (fun _ _ => True) (Itr lo n) (rngD lo n) where
  go := fun i F H _ hi => by rw [rngD_length] at hi; exact hi
  stop := fun i F H _ hi => by rw [rngD_length] at hi; exact hi
  yld := fun c i F H σ e x H' _ hi S y => by
    obtain ⟨rfl, rfl⟩ := y
    rw [rngD_length] at hi
    refine ⟨.int (lo + (i : Nat)), F, ?_, S.here, .int _⟩
    unfold rngD
    rw [List.getElem?_map, List.getElem?_range hi]
    rfl
def rOf1 (Q : List D → Env → Prop) (as : List Arg) (e : Env) : Prop := match ress e as with
  | some [.int n] => (-(2 ^ 62) ≤ n ∧ n < 2 ^ 62) ∧ Q (rngD 0 n.toNat) e
  | _ => False
def rOf2 (Q : List D → Env → Prop) (as : List Arg) (e : Env) : Prop := match ress e as with
  | some [.int i, .int j] => (-(2 ^ 62) ≤ i ∧ i < 2 ^ 62 ∧ -(2 ^ 62) ≤ j ∧ j < 2 ^ 62) ∧ Q (rngD i (j - i).toNat) e
  | _ => False
def pRng1 (p : PAs) : PSrc := fun e Q E => p e (rOf1 Q) E
def pRng2 (p : PAs) : PSrc := fun e Q E => p e (rOf2 Q) E
theorem rOf1_get {Q : List D → Env → Prop} {as : List Arg} {e : Env} (k : rOf1 Q as e) : ∃ n, ress e as = some [.int n] ∧ (-(2 ^ 62) ≤ n ∧ n < 2 ^ 62) ∧ Q (rngD 0 n.toNat) e := by
  unfold rOf1 at k
  split at k
  · rename_i n en; exact ⟨n, en, k⟩
  · exact k.elim
theorem rOf2_get {Q : List D → Env → Prop} {as : List Arg} {e : Env} (k : rOf2 Q as e) : ∃ i j, ress e as = some [.int i, .int j] ∧ (-(2 ^ 62) ≤ i ∧ i < 2 ^ 62 ∧ -(2 ^ 62) ≤ j ∧ j < 2 ^ 62) ∧ Q (rngD i (j - i).toNat) e := by
  unfold rOf2 at k
  split at k
  · rename_i i j en; exact ⟨i, j, en, k⟩
  · exact k.elim
theorem rOf1_mono {Q Q' : List D → Env → Prop} (hq : ∀ b e, Q b e → Q' b e) : ∀ (as : List Arg) (e : Env), rOf1 Q as e → rOf1 Q' as e := fun as e k => by
  obtain ⟨n, en, h1, h2⟩ := rOf1_get k
  unfold rOf1
  rw [en]
  exact ⟨h1, hq _ _ h2⟩
theorem rOf2_mono {Q Q' : List D → Env → Prop} (hq : ∀ b e, Q b e → Q' b e) : ∀ (as : List Arg) (e : Env), rOf2 Q as e → rOf2 Q' as e := fun as e k => by
  obtain ⟨i, j, en, h1, h2⟩ := rOf2_get k
  unfold rOf2
  rw [en]
  exact ⟨h1, hq _ _ h2⟩
theorem ssr_range1 {tg : Expr} {p0 : Pos} {p : PAs} (hg : Gl X "range") (hm : X.mg "range" = none) (ha : SA X W [a] p) (hs : starEach [a] X.env = [(false, eval a X.env)] := by rfl) : SSr X W tg (.Call (.Name "range" p0) [a] [] pos) (pRng1 p) := by
  refine ⟨(pi_range1 hg hm ha.run hs).weak fun σ H R ⟨c, F, en, S, k⟩ => ?_, fun _ _ _ _ _ h1 h2 k => ha.mono _ _ _ _ _ (rOf1_mono h1) h2 k⟩
  refine tM.go ha.mono S k (fun as e1 F1 H1 vs S1 r1 k1 => ?_) (fun x e1 F1 H1 cls d S1 r1 k1 => k1 F1 H1 cls d (S1.back S.gr0) r1)
  obtain ⟨n, en, h1, h2⟩ := rOf1_get k1
  obtain ⟨v, rfl, hv⟩ := (ArgsR.br S1 r1 en).one
  rw [hv.int]
  exact ⟨_, rfl, h1.1, h1.2, h2 F1 H1 _ (S1.back S.gr0) ⟨_, its_rng, fun _ _ _ _ => trivial⟩⟩
theorem ssr_range2 {tg : Expr} {p0 : Pos} {p : PAs} (hg : Gl X "range") (hm : X.mg "range" = none) (ha : SA X W [a, b] p) (hs : starEach [a, b] X.env = [(false, eval a X.env), (false, eval b X.env)] := by rfl) (hs2 : starEach [b] X.env = [(false, eval b X.env)] := by rfl) :
    SSr X W tg (.Call (.Name "range" p0) [a, b] [] pos) (pRng2 p) := by
  refine ⟨(pi_range2 hg hm ha.run hs hs2).weak fun σ H R ⟨c, F, en, S, k⟩ => ?_, fun _ _ _ _ _ h1 h2 k => ha.mono _ _ _ _ _ (rOf2_mono h1) h2 k⟩
  refine tM.go ha.mono S k (fun as e1 F1 H1 vs S1 r1 k1 => ?_) (fun x e1 F1 H1 cls d S1 r1 k1 => k1 F1 H1 cls d (S1.back S.gr0) r1)
  obtain ⟨i, j, en, h1, h2⟩ := rOf2_get k1
  obtain ⟨v, w, rfl, hv, hw⟩ := (ArgsR.br S1 r1 en).two
  rw [hv.int, hw.int]
  exact ⟨_, _, rfl, h1, h2 F1 H1 _ (S1.back S.gr0) ⟨_, its_rng, fun _ _ _ _ => trivial⟩⟩
end
/-! ### enumerate -/
open PySem.AutoSeq1 in
set_option maxHeartbeats 4000000 in
theorem meets_enumerate_newB1 {v : Value} {o : Obj} {H : Heap → Prop} (B : PySem.Begins v o H) :
    Meets (Builtin.«enumerate.__new__» ⟨[.type "enumerate", v], []⟩) (fun _ R s => H s.heap ∧
      R (.ok (.ret (.ref (s.heap.push o).objs.size))) { s with heap := (s.heap.push o).push { cls := .type "enumerate", data := .fields #[.none, .bool false, .ref s.heap.objs.size, rawInt 0, .none, .none] } }) :=
  .of_wp fun prog w A R s h => by
    obtain ⟨hp, g, d, tk, os⟩ := s; obtain ⟨h1, h⟩ := h
    have hsub := sub_enumerate
    have q1 : ∀ {A' : Around} {E : Value → Shared → Prop} {Q : Value → Shared → Prop}, Q (.ref hp.objs.size) ⟨hp.push o, g, d, tk, os⟩ → wpAny (model prog w) A' (pyIter v) Q E ⟨hp, g, d, tk, os⟩ :=
      fun q => B.iter prog w _ _ ⟨hp, g, d, tk, os⟩ _ h1 q
    wp_walk using q1
    refine wpAny_stack_any fun st => wpAny_pure ?_
    split
    · rename_i c _ _ _ _ _
      cases (c == Value.type "enumerate")
      · wp_walk using q1
        exact ⟨_, rfl, h⟩
      · wp_walk using q1
        exact ⟨_, rfl, h⟩
    · wp_walk using q1
      exact ⟨_, rfl, h⟩
end PW
set_option Elab.async false
set_option linter.all false
set_option maxRecDepth 100000
set_option maxHeartbeats 4000000
namespace PW
open PySem PySem.Spec PyProof.Rows L2
section
variable {prog : Program} {w : World} {A : Around} {E : Value → Shared → Prop} {s : Shared}
/-- enumerate(v): its two new cells -/
theorem enum_begins1 {v : Value} {o : Obj} {H : Heap → Prop} {Q : Value → Shared → Prop} (B : PySem.Begins v o H) (h1 : H s.heap)
    (h : ∀ h', IsEnum h' (s.heap.objs.size + 1) s.heap.objs.size 0 .none → h'.get? s.heap.objs.size = some o → h'.objs.size = s.heap.objs.size + 2 →
      (∀ b o, s.heap.get? b = some o → h'.get? b = some o) → Q (.ref (s.heap.objs.size + 1)) { s with heap := h' }) :
    wpAny (model prog w) A (call (.type "enumerate") [v]) Q E s := by
  refine callType_new F.called_enumerate (by decide) (F.typeCall_enumerate_1 _) (F.newCall_enumerate_1 _) (fun obj => F.args_object_init_2 obj _) F.entry_enumerate_new
    (meets_enumerate_newB1 B) ⟨h1, ?_⟩
  have hz : (s.heap.push o).objs.size = s.heap.objs.size + 1 := Heap.size_push ..
  show _ ∧ _
  rw [hz]
  have he : IsEnum ((s.heap.push o).push { cls := .type "enumerate", data := .fields #[.none, .bool false, .ref s.heap.objs.size, rawInt 0, .none, .none] }) (s.heap.objs.size + 1) s.heap.objs.size 0 .none := by
    have := Heap.get?_push_size (s.heap.push o) (o := { cls := .type "enumerate", data := .fields #[.none, .bool false, .ref s.heap.objs.size, rawInt 0, .none, .none] }) rfl
    rw [hz] at this; exact this
  refine ⟨⟨_, he, rfl⟩, h _ he (Heap.get?_push_of_some _ (Heap.get?_push_size _ B.free)) (by rw [Heap.size_push, hz]) fun b o x => Heap.get?_push_of_some _ (Heap.get?_push_of_some _ x)⟩
end
/-- the tuple at a, each item in a new pair -/
def IteT (K : PySem.W.Frag) (a : Addr) : It :=
  ⟨fun i H => ∃ (xs : List V) (x : V), SqT K H a xs ∧ xs[i]? = some x, fun i H v H' => ∃ T x, v = .ref T ∧ H T = none ∧ H' = upd H T (.tup [.int (i : Nat), x]) ∧ ∀ xs, SqT K H a xs → xs[i]? = some x, fun i H => ∃ xs : List V, SqT K H a xs ∧ xs.length ≤ i⟩
theorem turn_enumT {P : Program} {w : World} {K : PySem.W.Frag} {elts : List Expr} {kk : Nat} {tpos : Pos} (a e it : Addr) (hia : a ≠ it) (hea : e ≠ a) :
    Turn P w K (.Tuple elts kk tpos) (IteT K a) [e, it] e (fun i h => (∃ old, IsEnum h e it ((i : Nat) : Int) old) ∧ h.IsTupleIter it a i ∧ e ≠ it) where
  mem := by simp
  obj := fun i h st b hb => by
    obtain ⟨⟨old, he⟩, ⟨o, ho, hc, hd⟩, _⟩ := st
    have e' : b = e ∨ b = it := by simpa using hb
    rcases e' with z | z
    · rw [z]; exact ⟨_, he, fun v q => nomatch q⟩
    · rw [z]; exact ⟨o, ho, fun v q => by rw [hd] at q; cases q⟩
  keep := fun i h h' st k => let ⟨⟨old, he⟩, hi, hne⟩ := st; ⟨⟨old, k e (by simp) _ he⟩, hi.at fun o q => k it (by simp) o q, hne⟩
  item := by
    intro X hP hw hK hc i pins s σ H E I hf st hg
    subst hP hw hK
    obtain ⟨⟨old, he⟩, hit, hne⟩ := st
    obtain ⟨xs, x, hq, hx⟩ := hg
    obtain ⟨its, rv, p, hz⟩ := I.tuple hq
    obtain ⟨u, hu, ru⟩ := rv.get hx
    have hel : e < s.heap.objs.size := Heap.lt_size he
    have hil : it < s.heap.objs.size := by obtain ⟨_, q, _⟩ := hit; exact Heap.lt_size q
    have hlt : i < its.toArray.size := by simpa using (List.getElem?_eq_some_iff.mp hu).1
    refine wpAny_pyNext_enum_itemD (Draws.tuple (prog := X.prog) (w := X.w) (A := X.A.in1) (I.ok.hd hc) it a hia its.toArray) he ⟨hit, (show s.heap.IsTuple a its.toArray from p)⟩ hlt hne (by simp [hne, hea]) fun x' h' tk hx' ho hit' hT hsz hk => ?_
    have ex' : x' = u := by
      have q : its.toArray[i]? = some u := by simpa using hu
      rw [q] at hx'
      exact (Option.some.inj hx').symm
    subst ex'
    refine ⟨_, rfl, wpAny_letOwnedTupleGo_enum (s := { s with heap := h', toks := tk + 1 }) ho fun h'' he' sb => ?_⟩
    have hT2 : h''.get? s.heap.objs.size = some { cls := .type "tuple", data := .seq #[.int i tk, x'] } := (sb.2 _ (Nat.ne_of_gt hel)).trans hT
    have new : ObjOk X.prog X.w (upd H s.heap.objs.size (.tup [.int (i : Nat), x])) h'' s.heap.objs.size (.tup [.int (i : Nat), x]) :=
      ⟨by show 2 ≤ sizeLine; decide, [.int i tk, x'], .cons ⟨_, rfl⟩ (.cons ru .nil), ⟨_, hT2, rfl, _, rfl⟩⟩
    have I1 : Inv X pins σ (upd H s.heap.objs.size (.tup [.int (i : Nat), x])) { s with heap := h'', toks := tk + 1 } :=
      I.turnedNew (ch := [e, it]) (fun b ob hb q => (sb.2 b (fun z => hb (by simp [z]))).trans (hk b ob (fun z => hb (by simp [z])) (fun z => hb (by simp [z])) q)) hf (Nat.le_refl _) new
    refine ⟨.ref s.heap.objs.size, _, I1, rfl, ⟨_, x, rfl, I.hok.fresh (Nat.le_refl _), rfl, fun ys hy => by rw [I.tuple_inj hy hq]; exact hx⟩, ⟨⟨x', ?_⟩, hit'.1.at fun o q => (sb.2 it (Ne.symm hne)).trans q, hne⟩, fun b hb => ?_⟩
    · have e1 : ((i + 1 : Nat) : Int) = (i : Int) + 1 := by omega
      rw [e1]; exact he'
    · have hb' : b < s.heap.objs.size := by
        have e' : b = e ∨ b = it := by simpa using hb
        rcases e' with z | z
        · rw [z]; exact hel
        · rw [z]; exact hil
      rw [upd_ne (Nat.ne_of_lt hb')]
      exact (hf b hb).1
  done := by
    intro X hP hw hK hc i pins s σ H E I hf st hg
    subst hP hw hK
    obtain ⟨⟨old, he⟩, hit, hne⟩ := st
    obtain ⟨xs, hq, hx⟩ := hg
    obtain ⟨its, rv, p, hz⟩ := I.tuple hq
    obtain ⟨f0, f1, f2, f3, f4, f5⟩ := hf it (by simp)
    have hl := rv.length
    unfold pyNext
    have hT : s.TypeIs (.ref e) "enumerate" := ⟨_, he, rfl⟩
    refine wpAny_bind (wpAny_attempt (wpAny_callSpecial?_slot (name := Str.ofString "__next__") hT F.slot_enumerate_next
      (wpAny_call_entry F.slot_enumerate_next hT F.entry_enumerate_next ?_ (F.args_enumerate_next_1 _))))
    show wpAny _ _ (field (.ref e) 2 >>= _) _ _ _
    refine wpAny_bind (wpAny_field he rfl (x := .ref it) rfl ?_)
    refine wpAny_bind (wpAny_nextOf_tuple_end (I.ok.hd hc) hit (show s.heap.IsTuple a its.toArray from p) (by simp; omega) fun h' x he' hx' => ?_)
    obtain ⟨o, ho, hcl⟩ := hx'
    refine wpAny_bind (wpAny_isInstance (T := "StopIteration") (b := true) ⟨o, ho, hcl⟩ isSubtype_stop ?_)
    exact wpAny_pure ⟨rfl, I.turned (t' := s.toks) (fun b o hb q => he' b o hb q) f0 f1 f3 f4 f5⟩
  self := fun A i s Q E st h => let ⟨⟨_, he⟩, _⟩ := st; wpAny_pyIter_enum he h
def iEnumA (K : PySem.W.Frag) (ta : TA) : TI := fun σ H R => ta σ H fun vs H1 => ∃ a, vs = [.ref a] ∧ (((∃ xs, SqL K H1 a xs) ∧ R (Ite K a) H1) ∨ ((∃ xs, SqT K H1 a xs) ∧ R (IteT K a) H1))
theorem pi_enumA {X : Cx} {e : Expr} {ta : TA} {p pos tpos : Pos} {elts : List Expr} {kk : Nat} (hg : Gl X "enumerate") (hm : X.mg "enumerate" = none) (ha : PA X [e] ta) (hs : starEach [e] X.env = [(false, eval e X.env)] := by rfl) :
    PI X (.Tuple elts kk tpos) (.Call (.Name "enumerate" p) [e] [] pos) (iEnumA X.K ta) := by
  refine ⟨fun pins s σ H R I h => ?_⟩
  refine Call_ (ld_blt I hg hm boot_enumerate (PyProof.Rows.callWith_type1 (thn (ha.run pos pins s σ H _ I h) fun us s1 ⟨vs, H1, I1, r1, q1⟩ => ?_) hs rfl))
  obtain ⟨a, ex, q⟩ := q1
  subst ex
  cases r1 with
  | cons r rr =>
    cases rr
    cases r
    have fp : ∀ b ∈ [s1.heap.objs.size + 1, s1.heap.objs.size], FpOk X pins H1 b := fun b hb => by
      have e' : b = s1.heap.objs.size + 1 ∨ b = s1.heap.objs.size := by simpa using hb
      have hle : s1.heap.objs.size ≤ b := by
        rcases e' with z | z
        · rw [z]; exact Nat.le_add_right _ _
        · rw [z]; exact Nat.le_refl _
      exact I1.fpOk hle (I1.hok.fresh hle)
    rcases q with ⟨⟨xs, hq⟩, q⟩ | ⟨⟨xs, hq⟩, q⟩
    · obtain ⟨its, rv, p', hz⟩ := I1.list hq
      refine call_enumerate_list p'.isList fun h' he hit hsz hk => wpAny_pyIter_enum he ?_
      have I2 : Inv X pins σ H1 { s1 with heap := h' } := I1.kept (t' := s1.toks) hk
      exact ⟨s1.heap.objs.size + 1, [s1.heap.objs.size + 1, s1.heap.objs.size], _, _, H1, rfl, I2, turn_enum a (s1.heap.objs.size + 1) s1.heap.objs.size, ⟨⟨.none, he⟩, hit, Nat.succ_ne_self _⟩, fp, q⟩
    · obtain ⟨its, rv, p', hz⟩ := I1.tuple hq
      have la : a < s1.heap.objs.size := by obtain ⟨o, ho, _⟩ := p'; exact Heap.lt_size ho
      refine enum_begins1 (PySem.begins_tuple a its.toArray) (show s1.heap.IsTuple a its.toArray from p') fun h' he hit hsz hk => wpAny_pyIter_enum he ?_
      have I2 : Inv X pins σ H1 { s1 with heap := h' } := I1.kept (t' := s1.toks) hk
      exact ⟨s1.heap.objs.size + 1, [s1.heap.objs.size + 1, s1.heap.objs.size], _, _, H1, rfl, I2, turn_enumT a (s1.heap.objs.size + 1) s1.heap.objs.size (Nat.ne_of_lt la) (Nat.ne_of_gt (Nat.lt_succ_of_lt la)), ⟨⟨.none, he⟩, ⟨_, hit, rfl, rfl⟩, Nat.succ_ne_self _⟩, fp, q⟩

def enumD (ds : List D) : List D := ds.mapIdx fun i d => .tup [.int (i : Nat), d]
theorem enumD_length {ds : List D} : (enumD ds).length = ds.length := by unfold enumD; rw [List.length_mapIdx]
theorem enumD_get {ds : List D} {i : Nat} {d : D} (h : ds[i]? = some d) : (enumD ds)[i]? = some (.tup [.int (i : Nat), d]) := by
  unfold enumD
  rw [List.getElem?_mapIdx, h]
  rfl
section
variable {K : PySem.W.Frag}
theorem its_enum {F1 : Hp} {a : Addr} {vs : List V} {ds : List D} (h : SqL K F1 a vs) (r : Rps K F1 vs ds) : ItS K (fun F H => Same F1 F ∧ Same F H) (Ite K a) (enumD ds) where
  go := fun i F H ⟨h1, h2⟩ hi => by
    rw [enumD_length, ← r.length] at hi
    exact ⟨vs, vs[i], (h1.trans h2).seq h, by simp [hi]⟩
  stop := fun i F H ⟨h1, h2⟩ hi => ⟨vs, (h1.trans h2).seq h, by rw [enumD_length, ← r.length] at hi; exact hi⟩
  yld := fun c i F H σ e x H' ⟨h1, h2⟩ _ S y => by
    obtain ⟨T, u, rfl, hT, rfl, y⟩ := y
    obtain ⟨d, k1, k2⟩ := r.get (y vs ((h1.trans h2).seq h))
    obtain ⟨S2, r2⟩ := S.here.newTup (ds := [.int (i : Nat), d]) hT (.cons (.int _) (.cons (k2.mono h1) .nil))
    exact ⟨_, _, enumD_get k1, S2, r2⟩
theorem its_enumT {F1 : Hp} {a : Addr} {vs : List V} {ds : List D} (h : SqT K F1 a vs) (r : Rps K F1 vs ds) : ItS K (fun F H => Same F1 F ∧ Same F H) (IteT K a) (enumD ds) where
  go := fun i F H ⟨h1, h2⟩ hi => by
    rw [enumD_length, ← r.length] at hi
    exact ⟨vs, vs[i], sq_t (h1.trans h2) h, by simp [hi]⟩
  stop := fun i F H ⟨h1, h2⟩ hi => ⟨vs, sq_t (h1.trans h2) h, by rw [enumD_length, ← r.length] at hi; exact hi⟩
  yld := fun c i F H σ e x H' ⟨h1, h2⟩ _ S y => by
    obtain ⟨T, u, rfl, hT, rfl, y⟩ := y
    obtain ⟨d, k1, k2⟩ := r.get (y vs (sq_t (h1.trans h2) h))
    obtain ⟨S2, r2⟩ := S.here.newTup (ds := [.int (i : Nat), d]) hT (.cons (.int _) (.cons (k2.mono h1) .nil))
    exact ⟨_, _, enumD_get k1, S2, r2⟩
/-- the owned list at a, as it stands -/
def PrV (K : PySem.W.Frag) (a : Addr) (ds : List D) (F H : Hp) : Prop := ∃ vs, H a = some (.lst vs) ∧ Rps K F vs ds
theorem lst_inj {H : Hp} {a : Addr} {vs ws : List V} (h : H a = some (.lst vs)) (h' : SqL K H a ws) (n : K.lookup a = none) : ws = vs := by
  rcases h' with (h' | ⟨o, h'⟩) | ⟨o, its, k, h', _⟩
  · rw [h] at h'; cases h'; rfl
  · rw [h] at h'; cases h'
  · rw [n] at h'; cases h'
theorem itv_list {a : Addr} {ds : List D} : ItS K (PrV K a ds) (Itl K a) ds where
  go := fun i F H ⟨vs, h1, h2⟩ hi => by
    rw [← h2.length] at hi
    exact ⟨vs, vs[i], SqL.of h1, by simp [hi]⟩
  stop := fun i F H ⟨vs, h1, h2⟩ hi => ⟨vs, SqL.of h1, by rw [h2.length]; exact hi⟩
  yld := fun c i F H σ e x H' ⟨vs, h1, h2⟩ _ S y => by
    obtain ⟨rfl, y⟩ := y
    obtain ⟨d, k1, k2⟩ := h2.get (y vs (SqL.of h1))
    exact ⟨d, F, k1, S.here, k2⟩
theorem itv_enum {a : Addr} {ds : List D} : ItS K (PrV K a ds) (Ite K a) (enumD ds) where
  go := fun i F H ⟨vs, h1, h2⟩ hi => by
    rw [enumD_length, ← h2.length] at hi
    exact ⟨vs, vs[i], SqL.of h1, by simp [hi]⟩
  stop := fun i F H ⟨vs, h1, h2⟩ hi => ⟨vs, SqL.of h1, by rw [enumD_length, ← h2.length] at hi; exact hi⟩
  yld := fun c i F H σ e x H' ⟨vs, h1, h2⟩ _ S y => by
    obtain ⟨T, u, rfl, hT, rfl, y⟩ := y
    obtain ⟨d, k1, k2⟩ := h2.get (y vs (SqL.of h1))
    obtain ⟨S2, r2⟩ := S.here.newTup (ds := [.int (i : Nat), d]) hT (.cons (.int _) (.cons k2 .nil))
    exact ⟨_, _, enumD_get k1, S2, r2⟩
end
section
variable {X : Cx} {W : WX} {a b e : Expr} {pos : Pos}
/-- enumerate(e), e frozen -/
def enSrc (Q : List D → Env → Prop) : D → Env → Prop := seqD fun ds e => Q (enumD ds) e
def pEnum (p : PEx) : PSrc := fun e Q E => p e (enSrc Q) E
theorem sa_of1 {p : PEx} (h : SF X W e p) (hs : starEach [e] X.env = (false, eval e X.env) :: starEach [] X.env := by rfl) : SA X W [e] (pCons (pIn p) pNil) := sa_cons (sg_of h) sa_nil hs
theorem ssr_enum {elts : List Expr} {kk : Nat} {tpos p0 : Pos} {p : PEx} (hg : Gl X "enumerate") (hm : X.mg "enumerate" = none) (h : SF X W e p) (hs : starEach [e] X.env = [(false, eval e X.env)] := by rfl) : SSr X W (.Tuple elts kk tpos) (.Call (.Name "enumerate" p0) [e] [] pos) (pEnum p) := by
  refine ⟨(pi_enumA hg hm (sa_of1 h hs).run hs).weak fun σ H R ⟨c, F, en, S, k⟩ => ?_, fun _ _ _ _ _ h1 h2 k => h.mono _ _ _ _ _ (seqD_mono fun ds e k => h1 _ _ k) h2 k⟩
  refine ⟨{ c with F0 := F }, F, en, S.here, h.mono _ _ _ _ _ (fun d e1 k1 => ?_) (fun x e1 k1 => fun F1 H1 cls d S1 r1 => k1 F1 H1 cls d (S1.back S.gr0) r1) k⟩
  show ∀ (F1 H1 : Hp) (vs : List V), StR X.K { c with F0 := F } F1 H1 σ e1 → ArgsR X.K F1 σ vs [.inl d] → _
  intro F1 H1 vs S1 r1
  have S1' := S1.back S.gr0
  cases r1 with
  | cons r t =>
    cases t
    have r' : Rp X.K F1 _ d := r
    cases r' <;> try exact k1.elim
    · rename_i q qs
      exact ⟨_, rfl, .inl ⟨⟨_, SqL.of (S1.gr _ _ q)⟩, k1 F1 H1 _ S1' ⟨_, its_enum (SqL.of q) qs, fun F' H' h1 h2 => ⟨h1, h2⟩⟩⟩⟩
    · rename_i q qs
      exact ⟨_, rfl, .inr ⟨⟨_, sq_t S1.gr q⟩, k1 F1 H1 _ S1' ⟨_, its_enumT q qs, fun F' H' h1 h2 => ⟨h1, h2⟩⟩⟩⟩
    · rename_i q qs
      exact ⟨_, rfl, .inl ⟨⟨_, S1.gr.seq q⟩, k1 F1 H1 _ S1' ⟨_, its_enum q qs, fun F' H' h1 h2 => ⟨h1, h2⟩⟩⟩⟩
/-- a source that is an owned list of the frame: mk tells its items -/
structure SVr (X : Cx) (tg iter : Expr) (j : Nat) (mk : List D → List D) : Prop where
  run : PI X tg iter (fun σ H R => ∃ a vs, σ[j]? = some (some (.ref a)) ∧ H a = some (.lst vs) ∧ ∀ J, (∀ ds, ItS X.K (PrV X.K a ds) J (mk ds)) → R J H)
theorem svr_list {tg : Expr} {j : Nat} (h : PE X e (tVar j)) : SVr X tg e j id :=
  ⟨(pi_list h).weak fun σ H R ⟨a, vs, h1, h2, k⟩ => ⟨_, h1, a, rfl, ⟨vs, SqL.of h2⟩, k _ fun ds => itv_list⟩⟩
theorem svr_enum {elts : List Expr} {kk : Nat} {tpos p0 : Pos} {j : Nat} (hg : Gl X "enumerate") (hm : X.mg "enumerate" = none) (h : PE X e (tVar j)) (hs : starEach [e] X.env = [(false, eval e X.env)] := by rfl) : SVr X (.Tuple elts kk tpos) (.Call (.Name "enumerate" p0) [e] [] pos) j enumD :=
  ⟨(pi_enum hg hm (pa_cons h pa_nil hs) hs).weak fun σ H R ⟨a, vs, h1, h2, k⟩ => ⟨_, h1, a, vs, rfl, SqL.of h2, k _ fun ds => itv_enum⟩⟩
/-- the anchor of a slot -/
def aSet (A : Nat → Option V) (j : Nat) (v : V) : Nat → Option V := fun i => if i = j then some v else A i
def rst (j : Nat) (an : Bool) (e : Env) : Env := match e[j]? with
  | some (.ow _ ds) => e.set j (.ow an ds)
  | _ => e
theorem rst_get {j : Nat} {an : Bool} {e : Env} {i : Nat} : (rst j an e)[i]? = if i = j then (match e[j]? with | some (.ow _ ds) => some (.ow an ds) | o => o) else e[i]? := by
  unfold rst
  by_cases h : i = j
  · subst h
    rw [if_pos rfl]
    cases ei : e[i]? with
    | none => exact ei
    | some o => cases o <;> first | exact ei | exact set_self ei
  · rw [if_neg h]
    split
    · exact set_other (Ne.symm h)
    · rfl
end
section
variable {K : PySem.W.Frag} {c : PCx} {F H : Hp} {σ : L2.St} {e : Env}
theorem StR.anchor (S : StR K c F H σ e) {j : Nat} {an : Bool} {ds : List D} {p : Addr} (he : e[j]? = some (.ow an ds)) (hp : σ[j]? = some (some (.ref p))) : StR K { c with A := aSet c.A j (.ref p) } F H σ (e.set j (.ow true ds)) := by
  have eself : (e.set j (.ow true ds))[j]? = some (.ow true ds) := set_self he
  have own : ∀ i q, Owns σ (e.set j (.ow true ds)) i q → Owns σ e i q := fun i q o => by
    unfold Owns at o
    by_cases z : j = i
    · subst z
      rw [eself] at o
      rcases o with ⟨_, k2⟩ | ⟨_, k⟩
      · exact .inl ⟨⟨an, ds, he⟩, k2⟩
      · cases k
    · rw [set_other z] at o; exact o
  refine ⟨by simp only [List.length_set]; exact S.len, S.gr0, S.gr, fun i d k => ?_, fun i a d k => ?_, fun i v k => ?_, fun i a d k => ?_, fun i o k h => ?_, fun i k q o1 o2 => S.ap i k q (own i q o1) (own k q o2), S.fr⟩
  · by_cases z : j = i
    · subst z; rw [eself] at k; cases k
    · rw [set_other z] at k; exact S.fz i d k
  · by_cases z : j = i
    · subst z; rw [eself] at k; cases k; exact S.ow j an ds he
    · rw [set_other z] at k; exact S.ow i a d k
  · have k' : (if i = j then some (V.ref p) else c.A i) = some v := k
    by_cases z : i = j
    · subst z
      rw [if_pos rfl] at k'; cases k'
      exact ⟨⟨ds, eself⟩, hp⟩
    · rw [if_neg z] at k'
      obtain ⟨⟨d, e1⟩, e2⟩ := S.an i v k'
      exact ⟨⟨d, by rw [set_other (Ne.symm z)]; exact e1⟩, e2⟩
  · by_cases z : j = i
    · subst z; rw [eself] at k; cases k
    · rw [set_other z] at k; exact S.ce i a d k
  · by_cases z : j = i
    · subst z
      obtain ⟨a, d, e'⟩ := S.hi j _ he h
      cases e'
    · rw [set_other z] at k; exact S.hi i o k h
theorem StR.unanchor {j : Nat} {an : Bool} {v : V} (S : StR K { c with A := aSet c.A j v } F H σ e) (ha : ∀ w, c.A j = some w → an = true ∧ w = v) : StR K c F H σ (rst j an e) := by
  have own : ∀ i q, Owns σ (rst j an e) i q → Owns σ e i q := fun i q o => by
    unfold Owns at o
    rw [rst_get] at o
    by_cases z : i = j
    · subst z
      rw [if_pos rfl] at o
      cases ei : e[i]? with
      | none => rw [ei] at o; rcases o with ⟨⟨_, _, k⟩, _⟩ | ⟨_, k⟩ <;> cases k
      | some o' =>
        cases o' with
        | un => rw [ei] at o; rcases o with ⟨⟨_, _, k⟩, _⟩ | ⟨_, k⟩ <;> cases k
        | fz d => rw [ei] at o; rcases o with ⟨⟨_, _, k⟩, _⟩ | ⟨_, k⟩ <;> cases k
        | ow a2 d2 =>
          rw [ei] at o
          rcases o with ⟨_, k2⟩ | ⟨_, k⟩
          · exact .inl ⟨⟨a2, d2, ei⟩, k2⟩
          · cases k
        | ce a2 d2 =>
          rw [ei] at o
          rcases o with ⟨⟨_, _, k⟩, _⟩ | ⟨d, k⟩
          · cases k
          · exact .inr ⟨d, by rw [ei]; exact k⟩
    · rw [if_neg z] at o; exact o
  refine ⟨?_, S.gr0, S.gr, fun i d k => ?_, fun i a d k => ?_, fun i w k => ?_, fun i a d k => ?_, fun i o k h => ?_, fun i k q o1 o2 => S.ap i k q (own i q o1) (own k q o2), S.fr⟩
  · refine ⟨S.len.1, Nat.le_trans S.len.2 ?_⟩
    unfold rst
    split <;> simp
  · rw [rst_get] at k
    by_cases z : i = j
    · subst z
      rw [if_pos rfl] at k
      cases ei : e[i]? with
      | none => rw [ei] at k; cases k
      | some o =>
        cases o with
        | un => rw [ei] at k; cases k
        | fz d2 => rw [ei] at k; cases k; exact S.fz i d ei
        | ow a2 d2 => rw [ei] at k; cases k
        | ce a2 d2 => rw [ei] at k; cases k
    · rw [if_neg z] at k; exact S.fz i d k
  · rw [rst_get] at k
    by_cases z : i = j
    · subst z
      rw [if_pos rfl] at k
      cases ei : e[i]? with
      | none => rw [ei] at k; cases k
      | some o =>
        cases o with
        | un => rw [ei] at k; cases k
        | fz d2 => rw [ei] at k; cases k
        | ce a2 d2 => rw [ei] at k; cases k
        | ow a2 d2 => rw [ei] at k; cases k; exact S.ow i a2 d ei
    · rw [if_neg z] at k; exact S.ow i a d k
  · by_cases z : i = j
    · subst z
      obtain ⟨h1, h2⟩ := ha w k
      subst h1 h2
      obtain ⟨⟨d, e1⟩, e2⟩ := S.an i w (by show (if i = i then some w else c.A i) = some w; rw [if_pos rfl])
      refine ⟨⟨d, ?_⟩, e2⟩
      rw [rst_get, if_pos rfl, e1]
    · obtain ⟨⟨d, e1⟩, e2⟩ := S.an i w (by show (if i = j then some v else c.A i) = some w; rw [if_neg z]; exact k)
      exact ⟨⟨d, by rw [rst_get, if_neg z]; exact e1⟩, e2⟩
  · rw [rst_get] at k
    by_cases z : i = j
    · subst z
      rw [if_pos rfl] at k
      cases ei : e[i]? with
      | none => rw [ei] at k; cases k
      | some o =>
        cases o with
        | ce a2 d2 => rw [ei] at k; cases k; exact S.ce i a d ei
        | _ => rw [ei] at k; cases k
    · rw [if_neg z] at k; exact S.ce i a d k
  · rw [rst_get] at k
    by_cases z : i = j
    · subst z
      rw [if_pos rfl] at k
      cases ei : e[i]? with
      | none => rw [ei] at k; cases k
      | some o' =>
        obtain ⟨a, d, e'⟩ := S.hi i _ ei h
        subst e'
        rw [ei] at k
        exact ⟨a, d, (Option.some.inj k).symm⟩
    · rw [if_neg z] at k; exact S.hi i o k h
/-- the same, the slot left anchored -/
theorem StR.unanchor0 {j : Nat} {v : V} (S : StR K { c with A := aSet c.A j v } F H σ e) (ha : ∀ w, c.A j = some w → w = v) : StR K c F H σ e := by
  refine ⟨S.len, S.gr0, S.gr, S.fz, S.ow, fun i w k => ?_, S.ce, S.hi, S.ap, S.fr⟩
  by_cases z : i = j
  · subst z
    have := ha w k
    subst this
    exact S.an i w (by show (if i = i then some w else c.A i) = some w; rw [if_pos rfl])
  · exact S.an i w (by show (if i = j then some v else c.A i) = some w; rw [if_neg z]; exact k)
end
section
variable {X : Cx} {W : WX} {a b e : Expr} {pos : Pos}
def pForV (j : Nat) (mk : List D → List D) (g : PTg) (p : PSt) : PSt := fun Z e => owAt e j fun an ds =>
  forGo (fun e' => e'[j]? = some (.ow true ds)) g p { Z with nx := fun e' => Z.nx (rst j an e'), bk := fun e' => Z.bk e' } (mk ds) (e.set j (.ow true ds))
theorem ss_forV {tg iter : Expr} {sl : List Nat} {j : Nat} {mk : List D → List D} {g : PTg} {p : PSt} {body : List Stmt} (hp : PassesOwn (model X.prog X.w) X.A X.env X.xe) (hc : X.calm = true) (hi : SVr X tg iter j mk) (hg : SGt X tg sl g) (hb : SSs X W body p)
    (hs : ∀ x, foldedSetIterable iter X.env x = pure x := by intro _; rfl) : SS X W (.For tg iter body [] pos) (pForV j mk g p) := by
  refine ⟨(ps_for hp hc hi.run hg.run hb.run hs).weak fun D σ H ⟨c, F, en, S, k⟩ => ?_, fun Z Z' e hl k => ?_⟩
  rotate_left
  · unfold pForV at k ⊢
    refine owAt_mono (fun an ds k => ?_) k
    refine forGo_mono hg.mono hb.mono ?_ _ _ k
    exact ⟨fun e k => hl.nx _ k, hl.rt, hl.ex, fun e k => hl.bk _ k, hl.ct⟩
  obtain ⟨an, ds, ej, k⟩ := owAt_get k
  obtain ⟨q, vs, g1, g2, g3, g4, g5⟩ := S.ow j an ds ej
  have SA := S.anchor ej g1
  have ha : ∀ w, c.A j = some w → an = true ∧ w = .ref q := fun w hw => by
    obtain ⟨⟨d, e1⟩, e2⟩ := S.an j w hw
    rw [ej] at e1; cases e1
    rw [g1] at e2
    exact ⟨rfl, (Option.some.inj (Option.some.inj e2)).symm⟩
  unfold tFor
  dsimp only
  refine ⟨q, vs, g1, g4, fun J it => ?_⟩
  have it := it ds
  refine ⟨fun i m σ H => ∃ F e, StR X.K { c with A := aSet c.A j (.ref q) } F H σ e ∧ m = (mk ds).length - i ∧ i ≤ (mk ds).length ∧ forGo (fun e' => e'[j]? = some (.ow true ds)) g p _ ((mk ds).drop i) e, ⟨(mk ds).length, F, _, SA, rfl, Nat.zero_le _, k⟩, fun i m σ H ⟨F, e, S, em, hi, q0⟩ => ?_⟩
  subst em
  have hj : e[j]? = some (.ow true ds) := by
    cases hd : (mk ds).drop i with
    | nil => rw [hd] at q0; exact q0.1
    | cons d r => rw [hd] at q0; exact q0.1
  have hpr : PrV X.K q ds F H := by
    obtain ⟨q', vs', f1, f2, f3, f4, f5⟩ := S.ow j true ds hj
    obtain ⟨_, e2⟩ := S.an j (.ref q) (by show (if j = j then some (V.ref q) else c.A j) = _; rw [if_pos rfl])
    rw [f1] at e2; cases e2
    exact ⟨vs', f4, f5⟩
  by_cases hlt : i < (mk ds).length
  · refine .inr ⟨it.go i F H hpr hlt, fun σ' H' => ∃ F e, StR X.K { c with A := aSet c.A j (.ref q) } F H' σ' e ∧ i + 1 ≤ (mk ds).length ∧ forGo (fun e' => e'[j]? = some (.ow true ds)) g p _ ((mk ds).drop (i + 1)) e, fun σ' H' ⟨F, e, S, h1, h2⟩ => ⟨(mk ds).length - (i + 1), by omega, F, e, S, rfl, h1, h2⟩, fun x H' y => ?_⟩
    obtain ⟨d, F', hd, S', rx⟩ := it.yld _ i F H σ e x H' hpr hlt S y
    have ed : (mk ds).drop i = d :: (mk ds).drop (i + 1) := by
      rw [List.drop_eq_getElem_cons hlt]
      rw [List.getElem?_eq_getElem hlt] at hd
      rw [Option.some.inj hd]
    rw [ed] at q0
    refine ⟨{ c with A := aSet c.A j (.ref q) }, F', e, d, S'.back (c := { c with A := aSet c.A j (.ref q) }) S.gr0, rx, hg.mono _ _ _ _ (fun e2 k2 σ2 S2 _ => ?_) q0.2⟩
    refine ⟨{ c with A := aSet c.A j (.ref q) }, F', e2, S2, hb.mono _ _ _ ?_ k2⟩
    exact ⟨fun e' k' F' H' σ' S' => ⟨F', e', S', hlt, k'⟩, fun r e' k' F' H' σ' v S' o => k' F' H' σ' v (S'.unanchor0 fun w hw => (ha w hw).2) o, fun x e' k' F' H' σ' cls d S' o => k' F' H' σ' cls d (S'.unanchor0 fun w hw => (ha w hw).2) o, fun e' k' F' H' σ' S' => k' F' H' σ' (S'.unanchor ha), fun e' k' F' H' σ' S' => ⟨F', e', S', hlt, k'⟩⟩
  · have ei : (mk ds).drop i = [] := List.drop_eq_nil_of_le (by omega)
    rw [ei] at q0
    exact .inl ⟨it.stop i F H hpr (by omega), q0.2 F H σ (S.unanchor ha)⟩
end
end PW
set_option Elab.async false
set_option linter.all false
set_option maxRecDepth 100000
set_option maxHeartbeats 4000000
namespace PW
open PySem PySem.Spec PyProof.Rows L2

/-! ### the block's own slots -/
def wipeE (e : Env) : List Nat → Env
  | [] => e
  | v :: vs => (wipeE e vs).set v .un
def restE (e0 e : Env) : List Nat → Env
  | [] => e
  | v :: vs => (restE e0 e vs).set v (e0.getD v .un)
theorem wipeE_length (e : Env) : ∀ vs, (wipeE e vs).length = e.length
  | [] => rfl
  | v :: vs => by unfold wipeE; rw [List.length_set, wipeE_length e vs]
theorem restE_length (e0 e : Env) : ∀ vs, (restE e0 e vs).length = e.length
  | [] => rfl
  | v :: vs => by unfold restE; rw [List.length_set, restE_length e0 e vs]
theorem wipeE_get {e : Env} {i : Nat} : ∀ {vs : List Nat}, (wipeE e vs)[i]? = if i ∈ vs ∧ i < e.length then some .un else e[i]?
  | [] => by rw [if_neg (fun h => by simp at h)]; rfl
  | v :: vs => by
    unfold wipeE
    rw [get_set, wipeE_length, wipeE_get (vs := vs)]
    by_cases h : v = i
    · subst h
      rw [if_pos rfl]
      by_cases hl : v < e.length
      · rw [if_pos hl, if_pos ⟨by simp, hl⟩]
      · rw [if_neg hl, if_neg (fun z => hl z.2), List.getElem?_eq_none (by omega)]
    · rw [if_neg h]
      by_cases hm : i ∈ vs ∧ i < e.length
      · rw [if_pos hm, if_pos ⟨List.mem_cons_of_mem _ hm.1, hm.2⟩]
      · rw [if_neg hm, if_neg (fun z => hm ⟨(List.mem_cons.mp z.1).resolve_left (fun q => h q.symm), z.2⟩)]
theorem restE_get {e0 e : Env} {i : Nat} : ∀ {vs : List Nat}, (∀ j ∈ vs, j < e0.length ∧ j < e.length) → (restE e0 e vs)[i]? = if i ∈ vs then e0[i]? else e[i]?
  | [], _ => by rw [if_neg (by simp)]; rfl
  | v :: vs, hv => by
    unfold restE
    rw [get_set, restE_length, restE_get (vs := vs) fun j hj => hv j (List.mem_cons_of_mem _ hj)]
    by_cases h : v = i
    · subst h
      obtain ⟨h1, h2⟩ := hv v (by simp)
      rw [if_pos rfl, if_pos (show v ∈ v :: vs by simp), if_pos h2, List.getD_eq_getElem?_getD, List.getElem?_eq_getElem h1]; rfl
    · rw [if_neg h]
      by_cases hm : i ∈ vs
      · rw [if_pos hm, if_pos (List.mem_cons_of_mem _ hm)]
      · rw [if_neg hm, if_neg (fun z => hm ((List.mem_cons.mp z).resolve_left (fun q => h q.symm)))]
theorem wipe_get {σ : L2.St} {i : Nat} : ∀ {vs : List Nat}, (wipe σ vs)[i]? = if i ∈ vs ∧ i < σ.length then some none else σ[i]?
  | [] => by rw [if_neg (fun h => by simp at h)]; rfl
  | v :: vs => by
    unfold wipe
    rw [get_set, wipe_length, wipe_get (vs := vs)]
    by_cases h : v = i
    · subst h
      rw [if_pos rfl]
      by_cases hl : v < σ.length
      · rw [if_pos hl, if_pos ⟨by simp, hl⟩]
      · rw [if_neg hl, if_neg (fun z => hl z.2), List.getElem?_eq_none (by omega)]
    · rw [if_neg h]
      by_cases hm : i ∈ vs ∧ i < σ.length
      · rw [if_pos hm, if_pos ⟨List.mem_cons_of_mem _ hm.1, hm.2⟩]
      · rw [if_neg hm, if_neg (fun z => hm ⟨(List.mem_cons.mp z.1).resolve_left (fun q => h q.symm), z.2⟩)]
theorem wipe_sb {σ σ2 : L2.St} {sl vs : List Nat} (h : Sb sl (wipe σ vs) σ2) (hs : ∀ i ∈ sl, i ∈ vs) : wipe σ2 vs = wipe σ vs := by
  have hl : σ2.length = σ.length := by rw [h.1, wipe_length]
  refine List.ext_getElem? fun i => ?_
  rw [wipe_get, wipe_get, hl]
  by_cases hm : i ∈ vs ∧ i < σ.length
  · rw [if_pos hm, if_pos hm]
  · rw [if_neg hm, if_neg hm]
    by_cases hi : i ∈ vs
    · have : σ.length ≤ i := Nat.le_of_not_lt fun z => hm ⟨hi, z⟩
      rw [List.getElem?_eq_none (by omega), List.getElem?_eq_none this]
    · rw [h.2 i fun z => hi (hs i z), wipe_get, if_neg fun z => hi z.1]
def noOw (e : Env) (vs : List Nat) : Prop := ∀ i ∈ vs, match e[i]? with
  | some .un => True
  | some (.fz _) => True
  | _ => False
section
variable {K : PySem.W.Frag} {c : PCx} {F H : Hp} {σ : L2.St} {e : Env}
theorem StR.noOw_lt (S : StR K c F H σ e) {vs : List Nat} (hn : noOw e vs) : ∀ i ∈ vs, i < σ.length := fun i hi => by
  have q := hn i hi
  cases ei : e[i]? with
  | none => rw [ei] at q; exact q.elim
  | some o =>
    refine Nat.lt_of_not_le fun z => ?_
    obtain ⟨a, ds, z⟩ := S.hi i o ei z
    subst z
    rw [ei] at q
    exact q
theorem StR.wipe (S : StR K c F H σ e) {vs : List Nat} (hn : noOw e vs) : StR K c F H (wipe σ vs) (wipeE e vs) := by
  have eg : ∀ {i : Nat} {o : O}, (wipeE e vs)[i]? = some o → o ≠ .un → i ∉ vs ∧ e[i]? = some o := fun {i o} h hu => by
    rw [wipeE_get] at h
    by_cases hm : i ∈ vs ∧ i < e.length
    · rw [if_pos hm] at h; cases h; exact absurd rfl hu
    · rw [if_neg hm] at h
      have hi : i < e.length := (List.getElem?_eq_some_iff.mp h).1
      exact ⟨fun z => hm ⟨z, hi⟩, h⟩
  have sg : ∀ {i : Nat}, i ∉ vs → (L2.wipe σ vs)[i]? = σ[i]? := fun {i} h => by rw [wipe_get, if_neg fun z => h z.1]
  have own : ∀ i q, Owns (L2.wipe σ vs) (wipeE e vs) i q → Owns σ e i q := fun i q o => by
    rcases o with ⟨⟨a, d, k⟩, k2⟩ | ⟨d, k⟩
    · obtain ⟨h1, h2⟩ := eg k (fun z => nomatch z)
      rw [sg h1] at k2
      exact .inl ⟨⟨a, d, h2⟩, k2⟩
    · obtain ⟨h1, h2⟩ := eg k (fun z => nomatch z)
      exact .inr ⟨d, h2⟩
  have hlt := S.noOw_lt hn
  refine ⟨by rw [wipe_length, wipeE_length]; exact S.len, S.gr0, S.gr, fun i d k => ?_, fun i a d k => ?_, fun i w k => ?_, fun i a d k => ?_, fun i o k h => ?_, fun i k q o1 o2 => S.ap i k q (own i q o1) (own k q o2), S.fr⟩
  · obtain ⟨h1, h2⟩ := eg k (fun z => nomatch z)
    rw [sg h1]; exact S.fz i d h2
  · obtain ⟨h1, h2⟩ := eg k (fun z => nomatch z)
    rw [sg h1]; exact S.ow i a d h2
  · obtain ⟨⟨d, e1⟩, e2⟩ := S.an i w k
    have h1 : i ∉ vs := fun z => by
      have := hn i z
      rw [e1] at this
      exact this
    exact ⟨⟨d, by rw [wipeE_get, if_neg fun z => h1 z.1]; exact e1⟩, by rw [sg h1]; exact e2⟩
  · obtain ⟨h1, h2⟩ := eg k (fun z => nomatch z)
    rw [wipe_length]; exact S.ce i a d h2
  · rw [wipe_length] at h
    have h1 : i ∉ vs := fun z => absurd (hlt i z) (Nat.not_lt.mpr h)
    rw [wipeE_get, if_neg fun z => h1 z.1] at k
    exact S.hi i o k h
theorem StR.restLt {F1 H1 : Hp} {e1 : Env} {vs : List Nat} (S : StR K c F H (L2.wipe σ vs) e) {c' : PCx} (S1 : StR K c' F1 H1 σ e1) (hn : noOw e1 vs) : ∀ j ∈ vs, j < e1.length ∧ j < e.length := fun j hj => by
  have h1 := S1.noOw_lt hn j hj
  have h2 := S.len.2
  rw [wipe_length] at h2
  exact ⟨Nat.lt_of_lt_of_le h1 S1.len.2, Nat.lt_of_lt_of_le h1 h2⟩
theorem StR.restore {F1 H1 : Hp} {e1 : Env} {vs : List Nat} (S1 : StR K c F1 H1 σ e1) (hn : noOw e1 vs) (S : StR K c F H (L2.wipe σ vs) e) (g : Same F1 F) : StR K c F H σ (restE e1 e vs) := by
  have hlt := S1.noOw_lt hn
  have hl := S.restLt S1 hn
  have sg : ∀ {i : Nat}, i ∉ vs → (L2.wipe σ vs)[i]? = σ[i]? := fun {i} h => by rw [wipe_get, if_neg fun z => h z.1]
  have own : ∀ i q, Owns σ (restE e1 e vs) i q → Owns (L2.wipe σ vs) e i q := fun i q o => by
    unfold Owns at o
    rw [restE_get hl] at o
    by_cases h : i ∈ vs
    · rw [if_pos h] at o
      have := hn i h
      rcases o with ⟨⟨_, _, k⟩, _⟩ | ⟨_, k⟩ <;> (rw [k] at this; exact this.elim)
    · rw [if_neg h] at o
      unfold Owns
      rw [sg h]; exact o
  refine ⟨by rw [restE_length]; have := S.len; rw [wipe_length] at this; exact this, S.gr0, S.gr, fun i d k => ?_, fun i a d k => ?_, fun i w k => ?_, fun i a d k => ?_, fun i o k h => ?_, fun i k q o1 o2 => S.ap i k q (own i q o1) (own k q o2), S.fr⟩
  · rw [restE_get hl] at k
    by_cases h : i ∈ vs
    · rw [if_pos h] at k
      obtain ⟨v, h1, h2⟩ := S1.fz i d k
      exact ⟨v, h1, h2.mono g⟩
    · rw [if_neg h] at k
      rw [← sg h]; exact S.fz i d k
  · rw [restE_get hl] at k
    by_cases h : i ∈ vs
    · rw [if_pos h] at k
      have := hn i h
      rw [k] at this
      exact this.elim
    · rw [if_neg h] at k
      rw [← sg h]; exact S.ow i a d k
  · obtain ⟨⟨d, e2⟩, e3⟩ := S.an i w k
    have h : i ∉ vs := fun z => by
      have q := hn i z
      obtain ⟨⟨d', f1⟩, _⟩ := S1.an i w k
      rw [f1] at q
      exact q
    exact ⟨⟨d, by rw [restE_get hl, if_neg h]; exact e2⟩, by rw [← sg h]; exact e3⟩
  · rw [restE_get hl] at k
    by_cases h : i ∈ vs
    · rw [if_pos h] at k
      have := hn i h
      rw [k] at this
      exact this.elim
    · rw [if_neg h] at k
      have := S.ce i a d k
      rw [wipe_length] at this; exact this
  · have h1 : i ∉ vs := fun z => absurd (hlt i z) (Nat.not_lt.mpr h)
    rw [restE_get hl, if_neg h1] at k
    exact S.hi i o k (by rw [wipe_length]; exact h)
theorem StR.rehold {p : Addr} {o o' : HO} (S : StR K { c with Fr := upd c.Fr p o } F H σ e) : StR K { c with Fr := upd c.Fr p o' } F (upd H p o') σ e := by
  have hF : F p = none := (S.fr p o upd_same).1
  refine ⟨S.len, S.gr0, fun b u k => ?_, S.fz, fun i an ds k => ?_, S.an, fun i q ds k => ?_, S.hi, S.ap, fun b u k => ?_⟩
  · rw [upd_ne (ne_of_none k hF)]; exact S.gr b u k
  · obtain ⟨q, vs, k1, k2, k3, k4, k5⟩ := S.ow i an ds k
    have ne : q ≠ p := fun z => by
      have k3' : upd c.Fr p o q = none := k3
      rw [z, upd_same] at k3'; cases k3'
    have k3' : upd c.Fr p o q = none := k3
    rw [upd_ne ne] at k3'
    exact ⟨q, vs, k1, k2, by show upd c.Fr p o' q = none; rw [upd_ne ne]; exact k3', by rw [upd_ne ne]; exact k4, k5⟩
  · obtain ⟨k1, k2, k3, vs, k4, k5⟩ := S.ce i q ds k
    have ne : q ≠ p := fun z => by
      have k3' : upd c.Fr p o q = none := k3
      rw [z, upd_same] at k3'; cases k3'
    have k3' : upd c.Fr p o q = none := k3
    rw [upd_ne ne] at k3'
    exact ⟨k1, k2, by show upd c.Fr p o' q = none; rw [upd_ne ne]; exact k3', vs, by rw [upd_ne ne]; exact k4, k5⟩
  · have k' : upd c.Fr p o' b = some u := k
    by_cases z : b = p
    · subst z
      rw [upd_same] at k'; cases k'
      exact ⟨hF, upd_same⟩
    · rw [upd_ne z] at k'
      obtain ⟨h1, h2⟩ := S.fr b u (by show upd c.Fr p o b = some u; rw [upd_ne z]; exact k')
      exact ⟨h1, by rw [upd_ne z]; exact h2⟩
end
/-! ### list comprehensions -/
structure SCs (X : Cx) (W : WX) (ifs : List Expr) (p : PTx) : Prop where
  run : PTs X ifs (tM X.K W RT p)
  mono : Mono p
abbrev W0 : WX := fun _ _ _ _ => False
def pYes : PTx := fun e Q _ => Q true e
theorem scs_nil {X : Cx} {W : WX} : SCs X W [] pYes := ⟨⟨fun pins s σ H Q I ⟨c, F, en, S, k⟩ => pts_nil.run pins s σ H Q I (k F H true S rfl)⟩, fun _ _ _ _ _ hq _ h => hq _ _ h⟩
theorem scs_one {X : Cx} {W : WX} {a : Expr} {p : PTx} (h : ST X W a p) : SCs X W [a] p := ⟨pts_one h.run, h.mono⟩
def lcGo (ok : Env → Prop) (g : PTg) (tst : PTx) (elt : PEx) (vs : List Nat) (Kf : List D → Env → Prop) : List D → List D → Env → Prop
  | [], acc, e => ok e ∧ Kf acc e
  | d :: ds, acc, e => ok e ∧ g d e (fun e1 => tst e1 (fun b e2 => if b = true then elt e2 (fun y e3 => acc.length < sizeLine ∧ noOw e3 vs ∧ lcGo ok g tst elt vs Kf ds (acc ++ [y]) (wipeE e3 vs)) (fun _ _ => False)
      else noOw e2 vs ∧ lcGo ok g tst elt vs Kf ds acc (wipeE e2 vs)) (fun _ _ => False))
theorem lcGo_mono {ok : Env → Prop} {g : PTg} {tst : PTx} {elt : PEx} {vs : List Nat} {Kf Kf' : List D → Env → Prop} (hg : ∀ d e (k k' : Env → Prop), (∀ e, k e → k' e) → g d e k → g d e k') (ht : Mono tst) (he : Mono elt) (h : ∀ a e, Kf a e → Kf' a e) :
    ∀ ds acc e, lcGo ok g tst elt vs Kf ds acc e → lcGo ok g tst elt vs Kf' ds acc e
  | [], acc, e, k => ⟨k.1, h _ _ k.2⟩
  | d :: ds, acc, e, k => ⟨k.1, hg _ _ _ _ (fun e1 k => ht _ _ _ _ _ (fun b e2 k => by
    cases b with
    | true => exact he _ _ _ _ _ (fun y e3 k => ⟨k.1, k.2.1, lcGo_mono hg ht he h ds _ _ k.2.2⟩) (fun _ _ k => k) k
    | false => exact ⟨k.1, lcGo_mono hg ht he h ds _ _ k.2⟩) (fun _ _ k => k) k) k.2⟩
def pLc (vs : List Nat) (src : PSrc) (g : PTg) (tst : PTx) (elt : PEx) : POx := fun e Q E => src e (fun ds e1 => noOw e1 vs ∧ lcGo (fun _ => True) g tst elt vs (fun acc e2 => Q (.ow false acc) (restE e1 e2 vs)) ds [] (wipeE e1 vs)) E
def pLcV (vs : List Nat) (j : Nat) (mk : List D → List D) (g : PTg) (tst : PTx) (elt : PEx) : POx := fun e Q E => owAt e j fun an ds => noOw e vs ∧
  lcGo (fun e' => e'[j]? = some (.ow true ds)) g tst elt vs (fun acc e2 => Q (.ow false acc) (rst j an (restE (e.set j (.ow true ds)) e2 vs))) (mk ds) [] (wipeE (e.set j (.ow true ds)) vs)
section
variable {X : Cx} {W : WX} {elt tg iter : Expr} {ifs : List Expr} {scope : Scope} {own : List (Str × Nat)} {pos spos : Pos}
/-- what a block's parts must be -/
structure Blk (X : Cx) (scope : Scope) (tg : Expr) (ifs : List Expr) (elt : Expr) (vs sl : List Nat) (g : PTg) (tst : PTx) (pe : PEx) : Prop where
  hg : ∀ (s : Shared) (H : Hp) (C : Addr) (cl : List (Str × Addr)) (fp : List Addr), SGt (X.blk s H scope (compEnvC scope cl C X.env) fp) tg sl g
  ht : ∀ (s : Shared) (H : Hp) (C : Addr) (cl : List (Str × Addr)) (fp : List Addr), SCs (X.blk s H scope (compEnvC scope cl C X.env) fp) W0 ifs tst
  he : ∀ (s : Shared) (H : Hp) (C : Addr) (cl : List (Str × Addr)) (fp : List Addr), SF (X.blk s H scope (compEnvC scope cl C X.env) fp) W0 elt pe
  hs : ∀ i ∈ sl, i ∈ vs
section
variable {K : PySem.W.Frag} {vs sl : List Nat} {g : PTg} {tst : PTx} {pe : PEx}
/-- the walk of a comprehension, from a state at which its items are known -/
theorem lc_walk (mg : ∀ d e (k k' : Env → Prop), (∀ e, k e → k' e) → g d e k → g d e k') (mt : Mono tst) (me : Mono pe) (hs : ∀ i ∈ sl, i ∈ vs) {c : PCx} {F1 H1 : Hp} {σ : L2.St} {e1 : Env} {ds : List D} {J : It} {ok : Env → Prop} {Pr : Hp → Hp → Prop} {Kf : List D → Env → Prop} {Q : VK}
    (S1 : StR K c F1 H1 σ e1) (hn : noOw e1 vs) (it : ItS K Pr J ds)
    (pr : ∀ (Fr' : Hp) F H e, StR K { c with F0 := F1, Fr := Fr' } F H (wipe σ vs) e → ok e → Pr F H)
    (k : lcGo ok g tst pe vs Kf ds [] (wipeE e1 vs)) (hK : ∀ acc e F H Dl vacc, Kf acc e → StR K c F H (wipe σ vs) e → Same F1 F → F Dl = none → c.Fr Dl = none → H Dl = some (.lst vacc) → Rps K F vacc acc → (∀ i, ¬ Owns (wipe σ vs) e i Dl) → Q (.ref Dl) H) :
    ∀ Dl, H1 Dl = none → ∃ Wv : Nat → Nat → Hp → Prop, (∃ m, Wv 0 m (upd H1 Dl (.lst []))) ∧ ∀ i m H, Wv i m H →
      (J.stop i H ∧ Q (.ref Dl) H) ∨ (J.go i H ∧ ∃ Nx : Hp → Prop, (∀ H', Nx H' → ∃ m', m' < m ∧ Wv (i + 1) m' H') ∧ ∀ x H', J.yld i H x H' → tG K sl g x (wipe σ vs) H' fun σ2 H2 => wipe σ2 vs = wipe σ vs ∧ tM K W0 RT tst σ2 H2 fun b H3 =>
        if b = true then tM K W0 (RF K) pe σ2 H3 fun y H4 => ∃ acc, H4 Dl = some (.lst acc) ∧ acc.length < sizeLine ∧ Nx (upd H4 Dl (.lst (acc ++ [y]))) else Nx H3) := by
  intro Dl hD
  have hFD : c.Fr Dl = none := S1.frNone hD
  have S0 : StR K { c with F0 := F1, Fr := upd c.Fr Dl (.lst []) } F1 (upd H1 Dl (.lst [])) (wipe σ vs) (wipeE e1 vs) := by
    have Sw := (S1.here.wipe hn).leak (o := .lst []) hD
    exact Sw.hold (S1.gr.free hD) upd_same ((S1.here.wipe hn).notOwn hD)
  refine ⟨fun i m H => m = ds.length - i ∧ i ≤ ds.length ∧ ∃ F e acc vacc, StR K { c with F0 := F1, Fr := upd c.Fr Dl (.lst vacc) } F H (wipe σ vs) e ∧ Rps K F vacc acc ∧ lcGo ok g tst pe vs Kf (ds.drop i) acc e, ⟨ds.length, rfl, Nat.zero_le _, F1, _, [], [], S0, .nil, k⟩, ?_⟩
  rintro i m H ⟨rfl, hi, F, e, acc, vacc, S, ra, q⟩
  have hok : ok e := by
    cases hd : ds.drop i with
    | nil => rw [hd] at q; exact q.1
    | cons d r => rw [hd] at q; exact q.1
  have hpr := pr _ F H e S hok
  by_cases hlt : i < ds.length
  · refine .inr ⟨it.go i F H hpr hlt, fun H' => ∃ F e acc vacc, StR K { c with F0 := F1, Fr := upd c.Fr Dl (.lst vacc) } F H' (wipe σ vs) e ∧ Rps K F vacc acc ∧ lcGo ok g tst pe vs Kf (ds.drop (i + 1)) acc e, fun H' z => ⟨ds.length - (i + 1), by omega, rfl, hlt, z⟩, fun x H' y => ?_⟩
    obtain ⟨d, F', hd, S', rx⟩ := it.yld _ i F H _ e x H' hpr hlt S y
    have ed : ds.drop i = d :: ds.drop (i + 1) := by
      rw [List.drop_eq_getElem_cons hlt]
      rw [List.getElem?_eq_getElem hlt] at hd
      rw [Option.some.inj hd]
    rw [ed] at q
    refine ⟨_, F', e, d, S', rx, mg _ _ _ _ (fun e2 k2 σ2 S2 b2 => ⟨wipe_sb b2 hs, ?_⟩) q.2⟩
    refine tM.go mt S2 k2 (fun b e3 F3 H3 v3 S3 r3 k3 => ?_) (fun _ _ _ _ _ _ _ _ z => z)
    have r3' : v3 = b := r3
    subst r3'
    have g03 : Same F1 F3 := (S.gr0.trans S'.gr0).trans S3.gr0
    cases v3 with
    | false =>
      refine ⟨F3, wipeE e3 vs, acc, vacc, ?_, ra.mono ((S'.gr0).trans S3.gr0), k3.2⟩
      have Sw := S3.wipe k3.1
      rw [wipe_sb b2 hs] at Sw
      exact ⟨Sw.len, g03, Sw.gr, Sw.fz, Sw.ow, Sw.an, Sw.ce, Sw.hi, Sw.ap, Sw.fr⟩
    | true =>
      refine tM.go me S3 k3 (fun y e4 F4 H4 v4 S4 r4 k4 => ?_) (fun _ _ _ _ _ _ _ _ z => z)
      have r4' : Rp K F4 v4 y := r4
      have g4 : Same F F4 := (S'.gr0.trans S3.gr0).trans S4.gr0
      have ra4 := ra.mono g4
      refine ⟨vacc, (S4.fr Dl _ upd_same).2, by rw [ra4.length]; exact k4.1, F4, wipeE e4 vs, acc ++ [y], vacc ++ [v4], ?_, ra4.append (.cons r4' .nil), k4.2.2⟩
      have Sw := S4.wipe k4.2.1
      rw [wipe_sb b2 hs] at Sw
      have Sw' : StR K { c with F0 := F1, Fr := upd c.Fr Dl (.lst vacc) } F4 H4 (wipe σ vs) (wipeE e4 vs) := ⟨Sw.len, g03.trans S4.gr0, Sw.gr, Sw.fz, Sw.ow, Sw.an, Sw.ce, Sw.hi, Sw.ap, Sw.fr⟩
      exact Sw'.rehold (c := { c with F0 := F1 })
  · have ei : ds.drop i = [] := List.drop_eq_nil_of_le (by omega)
    rw [ei] at q
    obtain ⟨Su, h1, h2, h3⟩ := S.unhold (c := { c with F0 := F1 }) hFD
    exact .inl ⟨it.stop i F H hpr (by omega), hK acc e F H Dl vacc q.2 (Su.back S1.gr0) Su.gr0 h1 hFD h2 ra h3⟩
end
variable {sl : List Nat} {src : PSrc} {g : PTg} {tst : PTx} {pe : PEx}
theorem mono_Lc {vs : List Nat} (ms : Mono src) (B : Blk X scope tg ifs elt vs sl g tst pe) (s : Shared) (H : Hp) : Mono (pLc vs src g tst pe) := fun _ _ _ _ _ h1 h2 k =>
  ms _ _ _ _ _ (fun ds e1 k => ⟨k.1, lcGo_mono (B.hg s H 0 [] []).mono (B.ht s H 0 [] []).mono (B.he s H 0 [] []).mono (fun a e k => h1 _ _ k) _ _ _ k.2⟩) h2 k
theorem lc_run {vs : List Nat} (hi : SSr X W tg iter src) (B : Blk X scope tg ifs elt vs sl g tst pe) {σ : L2.St} {H : Hp} {Q : VK} (h : tM X.K W (RO X.K) (pLc vs src g tst pe) σ H Q) :
    tLc (fun σ H R => tM X.K W (fun c F H σ e (J : It) ds => ∃ Pr, ItS X.K Pr J ds ∧ ∀ F' H', Same F F' → Same F' H' → Pr F' H') src σ H R) (tG X.K sl g) (tM X.K W0 RT tst) (tM X.K W0 (RF X.K) pe) vs σ H Q := by
  obtain ⟨c, F, en, S, k⟩ := h
  unfold tLc
  dsimp only
  refine tM.go hi.mono S k (fun ds e1 F1 H1 J S1 r1 k1 => ?_) (fun x e1 F1 H1 cls d S1 r1 k1 => k1 F1 H1 cls d (S1.back S.gr0) r1)
  obtain ⟨Pr, it, pr⟩ := r1
  have S1' := S1.back S.gr0
  let s0 : Shared := X.s_0
  refine lc_walk (B.hg s0 H 0 [] []).mono (B.ht s0 H 0 [] []).mono (B.he s0 H 0 [] []).mono B.hs S1' k1.1 it (fun _ F H e S _ => pr F H S.gr0 S.gr) k1.2 fun acc e F H Dl vacc kf S g1 h1 h2 h3 h4 h5 => ?_
  have Sr := S1'.restore k1.1 S g1
  refine kf F H _ Sr ⟨Dl, vacc, rfl, h1, h2, h3, h4, fun i o => ?_⟩
  unfold Owns at o
  rw [restE_get (S.restLt S1 k1.1)] at o
  by_cases hm : i ∈ vs
  · rw [if_pos hm] at o
    have := k1.1 i hm
    rcases o with ⟨⟨_, _, k⟩, _⟩ | ⟨_, k⟩ <;> (rw [k] at this; exact this)
  · rw [if_neg hm] at o
    refine h5 i ?_
    unfold Owns
    rw [wipe_get, if_neg fun z => hm z.1]; exact o
theorem so_lc (hc : X.calm = true) (hN : X.N.Nodup) (hi : SSr X W tg iter src) (ok : BlkOk X.N X.env.scope scope own) (B : Blk X scope tg ifs elt (own.map (·.2)) sl g tst pe) (hs : ∀ x, foldedSetIterable iter X.env x = pure x := by intro _; rfl) :
    SO X W (.ListComp elt [⟨tg, iter, ifs, 0⟩] scope pos) (pLc (own.map (·.2)) src g tst pe) :=
  ⟨(pe_lc (g := tG X.K sl g) (tt := tM X.K W0 RT tst) (te := tM X.K W0 (RF X.K) pe) hc hN hi.run ok (fun s H C cl fp => (B.hg s H C cl fp).run) (fun s H C cl fp => (B.ht s H C cl fp).run) (fun s H C cl fp => (B.he s H C cl fp).run) hs).weak fun _ _ _ h => lc_run hi B h, mono_Lc hi.mono B X.s_0 X.H_0⟩
theorem ss_asgLc {i : Nat} {y : Str} {py : Pos} (hc : X.calm = true) (hN : X.N.Nodup) (hy : X.N[i]? = some y) (hyl : X.env.scope.names.lookup y = some .local)
    (hsw : swapsWith (.ListComp elt [⟨tg, iter, ifs, 0⟩] scope pos) (some (.Name y py)) spos.line X.env = pure true) (hi : SSr X W tg iter src) (ok : BlkOk X.N X.env.scope scope own) (B : Blk X scope tg ifs elt (own.map (·.2)) sl g tst pe)
    (hs : ∀ x, foldedSetIterable iter X.env x = pure x := by intro _; rfl) :
    SS X W (.Assign [.Name y py] (.ListComp elt [⟨tg, iter, ifs, 0⟩] scope pos) spos) (pAsg i (pLc (own.map (·.2)) src g tst pe)) := by
  refine ⟨(ps_setLc (g := tG X.K sl g) (tt := tM X.K W0 RT tst) (te := tM X.K W0 (RF X.K) pe) hc hN hy hyl hsw hi.run ok (fun s H C cl fp => (B.hg s H C cl fp).run) (fun s H C cl fp => (B.ht s H C cl fp).run) (fun s H C cl fp => (B.he s H C cl fp).run) hs).weak fun D σ H h => ?_, mono_Asg (mono_Lc hi.mono B X.s_0 X.H_0)⟩
  exact lc_run hi B (asg_run (mono_Lc hi.mono B X.s_0 X.H_0) h)
/-! over an owned list of the frame -/
variable {j : Nat} {mk : List D → List D}
theorem mono_LcV {vs : List Nat} (B : Blk X scope tg ifs elt vs sl g tst pe) (s : Shared) (H : Hp) : Mono (pLcV vs j mk g tst pe) := fun _ _ _ _ _ h1 h2 k =>
  owAt_mono (fun an ds k => ⟨k.1, lcGo_mono (B.hg s H 0 [] []).mono (B.ht s H 0 [] []).mono (B.he s H 0 [] []).mono (fun a e k => h1 _ _ k) _ _ _ k.2⟩) k
theorem lcV_run {vs : List Nat} (hi : SVr X tg iter j mk) (B : Blk X scope tg ifs elt vs sl g tst pe) {σ : L2.St} {H : Hp} {Q : VK} (h : tM X.K W (RO X.K) (pLcV vs j mk g tst pe) σ H Q) :
    tLc (fun σ H R => ∃ a vs, σ[j]? = some (some (.ref a)) ∧ H a = some (.lst vs) ∧ ∀ J, (∀ ds, ItS X.K (PrV X.K a ds) J (mk ds)) → R J H) (tG X.K sl g) (tM X.K W0 RT tst) (tM X.K W0 (RF X.K) pe) vs σ H Q := by
  obtain ⟨c, F, en, S, k⟩ := h
  obtain ⟨an, ds, ej, hn, k⟩ := owAt_get k
  obtain ⟨q, ws, g1, g2, g3, g4, g5⟩ := S.ow j an ds ej
  have SA := S.anchor ej g1
  have ha : ∀ w, c.A j = some w → an = true ∧ w = .ref q := fun w hw => by
    obtain ⟨⟨d, e1⟩, e2⟩ := S.an j w hw
    rw [ej] at e1; cases e1
    rw [g1] at e2
    exact ⟨rfl, (Option.some.inj (Option.some.inj e2)).symm⟩
  have jn : j ∉ vs := fun z => by
    have := hn j z
    rw [ej] at this
    exact this
  have hn' : noOw (en.set j (.ow true ds)) vs := fun i hi => by
    have ne : j ≠ i := fun z => jn (z ▸ hi)
    rw [set_other ne]
    exact hn i hi
  unfold tLc
  dsimp only
  refine ⟨q, ws, g1, g4, fun J it => ?_⟩
  let s0 : Shared := X.s_0
  refine lc_walk (B.hg s0 H 0 [] []).mono (B.ht s0 H 0 [] []).mono (B.he s0 H 0 [] []).mono B.hs SA hn' (it ds) (fun _ F H e S hok => ?_) k fun acc e F H Dl vacc kf S g1 h1 h2 h3 h4 h5 => ?_
  · obtain ⟨q', vs', f1, f2, f3, f4, f5⟩ := S.ow j true ds hok
    obtain ⟨_, e2⟩ := S.an j (.ref q) (by show (if j = j then some (V.ref q) else c.A j) = _; rw [if_pos rfl])
    rw [f1] at e2; cases e2
    exact ⟨vs', f4, f5⟩
  · have Sr := SA.restore hn' S g1
    refine kf F H _ (Sr.unanchor ha) ⟨Dl, vacc, rfl, h1, h2, h3, h4, fun i o => ?_⟩
    have hl := S.restLt SA hn'
    have o' : Owns σ (restE (en.set j (.ow true ds)) e vs) i Dl := by
      unfold Owns at o ⊢
      rw [rst_get] at o
      by_cases hij : i = j
      · subst hij
        rw [if_pos rfl] at o
        cases er : (restE (en.set i (.ow true ds)) e vs)[i]? with
        | none => rw [er] at o; rcases o with ⟨⟨_, _, k⟩, _⟩ | ⟨_, k⟩ <;> cases k
        | some o' =>
          rw [er] at o
          cases o' with
          | un => exact o
          | fz d => exact o
          | ce a d => exact o
          | ow a d =>
            rcases o with ⟨_, k2⟩ | ⟨_, k⟩
            · exact .inl ⟨⟨a, d, rfl⟩, k2⟩
            · cases k
      · rw [if_neg hij] at o; exact o
    unfold Owns at o'
    rw [restE_get hl] at o'
    by_cases hm : i ∈ vs
    · rw [if_pos hm] at o'
      have := hn' i hm
      rcases o' with ⟨⟨_, _, k⟩, _⟩ | ⟨_, k⟩ <;> (rw [k] at this; exact this)
    · rw [if_neg hm] at o'
      refine h5 i ?_
      unfold Owns
      rw [wipe_get, if_neg fun z => hm z.1]; exact o'
theorem so_lcV (hc : X.calm = true) (hN : X.N.Nodup) (hi : SVr X tg iter j mk) (ok : BlkOk X.N X.env.scope scope own) (B : Blk X scope tg ifs elt (own.map (·.2)) sl g tst pe) (hs : ∀ x, foldedSetIterable iter X.env x = pure x := by intro _; rfl) :
    SO X W (.ListComp elt [⟨tg, iter, ifs, 0⟩] scope pos) (pLcV (own.map (·.2)) j mk g tst pe) :=
  ⟨(pe_lc (g := tG X.K sl g) (tt := tM X.K W0 RT tst) (te := tM X.K W0 (RF X.K) pe) hc hN hi.run ok (fun s H C cl fp => (B.hg s H C cl fp).run) (fun s H C cl fp => (B.ht s H C cl fp).run) (fun s H C cl fp => (B.he s H C cl fp).run) hs).weak fun _ _ _ h => lcV_run hi B h, mono_LcV B X.s_0 X.H_0⟩
theorem ss_asgLcV {i : Nat} {y : Str} {py : Pos} (hc : X.calm = true) (hN : X.N.Nodup) (hy : X.N[i]? = some y) (hyl : X.env.scope.names.lookup y = some .local)
    (hsw : swapsWith (.ListComp elt [⟨tg, iter, ifs, 0⟩] scope pos) (some (.Name y py)) spos.line X.env = pure true) (hi : SVr X tg iter j mk) (ok : BlkOk X.N X.env.scope scope own) (B : Blk X scope tg ifs elt (own.map (·.2)) sl g tst pe)
    (hs : ∀ x, foldedSetIterable iter X.env x = pure x := by intro _; rfl) :
    SS X W (.Assign [.Name y py] (.ListComp elt [⟨tg, iter, ifs, 0⟩] scope pos) spos) (pAsg i (pLcV (own.map (·.2)) j mk g tst pe)) := by
  refine ⟨(ps_setLc (g := tG X.K sl g) (tt := tM X.K W0 RT tst) (te := tM X.K W0 (RF X.K) pe) hc hN hy hyl hsw hi.run ok (fun s H C cl fp => (B.hg s H C cl fp).run) (fun s H C cl fp => (B.ht s H C cl fp).run) (fun s H C cl fp => (B.he s H C cl fp).run) hs).weak fun D σ H h => ?_, mono_Asg (mono_LcV B X.s_0 X.H_0)⟩
  exact lcV_run hi B (asg_run (mono_LcV B X.s_0 X.H_0) h)
end
end PW
set_option Elab.async false
set_option linter.all false
set_option maxRecDepth 100000
set_option maxHeartbeats 4000000
namespace PW
open PySem PySem.Spec PyProof.Rows L2

/-! ### defs: what they promise, over data -/
abbrev PSp := List O → (O → List O → Prop) → (Er → List O → Prop) → Prop
/-- the promise as the hand layer wants it -/
def spM (K : PySem.W.Frag) (psp : PSp) : Sp := fun vs H Q E => ∃ (c : PCx) (F : Hp) (args : List O), args.length = vs.length ∧ StR K c F H (vs.map some) args ∧ (∀ (i : Nat) (ds : List D), args[i]? = some (.ow true ds) → c.A i = vs[i]?) ∧ (∀ (i : Nat) (ds : List D), args[i]? ≠ some (.ow false ds)) ∧
  psp args (fun r outs => ∀ F' H' v, StR K c F' H' (vs.map some) outs → OvR K c F' H' (vs.map some) outs v r → Q v H') (fun x outs => ∀ F' H' cls d, StR K c F' H' (vs.map some) outs → ErR K c.Fr F' H' cls d x → E cls d H')
structure MonoP (psp : PSp) : Prop where
  mono : ∀ args Q Q' E E', (∀ r o, Q r o → Q' r o) → (∀ x o, E x o → E' x o) → psp args Q E → psp args Q' E'
/-- a promise by what is asked, what is given back, what is raised -/
def mkSp {α : Type} (pre : α → List O → Prop) (post : α → O → List O → Prop) (exc : α → Er → List O → Prop) : PSp := fun args Q E => ∃ a, pre a args ∧ (∀ r o, post a r o → Q r o) ∧ ∀ x o, exc a x o → E x o
theorem mkSp_mono {α : Type} {pre : α → List O → Prop} {post : α → O → List O → Prop} {exc : α → Er → List O → Prop} : MonoP (mkSp pre post exc) :=
  ⟨fun _ _ _ _ _ hq he ⟨a, h, q, x⟩ => ⟨a, h, fun r o k => hq _ _ (q r o k), fun r o k => he _ _ (x r o k)⟩⟩

/-! ### arguments -/
def argO (e : Env) : Arg → Option O
  | .inl d => some (.fz d)
  | .inr j => match e[j]? with
    | some (.fz d) => some (.fz d)
    | some (.ow _ ds) => some (.ow true ds)
    | _ => none
def argsOf (e : Env) : List Arg → Option (List O)
  | [] => some []
  | a :: as => match argO e a, argsOf e as with
    | some o, some os => some (o :: os)
    | _, _ => none
def refIx : List Arg → List Nat
  | [] => []
  | .inl _ :: as => refIx as
  | .inr j :: as => j :: refIx as
/-- the owned arguments are given back -/
def wb1 (j : Nat) (o : O) (e : Env) : Env := match e[j]?, o with
  | some (.ow an _), .ow _ ds => e.set j (.ow an ds)
  | _, _ => e
def wb : List Arg → List O → Env → Env
  | .inr j :: as, o :: os, e => wb as os (wb1 j o e)
  | .inl _ :: as, _ :: os, e => wb as os e
  | _, _, e => e
theorem argsOf_get {e : Env} : ∀ {as : List Arg} {os : List O} {i : Nat} {a : Arg}, argsOf e as = some os → as[i]? = some a → ∃ o, os[i]? = some o ∧ argO e a = some o
  | [], _, _, _, _, h => by simp at h
  | b :: as, os, i, a, h, h2 => by
    unfold argsOf at h
    cases e1 : argO e b with
    | none => rw [e1] at h; cases h
    | some o =>
      cases e2 : argsOf e as with
      | none => rw [e1, e2] at h; cases h
      | some os' =>
        rw [e1, e2] at h; cases h
        cases i with
        | zero => simp at h2; subst h2; exact ⟨o, rfl, e1⟩
        | succ i => exact argsOf_get (i := i) e2 (by simpa using h2)
theorem argsOf_length {e : Env} : ∀ {as : List Arg} {os : List O}, argsOf e as = some os → os.length = as.length
  | [], _, h => by cases h; rfl
  | b :: as, os, h => by
    unfold argsOf at h
    cases e1 : argO e b with
    | none => rw [e1] at h; cases h
    | some o =>
      cases e2 : argsOf e as with
      | none => rw [e1, e2] at h; cases h
      | some os' => rw [e1, e2] at h; cases h; rw [List.length_cons, List.length_cons, argsOf_length e2]
theorem mem_refIx : ∀ {as : List Arg} {i j : Nat}, as[i]? = some (.inr j) → j ∈ refIx as
  | [], _, _, h => by simp at h
  | .inl d :: as, 0, j, h => by simp at h
  | .inl d :: as, i + 1, j, h => mem_refIx (as := as) (i := i) (by simpa using h)
  | .inr k :: as, 0, j, h => by simp at h; subst h; exact List.mem_cons_self
  | .inr k :: as, i + 1, j, h => List.mem_cons_of_mem _ (mem_refIx (as := as) (i := i) (by simpa using h))
theorem ref_inj : ∀ {as : List Arg} {i i' j : Nat}, (refIx as).Nodup → as[i]? = some (.inr j) → as[i']? = some (.inr j) → i = i'
  | [], _, _, _, _, h, _ => by simp at h
  | .inl d :: as, 0, _, j, _, h, _ => by simp at h
  | .inl d :: as, _ + 1, 0, j, _, _, h => by simp at h
  | .inl d :: as, i + 1, i' + 1, j, hn, h, h' => by rw [ref_inj (as := as) (i := i) (i' := i') hn (by simpa using h) (by simpa using h')]
  | .inr k :: as, 0, 0, j, hn, h, h' => rfl
  | .inr k :: as, 0, i' + 1, j, hn, h, h' => by
    simp at h; subst h
    exact absurd (mem_refIx (as := as) (i := i') (by simpa using h')) (List.nodup_cons.mp hn).1
  | .inr k :: as, i + 1, 0, j, hn, h, h' => by
    simp at h'; subst h'
    exact absurd (mem_refIx (as := as) (i := i) (by simpa using h)) (List.nodup_cons.mp hn).1
  | .inr k :: as, i + 1, i' + 1, j, hn, h, h' => by rw [ref_inj (as := as) (i := i) (i' := i') (List.nodup_cons.mp hn).2 (by simpa using h) (by simpa using h')]
theorem refIx_get : ∀ {as : List Arg} {j : Nat}, j ∈ refIx as → ∃ i : Nat, as[i]? = some (Sum.inr j : Arg)
  | [], j, h => by cases h
  | .inl d :: as, j, h => by
    obtain ⟨i, h⟩ := refIx_get (as := as) h
    exact ⟨i + 1, by simpa using h⟩
  | .inr k :: as, j, h => by
    rcases List.mem_cons.mp h with z | z
    · exact ⟨0, by rw [z]; rfl⟩
    · obtain ⟨i, h⟩ := refIx_get (as := as) z
      exact ⟨i + 1, by simpa using h⟩
theorem wb1_length {j : Nat} {o : O} {e : Env} : (wb1 j o e).length = e.length := by
  unfold wb1
  split <;> simp
theorem wb_length : ∀ {as : List Arg} {os : List O} {e : Env}, (wb as os e).length = e.length
  | .inr j :: as, o :: os, e => by unfold wb; rw [wb_length, wb1_length]
  | .inl _ :: as, _ :: os, e => by unfold wb; rw [wb_length]
  | [], _, e => by unfold wb; rfl
  | .inr j :: as, [], e => by unfold wb; rfl
  | .inl j :: as, [], e => by unfold wb; rfl
theorem wb1_other {j k : Nat} {o : O} {e : Env} (h : j ≠ k) : (wb1 j o e)[k]? = e[k]? := by
  unfold wb1
  split
  · exact set_other h
  · rfl
theorem wb_other : ∀ {as : List Arg} {os : List O} {e : Env} {k : Nat}, k ∉ refIx as → (wb as os e)[k]? = e[k]?
  | .inr j :: as, o :: os, e, k, h => by
    unfold wb
    rw [wb_other fun z => h (List.mem_cons_of_mem _ z), wb1_other fun z => h (by rw [z]; exact List.mem_cons_self)]
  | .inl _ :: as, _ :: os, e, k, h => by
    unfold wb
    exact wb_other (as := as) h
  | [], _, e, k, h => by unfold wb; rfl
  | .inr j :: as, [], e, k, h => by unfold wb; rfl
  | .inl j :: as, [], e, k, h => by unfold wb; rfl
theorem wb1_congr {j : Nat} {o : O} {e e' : Env} (h : e[j]? = e'[j]?) : (wb1 j o e)[j]? = (wb1 j o e')[j]? := by
  have f : ∀ x : Env, (wb1 j o x)[j]? = match x[j]?, o with
      | some (.ow an _), .ow _ ds => some (.ow an ds)
      | y, _ => y := fun x => by
    unfold wb1
    cases ex : x[j]? with
    | none => exact ex
    | some ox =>
      cases ox with
      | un => exact ex
      | ce _ _ => exact ex
      | fz d => exact ex
      | ow an ds =>
        cases o with
        | un => exact ex
        | fz d => exact ex
        | ce _ _ => exact ex
        | ow a2 d2 => exact set_self ex
  rw [f, f, h]
/-- an owned slot, given back -/
theorem wb_get : ∀ {as : List Arg} {os : List O} {e : Env} {i j : Nat} {o : O}, (refIx as).Nodup → as[i]? = some (.inr j) → os[i]? = some o → (wb as os e)[j]? = (wb1 j o e)[j]?
  | [], _, _, _, _, _, _, h, _ => by simp at h
  | a :: as, [], _, _, _, _, _, _, h => by simp at h
  | .inl d :: as, o :: os, e, 0, j, _, _, h, _ => by simp at h
  | .inl d :: as, o :: os, e, i + 1, j, _, hn, h, h' => by
    unfold wb
    exact wb_get (as := as) (i := i) hn (by simpa using h) (by simpa using h')
  | .inr k :: as, o :: os, e, 0, j, o', hn, h, h' => by
    simp at h h'
    subst h h'
    unfold wb
    exact wb_other (List.nodup_cons.mp hn).1
  | .inr k :: as, o :: os, e, i + 1, j, o', hn, h, h' => by
    have hm := mem_refIx (as := as) (i := i) (j := j) (by simpa using h)
    have ne : k ≠ j := fun z => (List.nodup_cons.mp hn).1 (z ▸ hm)
    unfold wb
    rw [wb_get (as := as) (i := i) (List.nodup_cons.mp hn).2 (by simpa using h) (by simpa using h')]
    exact wb1_congr (wb1_other ne)
/-- behind a call: the owned arguments given back, the new cells -/
def wbC (n : Nat) (as : List Arg) (outs : List O) (e : Env) : Env := wb as outs e ++ outs.drop n
section
variable {K : PySem.W.Frag} {c : PCx} {F H : Hp} {σ : L2.St} {e : Env}
open Classical in
/-- what the callee's frame leaves alone: the callers' objects, and the owned ones of the caller that are not passed -/
noncomputable def frC (c : PCx) (H : Hp) (σ : L2.St) (e : Env) (as : List Arg) : Hp := fun b => if ∃ j, Owns σ e j b ∧ j ∉ refIx as then H b else c.Fr b
def anC (vs : List V) (args : List O) : Nat → Option V := fun i => match args[i]? with
  | some (.ow true _) => vs[i]?
  | _ => none
theorem argO_fz {e : Env} {a : Arg} {d : D} (h : argO e a = some (.fz d)) : (a = .inl d) ∨ ∃ j, a = .inr j ∧ e[j]? = some (.fz d) := by
  cases a with
  | inl x => cases h; exact .inl rfl
  | inr j =>
    refine .inr ⟨j, rfl, ?_⟩
    unfold argO at h
    dsimp only at h
    cases ej : e[j]? with
    | none => rw [ej] at h; cases h
    | some o =>
      rw [ej] at h
      cases o with
      | fz x => cases h; rfl
      | _ => cases h
theorem argO_ow {e : Env} {a : Arg} {b : Bool} {ds : List D} (h : argO e a = some (.ow b ds)) : b = true ∧ ∃ j an, a = .inr j ∧ e[j]? = some (.ow an ds) := by
  cases a with
  | inl x => cases h
  | inr j =>
    unfold argO at h
    dsimp only at h
    cases ej : e[j]? with
    | none => rw [ej] at h; cases h
    | some o =>
      rw [ej] at h
      cases o with
      | ow a b' => cases h; exact ⟨rfl, j, a, rfl, ej⟩
      | _ => cases h
theorem argO_ce {e : Env} {a : Arg} {b : Addr} {ds : List D} (h : argO e a = some (.ce b ds)) : False := by
  cases a with
  | inl x => cases h
  | inr j =>
    unfold argO at h
    dsimp only at h
    cases ej : e[j]? with
    | none => rw [ej] at h; cases h
    | some o => rw [ej] at h; cases o <;> cases h
/-- THE CALL, by data -/
theorem call_in (S : StR K c F H σ e) {vs dvs : List V} {as : List Arg} {dds : List D} {args : List O} (ra : ArgsR K F σ vs as) (rd : Rps K F dvs dds) (ha : argsOf e as = some args) (hn : (refIx as).Nodup) :
    StR K { A := anC (vs ++ dvs) (args ++ dds.map O.fz), F0 := F, Fr := frC c H σ e as, n := (vs ++ dvs).length } F H ((vs ++ dvs).map some) (args ++ dds.map O.fz) := by
  have hl : args.length = vs.length := by rw [argsOf_length ha, ra.length]
  have hlen : ((vs ++ dvs).map some).length = (args ++ dds.map O.fz).length := by rw [List.length_map, List.length_append, List.length_append, List.length_map, hl, rd.length]
  have frN : ∀ {j : Nat} {p : Addr} {an : Bool} {ds : List D}, e[j]? = some (.ow an ds) → σ[j]? = some (some (.ref p)) → j ∈ refIx as → frC c H σ e as p = none := fun {j p an ds} ej sj hj => by
    obtain ⟨p', vs', k1, k2, k3, k4, k5⟩ := S.ow j an ds ej
    rw [sj] at k1; cases k1
    unfold frC
    rw [if_neg fun ⟨j', o', hj'⟩ => hj' (S.ap j j' p (.inl ⟨⟨an, ds, ej⟩, sj⟩) o' ▸ hj)]
    exact k3
  have split : ∀ {i : Nat} {o : O}, (args ++ dds.map O.fz)[i]? = some o → (∃ a v, as[i]? = some a ∧ vs[i]? = some v ∧ args[i]? = some o ∧ argO e a = some o ∧ ArgR K F σ v a ∧ (vs ++ dvs)[i]? = some v) ∨ (∃ d v, o = .fz d ∧ (vs ++ dvs)[i]? = some v ∧ Rp K F v d ∧ vs.length ≤ i) := fun {i o} h => by
    by_cases hi : i < args.length
    · rw [List.getElem?_append_left hi] at h
      have hia : i < as.length := by rw [← argsOf_length ha]; exact hi
      obtain ⟨o', h1, h2⟩ := argsOf_get ha (List.getElem?_eq_getElem hia)
      rw [h] at h1; cases h1
      obtain ⟨v, h3, h4⟩ := ra.get (List.getElem?_eq_getElem hia)
      exact .inl ⟨_, v, List.getElem?_eq_getElem hia, h3, h, h2, h4, by rw [List.getElem?_append_left (by omega)]; exact h3⟩
    · rw [List.getElem?_append_right (by omega), List.getElem?_map] at h
      cases ed : dds[i - args.length]? with
      | none => rw [ed] at h; cases h
      | some d =>
        rw [ed] at h; cases h
        obtain ⟨v, h1, h2⟩ := rd.get' ed
        exact .inr ⟨d, v, rfl, by rw [List.getElem?_append_right (by omega), ← hl]; exact h1, h2, by omega⟩
  have smap : ∀ {i : Nat} {v : V}, (vs ++ dvs)[i]? = some v → ((vs ++ dvs).map some)[i]? = some (some v) := fun {i v} h => by rw [List.getElem?_map, h]; rfl
  have noce : ∀ {i : Nat} {a : Addr} {ds : List D}, (args ++ dds.map O.fz)[i]? ≠ some (.ce a ds) := fun {i a ds} k => by
    rcases split k with ⟨a', v, h1, h2, h3, h4, h5, h6⟩ | ⟨d', v, h1, _⟩
    · exact argO_ce h4
    · cases h1
  have ows : ∀ {i : Nat} {p : Addr}, Owns ((vs ++ dvs).map some) (args ++ dds.map O.fz) i p → ∃ j, as[i]? = some (.inr j) ∧ Owns σ e j p := fun {i p} o => by
    rcases o with ⟨⟨an, ds, k⟩, k2⟩ | ⟨ds, k⟩
    · rcases split k with ⟨a, v, h1, h2, h3, h4, h5, h6⟩ | ⟨d, v, h1, _⟩
      · obtain ⟨_, j, an', rfl, ej⟩ := argO_ow h4
        rw [smap h6] at k2
        have h5' : σ[j]? = some (some v) := h5
        cases (Option.some.inj (Option.some.inj k2))
        exact ⟨j, h1, .inl ⟨⟨an', ds, ej⟩, h5'⟩⟩
      · cases h1
    · exact (noce k).elim
  refine ⟨⟨List.length_map .., Nat.le_of_eq hlen⟩, Same.refl F, S.gr, fun i d k => ?_, fun i an ds k => ?_, fun i v k => ?_, fun i a ds k => (noce k).elim, fun i o k h => ?_, fun i i' p o1 o2 => ?_, fun b o k => ?_⟩
  · rcases split k with ⟨a, v, h1, h2, h3, h4, h5, h6⟩ | ⟨d', v, h1, h2, h3, _⟩
    · refine ⟨v, smap h6, ?_⟩
      rcases argO_fz h4 with rfl | ⟨j, rfl, ej⟩
      · exact h5
      · obtain ⟨v', k1, k2⟩ := S.fz j d ej
        have h5' : σ[j]? = some (some v) := h5
        rw [h5'] at k1; cases k1
        exact k2
    · cases h1
      exact ⟨v, smap h2, h3⟩
  · rcases split k with ⟨a, v, h1, h2, h3, h4, h5, h6⟩ | ⟨d', v, h1, _⟩
    · obtain ⟨_, j, an', rfl, ej⟩ := argO_ow h4
      obtain ⟨p, ws, k1, k2, k3, k4, k5⟩ := S.ow j an' ds ej
      have h5' : σ[j]? = some (some v) := h5
      rw [h5'] at k1; cases k1
      exact ⟨p, ws, smap h6, k2, frN ej h5' (mem_refIx h1), k4, k5⟩
    · cases h1
  · have k' : anC (vs ++ dvs) (args ++ dds.map O.fz) i = some v := k
    unfold anC at k'
    cases ek : (args ++ dds.map O.fz)[i]? with
    | none => rw [ek] at k'; cases k'
    | some o =>
      rw [ek] at k'
      cases o with
      | ow b ds =>
        cases b with
        | false => cases k'
        | true => exact ⟨⟨ds, rfl⟩, smap k'⟩
      | _ => cases k'
  · have := (List.getElem?_eq_some_iff.mp k).1
    rw [hlen] at h
    omega
  · obtain ⟨j, h1, h2⟩ := ows o1
    obtain ⟨j', h3, h4⟩ := ows o2
    have := S.ap j j' p h2 h4
    subst this
    exact ref_inj hn h1 h3
  · have k' : frC c H σ e as b = some o := k
    unfold frC at k'
    split at k'
    · rename_i hex
      obtain ⟨j, oj, _⟩ := hex
      obtain ⟨k1, k2, ws, ds, k4, k5⟩ := S.owns oj
      exact ⟨k1, k'⟩
    · exact S.fr b o k'
theorem StR.addCe (S : StR K c F H σ e) {cs : List O} (h : ∀ (i : Nat) (o : O), cs[i]? = some o → ∃ (a : Addr) (ds : List D), o = .ce a ds ∧ F a = none ∧ c.Fr a = none ∧ (∃ vs, H a = some (.lst vs) ∧ Rps K F vs ds) ∧ (∀ j, ¬ Owns σ e j a)) (hd : ∀ (i j : Nat) (a : Addr) (ds ds' : List D), cs[i]? = some (.ce a ds) → cs[j]? = some (.ce a ds') → i = j) : StR K c F H σ (e ++ cs) := by
  have split : ∀ {i : Nat} {o : O}, (e ++ cs)[i]? = some o → e[i]? = some o ∨ (e.length ≤ i ∧ ∃ a ds, cs[i - e.length]? = some o ∧ o = .ce a ds) := fun {i o} k => by
    by_cases hi : i < e.length
    · rw [List.getElem?_append_left hi] at k; exact .inl k
    · rw [List.getElem?_append_right (by omega)] at k
      obtain ⟨a, ds, e1, _⟩ := h _ _ k
      exact .inr ⟨by omega, a, ds, k, e1⟩
  have own : ∀ {i : Nat} {p : Addr}, Owns σ (e ++ cs) i p → Owns σ e i p ∨ (e.length ≤ i ∧ ∃ ds, cs[i - e.length]? = some (.ce p ds)) := fun {i p} o => by
    rcases o with ⟨⟨an, ds, k⟩, k2⟩ | ⟨ds, k⟩
    · rcases split k with k | ⟨_, a, es, _, k⟩
      · exact .inl (.inl ⟨⟨an, ds, k⟩, k2⟩)
      · cases k
    · rcases split k with k | ⟨hi, a, es, k1, k⟩
      · exact .inl (.inr ⟨ds, k⟩)
      · exact .inr ⟨hi, ds, k1⟩
  refine ⟨⟨S.len.1, by rw [List.length_append]; have := S.len.2; omega⟩, S.gr0, S.gr, fun i d k => ?_, fun i an ds k => ?_, fun i v k => ?_, fun i a ds k => ?_, fun i o k hi => ?_, fun i j p o1 o2 => ?_, S.fr⟩
  · rcases split k with k | ⟨_, a, es, _, k⟩
    · exact S.fz i d k
    · cases k
  · rcases split k with k | ⟨_, a, es, _, k⟩
    · exact S.ow i an ds k
    · cases k
  · obtain ⟨⟨ds, e1⟩, e2⟩ := S.an i v k
    exact ⟨⟨ds, by rw [List.getElem?_append_left (List.getElem?_eq_some_iff.mp e1).1]; exact e1⟩, e2⟩
  · rcases split k with k | ⟨hi, a', es, k1, k⟩
    · exact S.ce i a ds k
    · cases k
      obtain ⟨a2, d2, e1, h1, h2, h3, _⟩ := h _ _ k1
      cases e1
      exact ⟨Nat.le_trans S.len.2 hi, h1, h2, h3⟩
  · rcases split k with k | ⟨_, a', es, k1, k⟩
    · exact S.hi i o k hi
    · exact ⟨a', es, k⟩
  · rcases own o1 with o1 | ⟨h1, ds, k1⟩
    · rcases own o2 with o2 | ⟨h2, ds2, k2⟩
      · exact S.ap i j p o1 o2
      · obtain ⟨a2, d2, e1, _, _, _, h5⟩ := h _ _ k2
        cases e1
        exact (h5 i o1).elim
    · rcases own o2 with o2 | ⟨h2, ds2, k2⟩
      · obtain ⟨a2, d2, e1, _, _, _, h5⟩ := h _ _ k1
        cases e1
        exact (h5 j o2).elim
      · have := hd _ _ _ _ _ k1 k2
        omega
theorem call_out (S : StR K c F H σ e) {vs dvs : List V} {as : List Arg} {dds : List D} {args outs : List O} {F' H' : Hp} (ra : ArgsR K F σ vs as) (rd : Rps K F dvs dds) (ha : argsOf e as = some args) (hn : (refIx as).Nodup)
    (S' : StR K { A := anC (vs ++ dvs) (args ++ dds.map O.fz), F0 := F, Fr := frC c H σ e as, n := (vs ++ dvs).length } F' H' ((vs ++ dvs).map some) outs) :
    (∀ p, frC c H σ e as p = none → c.Fr p = none) ∧ StR K c F' H' σ (wb as outs e) ∧ StR K c F' H' σ (wbC (vs ++ dvs).length as outs e) ∧ ∀ v r, OvR K { A := anC (vs ++ dvs) (args ++ dds.map O.fz), F0 := F, Fr := frC c H σ e as, n := (vs ++ dvs).length } F' H' ((vs ++ dvs).map some) outs v r → OvR K c F' H' σ (wbC (vs ++ dvs).length as outs e) v r := by
  have hl : args.length = vs.length := by rw [argsOf_length ha, ra.length]
  have g : Same F F' := S'.gr0
  -- a passed owned slot
  have passed : ∀ {i j : Nat} {an : Bool} {ds : List D}, as[i]? = some (.inr j) → e[j]? = some (.ow an ds) → ∃ p es ws, σ[j]? = some (some (.ref p)) ∧ outs[i]? = some (.ow true es) ∧ F' p = none ∧ frC c H σ e as p = none ∧ H' p = some (.lst ws) ∧ Rps K F' ws es ∧ (wb as outs e)[j]? = some (.ow an es) ∧ ((vs ++ dvs).map some)[i]? = some (some (.ref p)) := fun {i j an ds} hi ej => by
    obtain ⟨o, h1, h2⟩ := argsOf_get ha hi
    have h2' : o = .ow true ds := by
      unfold argO at h2
      dsimp only at h2
      rw [ej] at h2
      exact (Option.some.inj h2).symm
    subst h2'
    obtain ⟨v, h3, h4⟩ := ra.get hi
    have h4' : σ[j]? = some (some v) := h4
    have hv : (vs ++ dvs)[i]? = some v := by
      rw [List.getElem?_append_left (List.getElem?_eq_some_iff.mp h3).1]; exact h3
    have hA : anC (vs ++ dvs) (args ++ dds.map O.fz) i = some v := by
      unfold anC
      rw [List.getElem?_append_left (List.getElem?_eq_some_iff.mp h1).1, h1]
      exact hv
    obtain ⟨⟨es, h5⟩, h6⟩ := S'.an i v hA
    obtain ⟨p, ws, k1, k2, k3, k4, k5⟩ := S'.ow i true es h5
    rw [h6] at k1; cases k1
    refine ⟨p, es, ws, h4', h5, k2, k3, k4, k5, ?_, h6⟩
    rw [wb_get hn hi h5]
    unfold wb1
    rw [ej]
    exact set_self ej
  have notp : ∀ {j : Nat} {p : Addr}, Owns σ e j p → j ∉ refIx as → frC c H σ e as p = H p := fun {j p} oj hj => by
    unfold frC
    rw [if_pos ⟨j, oj, hj⟩]
  have refs : ∀ {j : Nat}, j ∈ refIx as → ∃ i : Nat, as[i]? = some (Sum.inr j) := fun hj => refIx_get hj
  have refLt : ∀ {j : Nat}, j ∈ refIx as → j < σ.length := fun {j} hj => by
    obtain ⟨i, hi⟩ := refs hj
    obtain ⟨v, _, h4⟩ := ra.get hi
    have h4' : σ[j]? = some (some v) := h4
    exact (List.getElem?_eq_some_iff.mp h4').1
  -- what a slot is behind the call
  have back : ∀ {j : Nat} {o : O}, (wb as outs e)[j]? = some o → (o.isOw = false ∧ e[j]? = some o) ∨ ∃ an ds es, e[j]? = some (.ow an ds) ∧ o = .ow an es := fun {j o} h => by
    by_cases hj : j ∈ refIx as
    · obtain ⟨i, hi⟩ := refs hj
      cases ej : e[j]? with
      | none =>
        have : (wb as outs e).length ≤ j := by rw [wb_length]; exact List.getElem?_eq_none_iff.mp ej
        rw [List.getElem?_eq_none this] at h; cases h
      | some old =>
        cases old with
        | ow an ds =>
          obtain ⟨p, es, ws, _, _, _, _, _, _, h2, _⟩ := passed hi ej
          rw [h] at h2; cases h2
          exact .inr ⟨an, ds, es, rfl, rfl⟩
        | un =>
          obtain ⟨a', h1, h2⟩ := argsOf_get ha hi
          unfold argO at h2
          dsimp only at h2
          rw [ej] at h2; cases h2
        | ce a ds =>
          obtain ⟨a', h1, h2⟩ := argsOf_get ha hi
          unfold argO at h2
          dsimp only at h2
          rw [ej] at h2; cases h2
        | fz d =>
          have : (wb as outs e)[j]? = e[j]? := by
            cases eo : outs[i]? with
            | none =>
              have hlo := S'.len.2
              rw [List.length_map, List.length_append] at hlo
              have hi' := (List.getElem?_eq_some_iff.mp hi).1
              have h3 := List.getElem?_eq_none_iff.mp eo
              have h4 := argsOf_length ha
              omega
            | some oo =>
              rw [wb_get hn hi eo]
              unfold wb1
              rw [ej]
              cases oo <;> exact ej
          rw [this, ej] at h; cases h
          exact .inl ⟨rfl, rfl⟩
    · rw [wb_other hj] at h
      cases o with
      | un => exact .inl ⟨rfl, h⟩
      | fz d => exact .inl ⟨rfl, h⟩
      | ce a ds => exact .inl ⟨rfl, h⟩
      | ow an ds => exact .inr ⟨an, ds, ds, h, rfl⟩
  have own : ∀ {j : Nat} {p : Addr}, Owns σ (wb as outs e) j p → Owns σ e j p := fun {j p} o => by
    rcases o with ⟨⟨an, ds, k⟩, k2⟩ | ⟨ds, k⟩
    · rcases back k with ⟨h, _⟩ | ⟨an', ds', es, h1, _⟩
      · cases h
      · exact .inl ⟨⟨an', ds', h1⟩, k2⟩
    · rcases back k with ⟨_, h⟩ | ⟨an', ds', es, h1, h2⟩
      · exact .inr ⟨ds, h⟩
      · cases h2
  have frn : ∀ {p : Addr}, frC c H σ e as p = none → c.Fr p = none := fun {p} h => by
    unfold frC at h
    split at h
    · rename_i hex
      obtain ⟨j, oj, _⟩ := hex
      exact (S.owns oj).2.1
    · exact h
  -- what the callee owns anew is nobody's here
  have anew : ∀ {p : Addr}, frC c H σ e as p = none → (∀ i, i < (vs ++ dvs).length → ¬ Owns ((vs ++ dvs).map some) outs i p) → ∀ j, ¬ Owns σ e j p := fun {p} h3 h6 j o => by
    by_cases hj : j ∈ refIx as
    · obtain ⟨i, hi⟩ := refs hj
      rcases o with ⟨⟨an', ds', ej⟩, sj⟩ | ⟨ds', ej⟩
      · obtain ⟨p', es, ws', s1, s2, s3, s4, s5, s6, s7, s8⟩ := passed hi ej
        rw [sj] at s1; cases s1
        have hi' := (List.getElem?_eq_some_iff.mp hi).1
        exact h6 i (by rw [List.length_append, ra.length]; omega) (.inl ⟨⟨true, es, s2⟩, s8⟩)
      · have := refLt hj
        have := (S.ce j p ds' ej).1
        omega
    · have f1 := notp o hj
      rw [h3] at f1
      obtain ⟨_, _, ws, ds, k4, _⟩ := S.owns o
      rw [k4] at f1; cases f1
  have S1 : StR K c F' H' σ (wb as outs e) := by
    refine ⟨⟨S.len.1, by rw [wb_length]; exact S.len.2⟩, S.gr0.trans g, S'.gr, fun j d k => ?_, fun j an ds k => ?_, fun j v k => ?_, fun j a ds k => ?_, fun j o k h => ?_, fun i j p o1 o2 => S.ap i j p (own o1) (own o2), fun b o k => ?_⟩
    · rcases back k with ⟨_, h⟩ | ⟨an', ds', es, h1, h2⟩
      · obtain ⟨v, k1, k2⟩ := S.fz j d h
        exact ⟨v, k1, k2.mono g⟩
      · cases h2
    · rcases back k with ⟨h, _⟩ | ⟨an', ds', es, h1, h2⟩
      · cases h
      · cases h2
        by_cases hj : j ∈ refIx as
        · obtain ⟨i, hi⟩ := refs hj
          obtain ⟨p, es, ws, s1, s2, s3, s4, s5, s6, s7, _⟩ := passed hi h1
          rw [k] at s7; cases s7
          exact ⟨p, ws, s1, s3, frn s4, s5, s6⟩
        · rw [wb_other hj] at k
          obtain ⟨p, ws, k1, k2, k3, k4, k5⟩ := S.ow j an ds k
          have f1 := notp (.inl ⟨⟨an, ds, k⟩, k1⟩) hj
          rw [k4] at f1
          obtain ⟨f2, f3⟩ := S'.fr p _ f1
          exact ⟨p, ws, k1, f2, k3, f3, k5.mono g⟩
    · obtain ⟨⟨ds, e1⟩, e2⟩ := S.an j v k
      refine ⟨?_, e2⟩
      by_cases hj : j ∈ refIx as
      · obtain ⟨i, hi⟩ := refs hj
        obtain ⟨p, es, ws, s1, s2, s3, s4, s5, s6, s7, _⟩ := passed hi e1
        exact ⟨es, s7⟩
      · exact ⟨ds, by rw [wb_other hj]; exact e1⟩
    · rcases back k with ⟨_, h⟩ | ⟨an', ds', es, h1, h2⟩
      · obtain ⟨k1, k2, k3, ws, k4, k5⟩ := S.ce j a ds h
        have f1 := notp (.inr ⟨ds, h⟩) fun z => by have := refLt z; omega
        rw [k4] at f1
        obtain ⟨f2, f3⟩ := S'.fr a _ f1
        exact ⟨k1, f2, k3, ws, f3, k5.mono g⟩
      · cases h2
    · rcases back k with ⟨_, h'⟩ | ⟨an', ds', es, h1, h2⟩
      · exact S.hi j o h' h
      · obtain ⟨a, d, z⟩ := S.hi j _ h1 h
        cases z
    · have hno : ¬ ∃ j, Owns σ e j b ∧ j ∉ refIx as := fun ⟨j, oj, _⟩ => by
        have := (S.owns oj).2.1
        rw [k] at this; cases this
      exact S'.fr b o (by show frC c H σ e as b = some o; unfold frC; rw [if_neg hno]; exact k)
  have cells : ∀ {i : Nat} {o : O}, (outs.drop (vs ++ dvs).length)[i]? = some o → outs[(vs ++ dvs).length + i]? = some o := fun {i o} k => by rw [List.getElem?_drop] at k; exact k
  have S2 : StR K c F' H' σ (wbC (vs ++ dvs).length as outs e) := by
    refine S1.addCe (fun i o k => ?_) fun i j a ds ds' k1 k2 => ?_
    · have k' := cells k
      obtain ⟨a, ds, z⟩ := S'.hi _ o k' (by rw [List.length_map]; omega)
      subst z
      obtain ⟨h1, h2, h3, ws, h4, h5⟩ := S'.ce _ a ds k'
      refine ⟨a, ds, rfl, h2, frn h3, ⟨ws, h4, h5⟩, fun j o => anew h3 (fun i' hi' oo => ?_) j (own o)⟩
      have := S'.ap i' _ a oo (.inr ⟨ds, k'⟩)
      omega
    · have := S'.ap _ _ a (.inr ⟨ds, cells k1⟩) (.inr ⟨ds', cells k2⟩)
      omega
  refine ⟨fun p => frn, S1, S2, fun v r hr => ?_⟩
  cases r with
  | un => exact hr
  | ce _ _ => exact hr
  | fz d => exact hr
  | ow an ds =>
    obtain ⟨p, ws, rfl, h2, h3, h4, h5, h6⟩ := hr
    refine ⟨p, ws, rfl, h2, frn h3, h4, h5, fun j o => ?_⟩
    by_cases hj : j < (wb as outs e).length
    · refine anew h3 (fun i _ => h6 i) j (own ?_)
      unfold Owns wbC at o
      rw [List.getElem?_append_left hj] at o
      exact o
    · unfold Owns wbC at o
      rw [List.getElem?_append_right (by omega), List.getElem?_drop] at o
      rcases o with ⟨⟨an', ds', k⟩, _⟩ | ⟨ds', k⟩
      · obtain ⟨a, d, z⟩ := S'.hi _ _ k (by rw [List.length_map]; omega)
        cases z
      · exact h6 _ (.inr ⟨ds', k⟩)
end
end PW
set_option Elab.async false
set_option linter.all false
set_option maxRecDepth 100000
set_option maxHeartbeats 4000000
/-! an own error class whose __init__ says super().__init__(text), self.f = f -/
namespace PW
open PySem PySem.Spec PyProof.Rows L2 NdefX
section
open PySem.W
variable {prog : Program} {w : World} {A : Around} {E : Value → Shared → Prop} {h : Heap} {g : Array GenState} {d : Drawn} {t : Nat} {os : OsState}
variable {nm q : Str} {C N : Addr} {bs bm : List Value} {hdct : Bool} {sn : List Str} {sub : List Value} {ab : Bool} {col : Option Bool} {dd : Option Addr} {k0 k1 k2 k3 k5 : Option Value}
theorem call_ve {u e t0 : Addr} {rest : List Value} {Q : Value → Shared → Prop}
    (hC : h.get? C = some (excClassObj nm q C N bs bm hdct sn sub ab col dd k0 k1 k2 k3 k5 "ValueError.__new__")) (he : h.get? e = some (HandSPX.excO C t0)) (hu : h.get? u = some (kxs_mw "ValueError.__init__" e)) (hrest : rest.length ≤ sizeLine)
    (hq : ∀ h' t1, (∀ b o, b ≠ e → h.get? b = some o → h'.get? b = some o) → h'.get? e = some (HandSPX.excO C t1) → Q .none ⟨h', g, d, t, os⟩) :
    wpAny (model prog w) A (call (.ref u) rest) Q E ⟨h, g, d, t, os⟩ := by
  refine wpAny_call (codeAny_of_tree ?_)
  show wpAny _ A.in1 (callAny (.ref u) ⟨rest, []⟩) _ _ _
  simp only [callAny]
  refine wpAny_bind (wpAny_load hu ?_)
  simp only [kxs_mw, show (Value.type "method-wrapper" == Value.type "method" || Value.type "method-wrapper" == Value.type "builtin_function_or_method" || Value.type "method-wrapper" == Value.type "method-wrapper") = true by decide, if_true]
  refine W.KFB.if_so (by decide) ?_
  refine wpAny_bind (ESX.check_bound F.excBase_ValueError hC he rfl ?_)
  refine wpAny_bind (wpAny_pure (wpAny_pure ?_))
  refine ⟨Code.quiet_builtin _ (by decide +kernel), codeAny_builtin F.excBase_ValueError.initEntry ?_⟩
  rw [Around.under_plainId F.excBase_ValueError.init.plain _]
  wp_walk
  refine hq _ h.objs.size (fun b o hb ho => ?_) ?_
  · rw [Heap.get?_update_other _ _ (Ne.symm hb)]
    exact Heap.get?_push_of_some _ ho
  · rw [Heap.get?_update_self _ (Heap.get?_push_of_some _ he) rfl]
    rfl
end
/-- what the written part says of such a class and its __init__ -/
structure ExI (P : Program) (K : PySem.W.Frag) (mg : Str → Option Value) (qual : Str) (st : Stmt) (C f : Addr) (F : NF) (doc pm ct : Value) : Prop where
  oex : OexC K C
  ini : PySem.W.findIn K (.ref C) "__init__" = some (some (.ref f))
  typ : PySem.W.typeIn K (.ref f) = some (.type "function")
  nf : F.params = defArgs st ∧ F.body = defBody st ∧ F.scope = defScope st ∧ F.qual = qual
  cl : ∃ cc, F.cl = [(("__class__" : Str), cc)] ∧ ∃ cl cld csl, K.lookup cc = some ⟨cl, cld, .cell (some (.ref C)), csl⟩
  fn : ∃ oc od osl, K.lookup f = some ⟨oc, od, .func (F.fd doc pm ct), osl⟩
  cd : PySem.W.codeIn K (.ref F.c) F.qual = true
  cf : ∃ ccl cdd vs ccs tf, K.lookup F.c = some ⟨ccl, cdd, .fields vs, ccs⟩ ∧ vs[2]? = some (.str P.main.file tf)
  sup : PySem.W.ks_superIn K C C "__init__" = some (some (.builtin "ValueError.__init__"))
  subV : PySem.W.subIn K (.ref C) (.type "ValueError") = some true
  mro : PySem.W.mroIn K C (.ref C) = some true
  noS : mg "super" = none
  opq : PySem.W.nsIn K cStatics "thirdparty.any" = some none
  top : (P.main.scope.names.lookup ("super" : Str)).isSome = false
section
variable {CX : CXT} {P : Program} {w : World} {K : PySem.W.Frag} {mg : Str → Option Value} {base : Heap} {N ps : List Str} {F : NF} {f C : Addr} {k : Nat} {sp : Sp} {qual : Str} {st : Stmt} {doc pm ct : Value}
theorem ini_of (T : ExI P K mg qual st C f F doc pm ct) (S : NScope N (("self" : Str) :: ps) [("__class__" : Str)] F.scope) {arg : Expr} {rest : List Stmt} {p0 p1 p2 p3 p4 : Pos} {pa : Pos} {pars : List PySem.Arg}
    (hbd : F.body = .Expr (.Call (.Attribute (.Call (.Name "super" p0) [] [] p1) "__init__" p2) [arg] [] p3) p4 :: rest)
    (hpar : F.params.posonlyargs ++ F.params.args = ({ arg := "self", annotation := none, pos := pa } : PySem.Arg) :: pars)
    (hks : F.scope.names.lookup ("super" : Str) = some .globalImplicit)
    (len : ∀ vs H Q E, sp vs H Q E → vs.length = (("self" : Str) :: ps).length)
    (hbody : ∀ (A : Around) (outer : List PySem.Env) (s : Shared) (H : Hp) (vs : List V) (Q : VK) (E : XK), Room k (A.deeper (envF F f s.heap.objs.size)) → sp vs H Q E →
      ∃ ta tr, PE (ncx CX P w K mg base N F f A outer s H E) arg ta ∧ PSs (ncx CX P w K mg base N F f A outer s H E) rest tr ∧ ∃ a, vs.head? = some (.ref a) ∧ H a = some (exo a C none) ∧
        ta (startF N vs [some (.ref C)]) H fun x H1 => ([x] : List V).length = 1 ∧ H1 a = some (exo a C none) ∧ tr { nx := fun _ H' => Q .non H', rt := Q } (startF N vs [some (.ref C)]) H1)
    (hs1 : ∀ L, starEach [arg] (envF F f L) = (false, eval arg (envF F f L)) :: starEach [] (envF F f L) := by intro _; rfl)
    (he : ∀ (L : Addr), ∃ pl : Sem Bool, eval (.Call (.Attribute (.Call (.Name "super" p0) [] [] p1) "__init__" p2) [arg] [] p3) (envF F f L) = (do
      let ov ← attributeBase (.Call (.Name "super" p0) [] [] p1) "__init__" (envF F f L) (eval (.Call (.Name "super" p0) [] [] p1) (envF F f L))
      standAt p2.atName
      let (f', first) ← holding [ov] (getMethod ov "__init__" pl)
      callWith p3 f' first (backTo p3 (starEach [arg] (envF F f L))) []) := by intro _; exact ⟨_, rfl⟩)
    (hsw : ∀ L, swapsWith (.Call (.Attribute (.Call (.Name "super" p0) [] [] p1) "__init__" p2) [arg] [] p3) none p4.line (envF F f L) = pure false := by intro _; rfl) :
    FnOk P w K mg base CX (k + 1) f (F.fd doc pm ct) (("self" : Str) :: ps) sp := by
  refine ⟨len, fun A outer s H args us vs Q E hr e0 hb r hsp => ?_⟩
  have KX : K.In s.heap := e0.mod.kin.keeps fun b o e => (e0.bs b o e).1
  have hl := len _ _ _ _ hsp
  have lim : s.heap.NoLimit := e0.mod.nolimit.keeps fun b o e => (e0.bs b o e).1
  obtain ⟨oc, od, osl, lk⟩ := T.fn
  obtain ⟨cc, ecl, cl, cld, csl, hcc⟩ := T.cl
  obtain ⟨ccl, cdd, cvs, ccs, tf, hcf, hfile⟩ := T.cf
  refine codeAny_call_function hr.depth (KX _ _ lk) rfl S.co S.gen rfl (PySem.W.codeRec_of KX T.cd) (hb _ _ _ _ ?_)
  refine wpAny_newFunctionEnv S.nocell (fun ⟨n, _⟩ hy => S.par n (List.of_mem_zip hy).1) (fun h₁ hns hsb => ⟨lim.fresh _ hsb, ?_⟩) S.kind
  show codeAny _ _ (.func F.body (envF F f s.heap.objs.size)) _ _
  refine ks_codeAny_funcAt ?_
  have kp : ∀ b o, s.heap.get? b = some o → h₁.get? b = some o := fun b o e => hsb.extBut b o (Nat.ne_of_lt (Heap.lt_size e)) (Heap.get?_push_of_some _ e)
  obtain ⟨ta, tr, ha, ht, a, hv0, hHa, hq⟩ := hbody A outer s H vs Q E (hr.deeper _) hsp
  have bK : ∀ {b : Addr} {o : Obj}, K.lookup b = some o → H b = none := fun {b o} e => (e0.bs b o (e0.mod.kin b o e)).2
  have Cl : CellsAt F.cl [("__class__" : Str)] [some (.ref C)] s.heap H := by
    refine ⟨rfl, fun y c e => ?_, fun x y c e1 e2 => ?_, fun i y e => ?_⟩
    · rw [ecl] at e
      simp only [List.lookup] at e
      split at e
      · cases e
        exact ⟨bK hcc, _, ⟨_, KX _ _ hcc, rfl⟩⟩
      · cases e
    · rw [ecl] at e1 e2
      simp only [List.lookup] at e1 e2
      split at e1
      · rename_i g1
        split at e2
        · rename_i g2
          exact (beq_iff_eq.mp g1).trans (beq_iff_eq.mp g2).symm
        · cases e2
      · cases e1
    · cases i with
      | zero =>
        simp at e
        subst e
        refine ⟨cc, by rw [ecl]; simp [List.lookup], fun v ev => ?_⟩
        simp at ev
        subst ev
        exact ⟨.ref C, rfl, ⟨_, KX _ _ hcc, rfl⟩⟩
      | succ i => simp at e
  have I : L2.Inv (ncx CX P w K mg base N F f A outer s H E) [] (startF N vs [some (.ref C)]) H { s with heap := h₁, toks := s.toks + ((("self" : Str) :: ps).zip us).length } := inv_startN S hr.hd e0 hl r Cl hns kp
  obtain ⟨vs', rfl⟩ : ∃ vs', vs = .ref a :: vs' := by
    cases vs with
    | nil => cases hv0
    | cons v vs' => cases hv0; exact ⟨vs', rfl⟩
  obtain ⟨u0, us', rfl, ru⟩ : ∃ u0 us', us = u0 :: us' ∧ u0 = .ref a := by
    cases r with
    | cons ra rr => exact ⟨_, _, rfl, ra⟩
  subst ru
  have hself : ((("self" : Str) :: ps).zip (Value.ref a :: us')).reverse.lookup ("self" : Str) = some (.ref a) := by
    have ndP : (("self" : Str) :: ps).Nodup := by
      have q := S.nd.sublist (List.take_sublist ((("self" : Str) :: ps).length + 1) N)
      have e := S.pre
      rw [show ([("__class__" : Str)] : List Str).length = 1 from rfl] at e
      rw [e] at q
      exact (List.nodup_append.mp q).1
    exact zip_look (i := 0) ndP rfl rfl
  have fin : ∀ {σ' : L2.St} {H' : Hp} {v : V} {u : Value} {s' : Shared}, L2.Inv (ncx CX P w K mg base N F f A outer s H E) [] σ' H' s' → L2.RelV v u → Q v H' → CE outer P w H s Q u s' :=
    fun {σ' H' v u s'} J rv q => ⟨v, H', J.os, J.bare, J.base, J.hok, rv, q⟩
  obtain ⟨nm, q, NN, bs, bm, sn, sub, ab, col, dd, k0, k1, k2, k3, k5, hC, hbm⟩ := T.oex.cls
  obtain ⟨pl, hev⟩ := he s.heap.objs.size
  have hkc : F.scope.names.lookup ("__class__" : Str) = some .free := S.frk _ (by simp)
  have hksf : F.scope.names.lookup ("self" : Str) = some .local := S.par _ (by simp)
  rw [hbd]
  refine ks_wpAt_execs_cons (ks_wpAt_Expr_any (ks_wpAt_MethodCall (pl := pl) ?_ hev) (by simp [interactive, S.kind]) (hsw _))
  obtain ⟨t1, ho⟩ := exo_at I.hok hHa
  have K1 : K.In h₁ := KX.keeps kp
  refine ks_wpAt_super_base (env := envF F f s.heap.objs.size) (fd := F.fd doc pm ct) (ar := ({ arg := "self", annotation := none, pos := pa } : PySem.Arg)) hks hkc (by decide +kernel) rfl (K1 _ _ lk) rfl (by show (F.params.posonlyargs ++ F.params.args).head? = _; rw [hpar]; rfl) rfl (K1 _ _ hcf) rfl hfile (by simp) T.top ?_
  obtain ⟨mb, hb1, hb2⟩ := I.mod.blt
  refine PySem.W.ks_loadName_global S.kind hks (Calls.loadGlobal_builtin (env := envF F f s.heap.objs.size) (I.mod.glob.keeps I.bk) T.noS (hb1.keeps I.bk) ((hb2 "super" (by decide)).trans (show bootBuiltins "super" = some (.type "super") by first | rfl | decide +kernel)) ⟨rfl, ?_⟩)
  refine wpAny_loadName_free S.kind hkc (by show F.cl.lookup ("__class__" : Str) = some cc; rw [ecl]; simp [List.lookup]) ⟨_, K1 _ _ hcc, rfl⟩ ?_
  refine wpAny_loadName_local S.kind hksf hns hself ?_
  refine ks_wpAny_isType_cls (K1 _ _ hC) rfl ⟨rfl, ?_⟩
  have hcl : PySem.W.clsIn K C = some { name := nm, bases := bs, mro := .ref C :: bm, ns := NN, qualname := q, hasDict := true, slotNames := sn, subclasses := sub, abstract := ab, collection := col, hasDel := false } := by unfold PySem.W.clsIn; rw [hC] <;> rfl
  refine ks_wpAny_call_super (K1 _ _ hC) rfl ho rfl (fun c e => nomatch e) (PySem.W.looks_mroIn K1 T.mro) (fun h2 hso k2 => ?_)
  have K2 : K.In h2 := K1.keeps k2
  have sup' := T.sup
  unfold PySem.W.ks_superIn at sup'
  rw [hcl] at sup'
  have hI : PySem.W.Looks (model P w) h2 (isInstance (.ref a) (.type "ValueError")) true :=
    (PySem.W.InstAt.type (⟨k2 _ _ ho, rfl, rfl, trivial⟩ : PySem.W.InstAt h2 a (HandSPX.excO C t1) C none)).andThen (PySem.W.looks_subIn K2 T.subV)
  have hxC : a ≠ C := fun z => by
    rw [z] at ho
    rw [K1 _ _ hC] at ho
    cases ho
  refine PySem.W.kxs_getMethod PySem.W.kxs_ValueError hso (PySem.W.looks_opaque K2 T.opq) (l₀ := .ref C :: bm) (fun A Q E s k q => wpAny_bind ((PySem.W.looks_clsIn K2 hcl) A _ E s k (wpAny_pure q))) rfl K2 sup' hI hxC (by decide +kernel) ?_
  have k3 : ∀ b o, h₁.get? b = some o → (h2.push (PySem.W.kxs_mw "ValueError.__init__" a)).get? b = some o := fun b o e => Heap.get?_push_of_some _ (k2 b o e)
  have hu : (h2.push (PySem.W.kxs_mw "ValueError.__init__" a)).get? h2.objs.size = some (PySem.W.kxs_mw "ValueError.__init__" a) := Heap.get?_push_size _ rfl
  have I2 : L2.Inv (ncx CX P w K mg base N F f A outer s H E) [] (startF N (.ref a :: vs') [some (.ref C)]) H { s with heap := h2, toks := s.toks + ((("self" : Str) :: ps).zip (Value.ref a :: us')).length } := I.kept k2
  have I3 : L2.Inv (ncx CX P w K mg base N F f A outer s H E) [(h2.objs.size, PySem.W.kxs_mw "ValueError.__init__" a)] (startF N (.ref a :: vs') [some (.ref C)]) H { s with heap := h2.push (PySem.W.kxs_mw "ValueError.__init__" a), toks := s.toks + ((("self" : Str) :: ps).zip (Value.ref a :: us')).length + 1 } := by
    refine L2.Inv.pins_of (I.kept k3) fun p hp => ?_
    rw [List.mem_singleton] at hp
    subst hp
    exact ⟨hu, I2.hok.fresh (Nat.le_refl _), Nat.ne_of_gt I2.lt, I2.nofs (Nat.le_refl _), fun v e => nomatch e⟩
  refine PySem.W.kxs_callWith (i := "ValueError.__init__") (x := a) (by rw [hs1]; rfl) ?_
  have hA : PA (ncx CX P w K mg base N F f A outer s H E) [arg] (tCons ta tNil) := pa_cons ha pa_nil (hs1 _)
  have key : ∀ {Q' : Args → Shared → Prop} {E' : Value → Shared → Prop} {s' : Shared}, wpAny (model P w) (A.deeper (envF F f s.heap.objs.size)) (spliced (backTo p3 (starEach [arg] (envF F f s.heap.objs.size)))) (fun ws s₁ => Q' ⟨ws, []⟩ s₁) E' s' →
      wpAny (model P w) (A.deeper (envF F f s.heap.objs.size)) (evalArgs (.ref h2.objs.size) true (backTo p3 (starEach [arg] (envF F f s.heap.objs.size))) []) Q' E' s' := fun h => by
    rw [hs1] at h ⊢
    exact PySem.Calls.evalArgs_plain h
  refine key ?_
  refine wpAny_mono (hA.run p3 _ _ _ H (fun ws H1 => ws.length = 1 ∧ H1 a = some (exo a C none) ∧ tr { nx := fun _ H' => Q .non H', rt := Q } (startF N (.ref a :: vs') [some (.ref C)]) H1) I3 ?_) (fun ws s4 ⟨xs, H4, I4, r4, q4⟩ => ?_) (fun e s' hs => hs)
  · exact hq
  obtain ⟨hlen, h4a, htr⟩ := q4
  have hu4 := (I4.pin (h2.objs.size, PySem.W.kxs_mw "ValueError.__init__" a) (List.mem_append_right _ (by simp))).1
  refine ⟨hu4, ?_⟩
  have hlw : ws.length ≤ sizeLine := by rw [← Paired.length r4, hlen, sizeLine_eq]; omega
  obtain ⟨t4, ho4⟩ := exo_at I4.hok h4a
  have K4 : K.In s4.heap := I4.kIn
  obtain ⟨hp4, g4, d4, tk4, os4⟩ := s4
  show wpAny _ _ (call (.ref h2.objs.size) ws) _ _ _
  refine call_ve (K4 _ _ hC) ho4 hu4 hlw fun h5 t5 k5 hx5 => ?_
  have I4' : L2.Inv (ncx CX P w K mg base N F f A outer s H E) [] (startF N (.ref a :: vs') [some (.ref C)]) H4 ⟨hp4, g4, d4, tk4, os4⟩ := I4.pins_of fun p hp => by cases hp
  have J := I4'.write (t' := tk4) (x := a) (e := a) (o := exo a C none) (by rw [h4a]; exact True.intro) (.inl rfl) k5 ⟨_, hx5⟩ (exo_ok hx5)
  have eu : upd H4 a (exo a C none) = H4 := by
    funext b
    by_cases hb : b = a
    · rw [hb, upd_same, h4a]
    · rw [upd_ne hb]
  rw [eu] at J
  refine wpAt_of_wpAny (wpAny_mono (ht.run [] _ _ H4 _ J htr) (fun fl s' hs => ?_) fun e s' hs => hs)
  cases fl with
  | ret u =>
    obtain ⟨v, σ', H', J, rv, q⟩ := hs
    exact fin J rv q
  | next =>
    obtain ⟨σ', H', J, q⟩ := hs
    exact fin (v := V.non) (u := Value.none) J rfl q
  | brk =>
    obtain ⟨_, _, _, q⟩ := hs
    exact False.elim q
  | cont =>
    obtain ⟨_, _, _, q⟩ := hs
    exact False.elim q
end
end PW
set_option Elab.async false
set_option linter.all false
set_option maxRecDepth 100000
set_option maxHeartbeats 4000000
namespace PW
open PySem PySem.Spec PyProof.Rows L2 NdefX
/-- what may stand as a field of an own error -/
def OkF : V → Prop
  | .str y => y.length ≤ 1000
  | .int i => i.natAbs.log2 < 1920
  | _ => False
/-- the promise of such an __init__: its fields are set -/
def spIni (C : Addr) (fns : List Str) : Sp := fun vs H Q _ => ∃ (a : Addr) (args : List V), vs = .ref a :: args ∧ args.length = fns.length ∧ (∀ v ∈ args, OkF v) ∧ H a = some (exo a C none) ∧
  ∀ (H2 : Hp) (d : Addr), H d = none → d ≠ a → H2 a = some (exo a C (some d)) → H2 d = some (exd d (fns.zip args).reverse) → (∀ b, b ≠ a → b ≠ d → H2 b = H b) → Q .non H2
section
variable {CX : CXT} {P : Program} {w : World} {K : PySem.W.Frag} {mg : Str → Option Value} {base : Heap} {F : NF} {f C : Addr} {qual : Str} {st : Stmt} {doc pm ct : Value} {n1 n2 : Str}
abbrev supCall (p0 p1 p2 p3 : Pos) (arg : Expr) : Expr := .Call (.Attribute (.Call (.Name "super" p0) [] [] p1) "__init__" p2) [arg] [] p3
theorem ini2 (T : ExI P K mg qual st C f F doc pm ct) (S : NScope [("self" : Str), n1, n2, ("__class__" : Str)] [("self" : Str), n1, n2] [("__class__" : Str)] F.scope) {arg : Expr} {p0 p1 p2 p3 p4 q1 q2 q3 q4 q5 q6 q7 q8 : Pos} {pa : Pos} {pars : List PySem.Arg}
    (hbd : F.body = [.Expr (supCall p0 p1 p2 p3 arg) p4, .Assign [.Attribute (.Name "self" q1) n1 q2] (.Name n1 q3) q4, .Assign [.Attribute (.Name "self" q5) n2 q6] (.Name n2 q7) q8])
    (hpar : F.params.posonlyargs ++ F.params.args = ({ arg := "self", annotation := none, pos := pa } : PySem.Arg) :: pars)
    (hks : F.scope.names.lookup ("super" : Str) = some .globalImplicit) (h1 : PySem.W.findIn K (.ref C) n1 = some none) (h2 : PySem.W.findIn K (.ref C) n2 = some none)
    (d1 : (n1 == ("__debug__" : Str)) = false ∧ (n1 == ("__classdict__" : Str)) = false) (d2 : (n2 == ("__debug__" : Str)) = false ∧ (n2 == ("__classdict__" : Str)) = false)
    (harg : ∀ (A : Around) (outer : List PySem.Env) (s : Shared) (H : Hp) (E : XK), ∃ ta, PE (ncx CX P w K mg base [("self" : Str), n1, n2, ("__class__" : Str)] F f A outer s H E) arg ta ∧
      ∀ (a : Addr) (v1 v2 : V) (H : Hp) (Q : VK), OkF v1 → OkF v2 → (∀ x, Q x H) → ta [some (.ref a), some v1, some v2, some (.ref C)] H Q)
    (hs1 : ∀ L, starEach [arg] (envF F f L) = (false, eval arg (envF F f L)) :: starEach [] (envF F f L) := by intro _; rfl)
    (he : ∀ (L : Addr), ∃ pl : Sem Bool, eval (supCall p0 p1 p2 p3 arg) (envF F f L) = (do
      let ov ← attributeBase (.Call (.Name "super" p0) [] [] p1) "__init__" (envF F f L) (eval (.Call (.Name "super" p0) [] [] p1) (envF F f L))
      standAt p2.atName
      let (f', first) ← holding [ov] (getMethod ov "__init__" pl)
      callWith p3 f' first (backTo p3 (starEach [arg] (envF F f L))) []) := by intro _; exact ⟨_, rfl⟩)
    (hsw : ∀ L, swapsWith (supCall p0 p1 p2 p3 arg) none p4.line (envF F f L) = pure false := by intro _; rfl)
    (hw1 : ∀ L, swapsWith (.Name n1 q3) (some (.Attribute (.Name "self" q1) n1 q2)) q4.line (envF F f L) = pure false := by intro _; rfl)
    (hw2 : ∀ L, swapsWith (.Name n2 q7) (some (.Attribute (.Name "self" q5) n2 q6)) q8.line (envF F f L) = pure false := by intro _; rfl) :
    FnOk P w K mg base CX 1 f (F.fd doc pm ct) [("self" : Str), n1, n2] (spIni C [n1, n2]) := by
  refine ini_of (k := 0) (ps := [n1, n2]) T S hbd hpar hks (fun vs H Q E h => ?_) (fun A outer s H vs Q E hr h => ?_) hs1 he hsw
  · obtain ⟨a, args, rfl, hl, _⟩ := h
    simpa using hl
  · obtain ⟨a, args, rfl, hl, hok, hH, hq⟩ := h
    match args, hl with
    | [v1, v2], _ =>
    obtain ⟨ta, ha, hta⟩ := harg A outer s H E
    have l1 : F.scope.names.lookup n1 = some .local := S.par _ (by simp)
    have l2 : F.scope.names.lookup n2 = some .local := S.par _ (by simp)
    have ls : F.scope.names.lookup ("self" : Str) = some .local := S.par _ (by simp)
    have b1 : OkF v1 := hok _ (by simp)
    have b2 : OkF v2 := hok _ (by simp)
    refine ⟨ta, _, ha, pss_cons (ps_ost (pe_var (i := 0) rfl (.inl ls)) (pe_var (i := 1) rfl (.inl l1) d1.1 d1.2) (hw1 _)) (pss_one (ps_ost (pe_var (i := 0) rfl (.inl ls)) (pe_var (i := 2) rfl (.inl l2) d2.1 d2.2) (hw2 _))), a, rfl, hH, ?_⟩
    show ta [some (.ref a), some v1, some v2, some (.ref C)] H _
    refine hta a v1 v2 H _ b1 b2 fun x => ⟨rfl, hH, ?_⟩
    refine ⟨v1, rfl, .ref a, rfl, a, C, rfl, T.oex, h1, .inl ⟨hH, fun dx hdx ne => ?_⟩⟩
    refine ⟨v2, rfl, .ref a, rfl, a, C, rfl, T.oex, h2, .inr ⟨dx, _, upd_same, by rw [upd_ne ne]; exact upd_same, by simp, ?_⟩⟩
    refine hq _ dx hdx ne (by rw [upd_ne (Ne.symm ne)]; exact upd_same) upd_same fun b nb nd => ?_
    rw [upd_ne nd, upd_ne nb, upd_ne nd]
theorem ini1 (T : ExI P K mg qual st C f F doc pm ct) (S : NScope [("self" : Str), n1, ("__class__" : Str)] [("self" : Str), n1] [("__class__" : Str)] F.scope) {arg : Expr} {p0 p1 p2 p3 p4 q1 q2 q3 q4 : Pos} {pa : Pos} {pars : List PySem.Arg}
    (hbd : F.body = [.Expr (supCall p0 p1 p2 p3 arg) p4, .Assign [.Attribute (.Name "self" q1) n1 q2] (.Name n1 q3) q4])
    (hpar : F.params.posonlyargs ++ F.params.args = ({ arg := "self", annotation := none, pos := pa } : PySem.Arg) :: pars)
    (hks : F.scope.names.lookup ("super" : Str) = some .globalImplicit) (h1 : PySem.W.findIn K (.ref C) n1 = some none)
    (d1 : (n1 == ("__debug__" : Str)) = false ∧ (n1 == ("__classdict__" : Str)) = false)
    (harg : ∀ (A : Around) (outer : List PySem.Env) (s : Shared) (H : Hp) (E : XK), ∃ ta, PE (ncx CX P w K mg base [("self" : Str), n1, ("__class__" : Str)] F f A outer s H E) arg ta ∧
      ∀ (a : Addr) (v1 : V) (H : Hp) (Q : VK), OkF v1 → (∀ x, Q x H) → ta [some (.ref a), some v1, some (.ref C)] H Q)
    (hs1 : ∀ L, starEach [arg] (envF F f L) = (false, eval arg (envF F f L)) :: starEach [] (envF F f L) := by intro _; rfl)
    (he : ∀ (L : Addr), ∃ pl : Sem Bool, eval (supCall p0 p1 p2 p3 arg) (envF F f L) = (do
      let ov ← attributeBase (.Call (.Name "super" p0) [] [] p1) "__init__" (envF F f L) (eval (.Call (.Name "super" p0) [] [] p1) (envF F f L))
      standAt p2.atName
      let (f', first) ← holding [ov] (getMethod ov "__init__" pl)
      callWith p3 f' first (backTo p3 (starEach [arg] (envF F f L))) []) := by intro _; exact ⟨_, rfl⟩)
    (hsw : ∀ L, swapsWith (supCall p0 p1 p2 p3 arg) none p4.line (envF F f L) = pure false := by intro _; rfl)
    (hw1 : ∀ L, swapsWith (.Name n1 q3) (some (.Attribute (.Name "self" q1) n1 q2)) q4.line (envF F f L) = pure false := by intro _; rfl) :
    FnOk P w K mg base CX 1 f (F.fd doc pm ct) [("self" : Str), n1] (spIni C [n1]) := by
  refine ini_of (k := 0) (ps := [n1]) T S hbd hpar hks (fun vs H Q E h => ?_) (fun A outer s H vs Q E hr h => ?_) hs1 he hsw
  · obtain ⟨a, args, rfl, hl, _⟩ := h
    simpa using hl
  · obtain ⟨a, args, rfl, hl, hok, hH, hq⟩ := h
    match args, hl with
    | [v1], _ =>
    obtain ⟨ta, ha, hta⟩ := harg A outer s H E
    have l1 : F.scope.names.lookup n1 = some .local := S.par _ (by simp)
    have ls : F.scope.names.lookup ("self" : Str) = some .local := S.par _ (by simp)
    have b1 : OkF v1 := hok _ (by simp)
    refine ⟨ta, _, ha, pss_one (ps_ost (pe_var (i := 0) rfl (.inl ls)) (pe_var (i := 1) rfl (.inl l1) d1.1 d1.2) (hw1 _)), a, rfl, hH, ?_⟩
    show ta [some (.ref a), some v1, some (.ref C)] H _
    refine hta a v1 H _ b1 fun x => ⟨rfl, hH, ?_⟩
    refine ⟨v1, rfl, .ref a, rfl, a, C, rfl, T.oex, h1, .inl ⟨hH, fun dx hdx ne => ?_⟩⟩
    refine hq _ dx hdx ne upd_same (by rw [upd_ne ne]; exact upd_same) fun b nb nd => ?_
    rw [upd_ne nb, upd_ne nd]
end
/-! ### the texts of the errors -/
theorem okf_fmt {σ : L2.St} {H : Hp} {Q : VK} {v : V} {i : Nat} (hv : σ[i]? = some (some v)) (h : OkF v) (k : ∀ y : Str, y.length ≤ 1921 → Q (.str y) H) : tFmt (tVar i) σ H Q := by
  refine ⟨v, hv, ?_⟩
  cases v with
  | str y => exact .inl ⟨y, rfl, by rw [sizeLine_eq]; have : y.length ≤ 1000 := h; omega, k y (by have : y.length ≤ 1000 := h; omega)⟩
  | int j => exact .inr ⟨j, rfl, h, k _ (by rw [PySem.ofString_length]; exact int_text_length_le (by decide) h)⟩
  | _ => exact h.elim
/-- a part of such a text -/
def Part (t : TE) (σ : L2.St) (H : Hp) : Prop := ∀ Q : VK, (∀ y : Str, y.length ≤ 1921 → Q (.str y) H) → t σ H Q
theorem part_fmt {σ : L2.St} {H : Hp} {v : V} {i : Nat} (hv : σ[i]? = some (some v)) (h : OkF v) : Part (tFmt (tVar i)) σ H := fun Q k => okf_fmt hv h k
theorem part_str {σ : L2.St} {H : Hp} {y : Str} (h : y.length ≤ 1921) : Part (tC (.str y)) σ H := fun Q k => k y h
theorem js_ok {σ : L2.St} {H : Hp} {Q : Str → Hp → Prop} : ∀ (ts : List TE) (acc : Str), (∀ t ∈ ts, Part t σ H) → acc.length + 1921 * ts.length ≤ 16777216 → (∀ out, Q out H) → tJs ts acc σ H Q
  | [], acc, _, _, k => k acc
  | t :: ts, acc, h, hl, k => by
    refine h t (by simp) _ fun y hy => ⟨y, rfl, ?_, js_ok ts _ (fun t ht => h t (List.mem_cons_of_mem _ ht)) ?_ k⟩
    · rw [strLen_append, sizeLine_eq]
      rw [List.length_cons] at hl
      omega
    · rw [strLen_append]
      rw [List.length_cons] at hl
      omega
/-- raise C(e, ..) -/
def resL (e : Env) : List Arg → Option (List D)
  | [] => some []
  | a :: as => match res e a, resL e as with
    | some d, some ds => some (d :: ds)
    | _, _ => none
def OkD : D → Prop
  | .str y => y.length ≤ 1000
  | .int i => i.natAbs.log2 < 1920
  | _ => False
theorem resL_ok {K : PySem.W.Frag} {c : PCx} {F H : Hp} {σ : L2.St} {e : Env} (S : StR K c F H σ e) : ∀ {vs : List V} {as : List Arg} {ds : List D}, ArgsR K F σ vs as → resL e as = some ds → (∀ d ∈ ds, OkD d) → Rps K F vs ds ∧ ∀ v ∈ vs, OkF v
  | _, _, _, .nil, h, _ => by cases h; exact ⟨.nil, fun v hv => by cases hv⟩
  | v :: vs, a :: as, ds, .cons ra rs, h, ok => by
    unfold resL at h
    cases h1 : res e a with
    | none => rw [h1] at h; cases h
    | some d =>
      cases h2 : resL e as with
      | none => rw [h1, h2] at h; cases h
      | some ds' =>
        rw [h1, h2] at h; cases h
        obtain ⟨q1, q2⟩ := resL_ok S rs h2 fun d hd => ok d (List.mem_cons_of_mem _ hd)
        have br := ArgR.br S ra h1
        have od := ok d (by simp)
        cases d with
        | int i =>
          have e := br.int
          subst e
          exact ⟨.cons (.int i) q1, fun v hv => by rcases List.mem_cons.mp hv with z | z; (subst z; exact od); exact q2 v z⟩
        | str i =>
          have e := br.str
          subst e
          exact ⟨.cons (.str i) q1, fun v hv => by rcases List.mem_cons.mp hv with z | z; (subst z; exact od); exact q2 v z⟩
        | _ => exact od.elim
theorem rfs_zip {K : PySem.W.Frag} {F : Hp} : ∀ {fns : List Str} {vs : List V} {ds : List D}, Rps K F vs ds → Rfs K F (fns.zip vs) (fns.zip ds)
  | [], _, _, _ => by rw [List.zip_nil_left, List.zip_nil_left]; exact .nil
  | n :: fns, [], _, .nil => .nil
  | n :: fns, v :: vs, _, .cons r rs => .cons r (rfs_zip rs)
theorem Rfs.append {K : PySem.W.Frag} {F : Hp} : ∀ {vs ws : List (Str × V)} {ds es : List (Str × D)}, Rfs K F vs ds → Rfs K F ws es → Rfs K F (vs ++ ws) (ds ++ es)
  | _, _, _, _, .nil, h => h
  | _, _, _, _, .cons r rs, h => .cons r (Rfs.append rs h)
theorem Rfs.reverse {K : PySem.W.Frag} {F : Hp} : ∀ {vs : List (Str × V)} {ds : List (Str × D)}, Rfs K F vs ds → Rfs K F vs.reverse ds.reverse
  | _, _, .nil => .nil
  | _, _, .cons r rs => by
    rw [List.reverse_cons, List.reverse_cons]
    exact (Rfs.reverse rs).append (.cons r .nil)
def pRaise (C : Addr) (fns : List Str) (p : PAs) : PSt := fun Z e => p e (fun as e1 => ∃ ds, resL e1 as = some ds ∧ ds.length = fns.length ∧ (∀ d ∈ ds, OkD d) ∧ Z.ex ⟨C, (fns.zip ds).reverse⟩ e1) Z.ex
theorem ss_raise {X : Cx} {W : WX} {x : Str} {C fI : Addr} {k : Nat} {fd : FuncData} {ps fns : List Str} {e : Expr} {es : List Expr} {p p' pos : Pos} {pa : PAs} (hc : X.calm = true) (tk : Takes X W) (T : OexC X.K C) (iC : PySem.W.findIn X.K (.ref C) "__init__" = some (some (.ref fI))) (tI : PySem.W.typeIn X.K (.ref fI) = some (.type "function"))
    (F1 : FnOk X.prog X.w X.K X.mg X.base (L2.CX X.prog X.w) k fI fd ps (spIni C fns)) (hr : Room (k + 1) X.A) (hb : Binds X.K fd ps []) (hg : Gl X x) (hm : X.mg x = some (.ref C)) (hn : fns.length ≤ 900) (ha : SA X W (e :: es) pa)
    (hdb : (x == ("__debug__" : Str)) = false := by decide) (he : starEach (e :: es) X.env = (false, eval e X.env) :: starEach es X.env := by rfl) (hpl : (backTo pos (starEach es X.env)).any (·.1) = false := by rfl) :
    SS X W (.Raise (some (.Call (.Name x p) (e :: es) [] pos)) none p') (pRaise C fns pa) := by
  have hmk := pmk_oex (dvs := []) (ds := []) (p := p) (pos := pos) T iC tI F1 hr hb .nil passL hg hm ha.run hdb he hpl
  refine ⟨(ps_raise (pos := p') hc tk hmk).weak fun Dn σ H ⟨c, F, en, S, q⟩ => ?_, fun Z Z' e hl q => ?_⟩
  · unfold tMkO
    refine tM.go ha.mono S q (fun as e1 F1 H1 vs S1 r1 k1 => ?_) (fun x e1 F1 H1 cls d S1 r1 k1 => k1 F1 H1 σ cls d (S1.back S.gr0) r1)
    obtain ⟨ds, h1, h2, h3, h4⟩ := k1
    obtain ⟨rp, okv⟩ := resL_ok S1 r1 h1 h3
    have hvl : vs.length = fns.length := by rw [rp.length, h2]
    refine ⟨by omega, fun a hna => ?_⟩
    refine ⟨a, vs ++ [], rfl, by simpa using hvl, fun v hv => okv v (by simpa using hv), upd_same, fun H2 d hd ne e1a e1d eo => ?_⟩
    have hd1 : H1 d = none := by rw [upd_ne ne] at hd; exact hd
    refine ⟨rfl, d, (fns.zip vs).reverse, e1a, by rw [List.append_nil] at e1d; exact e1d, hd1, ?_⟩
    have eH : upd (del H2 a) d (.xd (fns.zip vs).reverse) = upd H1 d (.xd (fns.zip vs).reverse) := by
      funext b
      by_cases hb : b = d
      · rw [hb, upd_same, upd_same]
      · rw [upd_ne hb, upd_ne hb]
        by_cases hba : b = a
        · rw [hba, del_same, hna]
        · rw [del_ne hba, eo b hba hb, upd_ne hba]
    rw [eH]
    exact h4 _ _ σ _ _ ((S1.back S.gr0).leak hd1) ⟨rfl, d, _, rfl, upd_same, (rfs_zip rp).reverse, S1.frNone hd1⟩
  · refine ha.mono _ _ _ _ _ (fun as e1 ⟨ds, h1, h2, h3, h4⟩ => ⟨ds, h1, h2, h3, hl.ex _ _ h4⟩) (fun x e1 k => hl.ex _ _ k) q
end PW
set_option Elab.async false
set_option linter.all false
set_option maxRecDepth 100000
set_option maxHeartbeats 4000000
namespace PW
open PySem PySem.Spec PyProof.Rows L2
/-! ### try: body, except C as n: suite, several clauses -/
abbrev Cl := Value × Nat × (Addr → Value → Option Addr → TS)
def wManyA (K : PySem.W.Frag) (Wout : WX) (D : Ends) : List Cl → WX
  | [] => Wout
  | (c, i, ts) :: r => fun cls d σ H => ∃ b, PySem.W.exmOne K cls c = some b ∧
      (b = true → ∀ a, H a = none → ts a cls d { nx := fun σ' H' => D.nx (σ'.set i none) H', rt := D.rt, bk := fun σ' H' => D.bk (σ'.set i none) H', ct := fun σ' H' => D.ct (σ'.set i none) H' } (σ.set i (some (.ref a))) H) ∧ (b = false → wManyA K Wout D r cls d σ H)
inductive HdsA (X : Cx) : List ExceptHandler → List Cl → Prop
  | nil : HdsA X [] []
  | cons {x n : Str} {i : Nat} {c : Value} {ts : Addr → Value → Option Addr → TS} {b₀ : Stmt} {suite : List Stmt} {np pos' : Pos} {hds : List ExceptHandler} {l : List Cl} (hc : Names X x c) (hi : X.N[i]? = some n) (hln : X.env.kindOf n = some .local)
      (hsu : ∀ (a : Addr) (oe : Obj) (cls : Value) (d : Option Addr) (pn : List (Addr × Obj)), Zc cls d oe → (∃ vs, oe.data = .fields vs) → PSs (X.suite a ((a, oe) :: pn)) (b₀ :: suite) (ts a cls d)) (r : HdsA X hds l) :
      HdsA X (.ExceptHandler (some (.Name x np)) (some n) (b₀ :: suite) pos' :: hds) ((c, i, ts) :: l)
section
variable {X : Cx} {body : List Stmt} {h₀ : ExceptHandler} {hds : List ExceptHandler} {l : List Cl} {pos : Pos} {tb : WX → TS} {Wout : WX}
theorem ps_try_manyA (hs : X.stack = X.env :: X.outer) (hf : X.env.frame = some X.env.locals) (hN : X.N.Nodup) (tk : Takes X Wout)
    (hb : ∀ (W : WX) (pn : List (Addr × Obj)) (xe : Value → Shared → Prop), Takes (X.tr pn xe) W → PassesOwn (model X.prog X.w) X.A X.env xe → PSs (X.tr pn xe) body (tb W))
    (hh : HdsA X (h₀ :: hds) l) : PS X (.Try body (h₀ :: hds) [] [] pos) (fun D σ H => tb (wManyA X.K Wout D l) D σ H) := by
  refine ⟨fun pins s σ H D I h => ?_⟩
  have ok := I.ok
  have hfr : X.A.frames = some (X.env :: X.outer) := by rw [ok.frames, hs]
  refine wpAny_Try_except ?_
  refine wpAny_mono ((hb (wManyA X.K Wout D l) (X.pn ++ pins) (fun e s₁ => wpAny (model X.prog X.w) X.A (noteFrame e X.env) (fun _ s₂ => wpAny (model X.prog X.w) X.A (setFlight e none) (fun _ s₃ =>
    wpAny (model X.prog X.w) X.A (handleBy e X.env (h₀ :: hds)) (SP X pins D) X.xe s₃) X.xe s₂) X.xe s₁) (fun u s' xx => ?_) PassesOwn.looking).run [] s σ H D (I.toTry _) h) (fun f s1 hsp => ?_) (fun e s1 he => he)
  · -- the catch
    obtain ⟨a, B, sI, pins', σ', H', cls, d, rfl, J', nb, up, sky, na, os, ag, w⟩ := xx
    have J : L2.Inv X pins σ' H' sI := J'.ofTry ok
    have sky' : Sky B (X.env :: X.outer) a (Zc cls d) X.env.locals s'.heap := by rw [← hs]; exact sky
    show wpAny (model X.prog X.w) X.A (noteFrame (.ref a) X.env) _ _ _
    refine Sky.land Zc.steady hfr hf sky' fun h3 fl3 up3 => ?_
    have J3 : L2.Inv X pins σ' H' { s' with heap := h3 } := J.landed nb fl3.1 (up.trans up3) os ag
    obtain ⟨oe3, vs3, he3, hz3, hd3⟩ := fl3.there
    have notFr : ∀ {h : Heap} {o : Obj} {vs : Array Value}, h.FunFrames B (X.env :: X.outer) → h.get? a = some o → o.data = .fields vs → a ∉ frs (X.env :: X.outer) := fun {h o vs} ff e dd hm => by
      obtain ⟨_, o', e', hnf⟩ := ff.mem hm
      rw [e] at e'; cases e'
      exact hnf _ dd
    have nfr := notFr fl3.2.2.1 he3 hd3
    have nL : a ≠ X.env.locals := fun z => nfr (List.mem_filterMap.mpr ⟨X.env, List.mem_cons_self, by rw [hf, z]⟩)
    have nF : a ∉ X.fs := fun hm => by
      obtain ⟨e, he, q⟩ := List.mem_filterMap.mp hm
      exact nfr (List.mem_filterMap.mpr ⟨e, List.mem_cons_of_mem _ he, q⟩)
    have S3 := J3.suite he3 hd3 na nL nF
    have go : ∀ {hds' : List ExceptHandler} {l' : List Cl}, HdsA X hds' l' → wManyA X.K Wout D l' cls d σ' H' →
        wpAny (model X.prog X.w) X.A (handleBy (.ref a) X.env hds') (SP X pins D) X.xe { s' with heap := h3 } := by
      intro hds' l' hk
      induction hk with
      | nil =>
        intro w
        refine wpAny_handleBy_nil ?_
        obtain ⟨k1, k2, k3, oe, vs, T, oT, ts', he, hz, hd, h1, hr⟩ := id fl3
        unfold PySem.passOn
        refine wpAny_bind (wpAny_field he hd h1 ?_)
        rw [if_neg (show ¬ ((Value.ref T == Value.none) = true) from by simp)]
        have fin : wpAny (model X.prog X.w) X.A (setFlight (.ref a) X.env.frame) (fun _ s4 => wpAny (model X.prog X.w) X.A (throw (.ref a) : Sem Flow) (SP X pins D) X.xe s4) X.xe { s' with heap := h3 } := by
          rw [hf]
          refine HandSPX.setFlight_upZ fl3 fun h4 hh4 up4 => wpAny_throw (tk _ _ ?_)
          exact ⟨a, B, sI, pins, σ', H', cls, d, rfl, J, nb, (up.trans up3).trans up4, .inr (.inr (by rw [hs]; exact hh4)), na, os, ag, w⟩
        first
          | exact wpAny_bind (wpAny_pure (wpAny_bind fin))
          | exact wpAny_bind fin
      | @cons x n i c ts b₀ suite np pos' hds2 l2 hc hi hln hsu r ih =>
        intro w
        have hloc : Loc X.env.scope n := .inl hln
        obtain ⟨b, hb1, hyes, hno⟩ := w
        refine wpAny_handleBy_cons (codeAny_handlers_test ?_) (by intro q; cases q)
        have LT : PySem.W.Looks (model X.prog X.w) h3 (typeOf (.ref a)) cls := fun A Q E s k q => wpAny_typeOf_ref (k _ _ he3) (by rw [hz3.1]; exact q)
        have LM := PySem.W.exm_one (M := model X.prog X.w) (J3.kIn) LT hb1
        have test : ∀ {Q : Value → Shared → Prop} {E : Value → Shared → Prop}, Q c { s' with heap := h3 } → wpAny (model X.prog X.w) (X.A.mark (some (.ref a))) (eval (.Name x np) X.env) Q E { s' with heap := h3 } := fun {Q E} q => by
          obtain ⟨hg, hdbg, hm | ⟨hm, hv, hnn⟩⟩ := hc
          · exact ld_glob (X := X.suite a ((a, oe3) :: (X.pn ++ pins))) S3 hg hm q hdbg
          · exact ld_blt (X := X.suite a ((a, oe3) :: (X.pn ++ pins))) S3 hg hm hv q hnn hdbg
        refine test (LM.here ?_)
        cases b with
        | true =>
          refine codeAny_handlers_suite_as ?_
          refine HandSPX.lands_againZ fl3 fun h4 fl4 up4 => ?_
          have J4 : L2.Inv X pins σ' H' { s' with heap := h4 } := J.landed nb fl4.1 ((up.trans up3).trans up4) os ag
          obtain ⟨oe4, vs4, he4, hz4, hd4⟩ := fl4.there
          have S4 := J4.suite he4 hd4 na nL nF
          refine store_ok (X := X.suite a ((a, oe4) :: (X.pn ++ pins))) (v := .ref a) S4 hN hi hloc rfl (fun s5 S5 => ?_) (.inr hln)
          refine wpAny_mono ((hsu a oe4 cls d (X.pn ++ pins) hz4 ⟨_, hd4⟩).run [] s5 _ H' _ S5 (hyes rfl a na)) (fun f s6 hsp => ?_) (fun _ _ z => False.elim z)
          have end_ : ∀ {σ6 : L2.St} {H6 : Hp} {Q : Shared → Prop}, L2.Inv (X.suite a ((a, oe4) :: (X.pn ++ pins))) [] σ6 H6 s6 → (∀ s7, L2.Inv X pins (σ6.set i none) H6 s7 → Q s7) →
              wpAny (model X.prog X.w) X.A (do bindName X.env n .none; unbindBehindTheSuite X.env n pos') (fun _ s7 => Q s7) X.xe s6 := fun {σ6 H6 Q} S6 hq => gone_ok (S6.unsuite ok) hN hi hln hq
          cases f with
          | next =>
            obtain ⟨σ6, H6, S6, q6⟩ := hsp
            exact end_ S6 fun s7 J7 => ⟨_, _, J7, q6⟩
          | brk =>
            obtain ⟨σ6, H6, S6, q6⟩ := hsp
            exact end_ S6 fun s7 J7 => ⟨_, _, J7, q6⟩
          | cont =>
            obtain ⟨σ6, H6, S6, q6⟩ := hsp
            exact end_ S6 fun s7 J7 => ⟨_, _, J7, q6⟩
          | ret u =>
            obtain ⟨v6, σ6, H6, S6, r6, q6⟩ := hsp
            exact end_ S6 fun s7 J7 => ⟨_, _, _, J7, r6, q6⟩
        | false =>
          show wpAny _ X.A (handleBy (.ref a) X.env hds2) _ _ _
          exact ih (hno rfl)
    exact go hh w
  · cases f with
    | next =>
      obtain ⟨σ', H', J', q⟩ := hsp
      exact wpAny_execs_nil ⟨σ', H', J'.ofTry ok, q⟩
    | brk =>
      obtain ⟨σ', H', J', q⟩ := hsp
      exact ⟨σ', H', J'.ofTry ok, q⟩
    | cont =>
      obtain ⟨σ', H', J', q⟩ := hsp
      exact ⟨σ', H', J'.ofTry ok, q⟩
    | ret u =>
      obtain ⟨v, σ', H', J', r, q⟩ := hsp
      exact ⟨v, σ', H', J'.ofTry ok, r, q⟩
end
/-! ### by data -/
/-- a clause: its class's table, its name's slot, its suite -/
structure PCl where
  tab : Addr → Option Bool
  i : Nat
  su : Addr → Value → Option Addr → PSt
def hMany : List PCl → PEnds → Er → Env → Prop
  | [], Z, x, e => Z.ex x e
  | q :: r, Z, x, e => ∃ b, q.tab x.C = some b ∧
      (b = true → ∀ a dd, stO e q.i (.fz (.xr a dd x.C x.fs)) (q.su a (.ref x.C) (some dd) { nx := fun e' => Z.nx (e'.set q.i .un), rt := Z.rt, ex := fun _ _ => False, bk := fun e' => Z.bk (e'.set q.i .un), ct := fun e' => Z.ct (e'.set q.i .un) })) ∧
      (b = false → hMany r Z x e)
def slotFree (i : Nat) (e : Env) : Prop := match e[i]? with
  | some (.fz _) => True
  | some .un => True
  | _ => False
/-- the clause's name must not have become a list -/
def hOk (i : Nat) (Z : PEnds) : PEnds := { Z with nx := fun e' => slotFree i e' ∧ Z.nx (e'.set i .un), bk := fun e' => slotFree i e' ∧ Z.bk (e'.set i .un), ct := fun e' => slotFree i e' ∧ Z.ct (e'.set i .un), ex := fun _ _ => False }
def hManyA : List PCl → PEnds → Er → Env → Prop
  | [], Z, x, e => Z.ex x e
  | q :: r, Z, x, e => ∃ b, q.tab x.C = some b ∧
      (b = true → ∀ a dd, stO e q.i (.fz (.xr a dd x.C x.fs)) (q.su a (.ref x.C) (some dd) (hOk q.i Z))) ∧ (b = false → hManyA r Z x e)
def pTry (cl : List PCl) (p : PSt) : PSt := fun Z e => p { Z with ex := fun x e' => hManyA cl Z x e' } e
theorem hOk_le {i : Nat} {Z Z' : PEnds} (h : Z.le Z') : (hOk i Z).le (hOk i Z') := ⟨fun e k => ⟨k.1, h.nx _ k.2⟩, h.rt, fun _ _ k => k, fun e k => ⟨k.1, h.bk _ k.2⟩, fun e k => ⟨k.1, h.ct _ k.2⟩⟩
theorem StR.drop {K : PySem.W.Frag} {c : PCx} {F H : Hp} {σ : L2.St} {e : Env} (S : StR K c F H σ e) {i : Nat} (h : slotFree i e) : StR K c F H (σ.set i none) (e.set i .un) := by
  unfold slotFree at h
  cases ei : e[i]? with
  | none => rw [ei] at h; exact h.elim
  | some o =>
  have hno : (∀ an ds, o ≠ .ow an ds) ∧ ∀ a ds, o ≠ .ce a ds := by
    rw [ei] at h
    cases o <;> first | exact h.elim | exact ⟨(fun _ _ z => nomatch z), (fun _ _ z => nomatch z)⟩
  have eself : (e.set i .un)[i]? = some .un := set_self ei
  have own : ∀ j q, Owns (σ.set i none) (e.set i .un) j q → i ≠ j ∧ Owns σ e j q := fun j q o' => by
    unfold Owns at o'
    by_cases z : i = j
    · subst z; rw [eself] at o'; rcases o' with ⟨⟨_, _, k⟩, _⟩ | ⟨_, k⟩ <;> cases k
    · rw [set_other z, set_other z] at o'; exact ⟨z, o'⟩
  refine ⟨by simp only [List.length_set]; exact S.len, S.gr0, S.gr, fun j d k => ?_, fun j a d k => ?_, fun j w k => ?_, fun j a d k => ?_, fun j o k h => ?_, fun j k q o1 o2 => S.ap j k q (own j q o1).2 (own k q o2).2, S.fr⟩
  · by_cases z : i = j
    · subst z; rw [eself] at k; cases k
    · rw [set_other z] at k ⊢; exact S.fz j d k
  · by_cases z : i = j
    · subst z; rw [eself] at k; cases k
    · rw [set_other z] at k ⊢; exact S.ow j a d k
  · obtain ⟨⟨d, e1⟩, e2⟩ := S.an j w k
    have z : i ≠ j := fun z => by subst z; rw [ei] at e1; exact hno.1 _ _ (Option.some.inj e1)
    exact ⟨⟨d, by rw [set_other z]; exact e1⟩, by rw [set_other z]; exact e2⟩
  · by_cases z : i = j
    · subst z; rw [eself] at k; cases k
    · rw [set_other z] at k; rw [List.length_set]; exact S.ce j a d k
  · rw [List.length_set] at h
    by_cases z : i = j
    · subst z
      obtain ⟨a, d, e'⟩ := S.hi i _ ei h
      exact (hno.2 _ _ e').elim
    · rw [set_other z] at k; exact S.hi j o k h
/-- the dict of a caught error is frozen -/
theorem StR.know {K : PySem.W.Frag} {c : PCx} {F H : Hp} {σ : L2.St} {e : Env} (S : StR K c F H σ e) {dd : Addr} {fs : List (Str × V)} (h : H dd = some (.xd fs)) (hfr : c.Fr dd = none) : StR K c (upd F dd (.xd fs)) H σ e ∧ Same F (upd F dd (.xd fs)) := by
  have g : Same F (upd F dd (.xd fs)) := fun b o k => by
    by_cases z : b = dd
    · subst z
      have := S.gr _ _ k
      rw [h] at this; cases this
      exact upd_same
    · rw [upd_ne z]; exact k
  have nown : ∀ {p : Addr} {vs : List V}, H p = some (.lst vs) → p ≠ dd := fun {p vs} k z => by rw [z, h] at k; cases k
  refine ⟨⟨S.len, S.gr0.trans g, fun b o k => ?_, fun i d k => ?_, fun i an ds k => ?_, S.an, fun i a ds k => ?_, S.hi, S.ap, fun b o k => ?_⟩, g⟩
  · by_cases z : b = dd
    · subst z; rw [upd_same] at k; cases k; exact h
    · rw [upd_ne z] at k; exact S.gr b o k
  · obtain ⟨v, k1, k2⟩ := S.fz i d k
    exact ⟨v, k1, k2.mono g⟩
  · obtain ⟨p, vs, k1, k2, k3, k4, k5⟩ := S.ow i an ds k
    exact ⟨p, vs, k1, by rw [upd_ne (nown k4)]; exact k2, k3, k4, k5.mono g⟩
  · obtain ⟨k1, k2, k3, vs, k4, k5⟩ := S.ce i a ds k
    exact ⟨k1, by rw [upd_ne (nown k4)]; exact k2, k3, vs, k4, k5.mono g⟩
  · obtain ⟨k1, k2⟩ := S.fr b o k
    have z : b ≠ dd := fun z => by rw [z, hfr] at k; cases k
    exact ⟨by rw [upd_ne z]; exact k1, k2⟩
/-- the clauses of the text and what they are by data -/
inductive HdsD (X : Cx) : List ExceptHandler → List PCl → Prop
  | nil : HdsD X [] []
  | cons {x n : Str} {q : PCl} {c : Value} {b₀ : Stmt} {suite : List Stmt} {np pos' : Pos} {hds : List ExceptHandler} {l : List PCl} (hc : Names X x c) (hi : X.N[q.i]? = some n) (hln : X.env.kindOf n = some .local)
      (ht : ∀ C b, q.tab C = some b → PySem.W.exmOne X.K (.ref C) c = some b)
      (hsu : ∀ (a : Addr) (oe : Obj) (C : Addr) (d : Option Addr) (pn : List (Addr × Obj)), q.tab C = some true → Zc (.ref C) d oe → (∃ vs, oe.data = .fields vs) → SSs (X.suite a ((a, oe) :: pn)) W0 (b₀ :: suite) (q.su a (.ref C) d)) (r : HdsD X hds l) :
      HdsD X (.ExceptHandler (some (.Name x np)) (some n) (b₀ :: suite) pos' :: hds) (q :: l)
theorem hManyA_mono {X : Cx} {hds : List ExceptHandler} {cl : List PCl} (h : HdsD X hds cl) {Z Z' : PEnds} (hl : Z.le Z') : ∀ x e, hManyA cl Z x e → hManyA cl Z' x e := by
  induction h with
  | nil => exact fun x e k => hl.ex x e k
  | @cons x n q c b₀ suite np pos' hds l hc hi hln ht hsu r ih =>
    rintro x e ⟨b, h1, h2, h3⟩
    exact ⟨b, h1, fun hb a dd => stO_mono (fun e' k => (hsu a ⟨.ref x.C, some dd, .fields #[], #[]⟩ x.C (some dd) [] (by rw [h1, hb]) ⟨rfl, rfl⟩ ⟨_, rfl⟩).mono _ _ _ (hOk_le hl) k) (h2 hb a dd), fun hb => ih _ _ (h3 hb)⟩
/-- what the clauses of the hand layer are -/
inductive ClsOf (X : Cx) : List PCl → List Cl → Prop
  | nil : ClsOf X [] []
  | cons {q : PCl} {c : Value} {l : List PCl} {m : List Cl} (ht : ∀ C b, q.tab C = some b → PySem.W.exmOne X.K (.ref C) c = some b) (hm : ∀ a C d, q.tab C = some true → MonoS (q.su a (.ref C) d)) (r : ClsOf X l m) :
      ClsOf X (q :: l) ((c, q.i, fun a cls d D σ H => (∃ C, cls = .ref C ∧ q.tab C = some true) ∧ tS X.K W0 (q.su a cls d) D σ H) :: m)
theorem HdsD.of {X : Cx} {hds : List ExceptHandler} {cl : List PCl} (h : HdsD X hds cl) : ∃ m, HdsA X hds m ∧ ClsOf X cl m := by
  induction h with
  | nil => exact ⟨[], .nil, .nil⟩
  | @cons x n q c b₀ suite np pos' hds l hc hi hln ht hsu r ih =>
    obtain ⟨m, h1, h2⟩ := ih
    refine ⟨_, .cons hc hi hln (fun a oe cls d pn z f => ⟨fun pins s σ H D I k => ?_⟩) h1, .cons ht (fun a C d hC => (hsu a ⟨.ref C, d, .fields #[], #[]⟩ C d [] hC ⟨rfl, rfl⟩ ⟨_, rfl⟩).mono) h2⟩
    obtain ⟨⟨C, rfl, hC⟩, k⟩ := k
    exact (hsu a oe C d pn hC z f).run.run pins s σ H D I k
theorem wMany_of {X : Cx} {W : WX} {c : PCx} {D : Ends} {Z : PEnds} (hZ : ∀ x e F H σ cls d, Z.ex x e → StR X.K c F H σ e → ErR X.K c.Fr F H cls d x → W cls d σ H) (hn : ∀ e F H σ, Z.nx e → StR X.K c F H σ e → D.nx σ H) (hr : ∀ r e F H σ v, Z.rt r e → StR X.K c F H σ e → OvR X.K c F H σ e v r → D.rt v H)
    (hb : ∀ e F H σ, Z.bk e → StR X.K c F H σ e → D.bk σ H) (hct : ∀ e F H σ, Z.ct e → StR X.K c F H σ e → D.ct σ H) {x : Er} {e : Env} {F H : Hp} {σ : L2.St} {cls : Value} {d : Option Addr} (S : StR X.K c F H σ e) (he : ErR X.K c.Fr F H cls d x) :
    ∀ {cl : List PCl} {m : List Cl}, ClsOf X cl m → hManyA cl Z x e → wManyA X.K W D m cls d σ H := by
  intro cl m h
  induction h with
  | nil => exact fun k => hZ x e F H σ cls d k S he
  | @cons q c' l m ht hm r ih =>
    rintro ⟨b, h1, h2, h3⟩
    obtain ⟨rfl, dd, vs, rfl, k1, k2, k3⟩ := id he
    refine ⟨b, ht _ _ h1, fun hbb a hna => ?_, fun hbb => ih (h3 hbb)⟩
    obtain ⟨S1, g⟩ := S.know k1 k3
    obtain ⟨e', S2, q2⟩ := S1.stO (v := .ref a) (r := .fz (.xr a dd x.C x.fs)) (.xr upd_same (k2.mono g)) (h2 hbb a dd)
    refine ⟨⟨x.C, rfl, by rw [h1, hbb]⟩, c, _, e', S2, hm _ _ _ (by rw [h1, hbb]) _ _ _ ?_ q2⟩
    exact ⟨fun e1 k F' H' σ' S' => hn _ _ _ _ k.2 (S'.drop k.1), fun r1 e1 k F' H' σ' v S' o => hr _ _ _ _ _ _ k S' o, fun _ _ k => k.elim, fun e1 k F' H' σ' S' => hb _ _ _ _ k.2 (S'.drop k.1), fun e1 k F' H' σ' S' => hct _ _ _ _ k.2 (S'.drop k.1)⟩
theorem ss_try {X : Cx} {W : WX} {body : List Stmt} {h₀ : ExceptHandler} {hds : List ExceptHandler} {cl : List PCl} {pos : Pos} {p : PSt} (hs : X.stack = X.env :: X.outer) (hf : X.env.frame = some X.env.locals) (hN : X.N.Nodup) (tk : Takes X W)
    (hb : ∀ (W : WX) (pn : List (Addr × Obj)) (xe : Value → Shared → Prop), Takes (X.tr pn xe) W → PassesOwn (model X.prog X.w) X.A X.env xe → SSs (X.tr pn xe) W body p)
    (hh : HdsD X (h₀ :: hds) cl) : SS X W (.Try body (h₀ :: hds) [] [] pos) (pTry cl p) := by
  have hm : MonoS p := (hb (fun _ _ _ _ => False) [] (fun _ _ => False) takes_none5 PassesOwn.never).mono
  obtain ⟨m, h1, h2⟩ := hh.of
  refine ⟨(ps_try_manyA (pos := pos) (tb := fun W => tS X.K W p) hs hf hN tk (fun W pn xe t po => (hb W pn xe t po).run) h1).weak fun D σ H ⟨c, F, e, S, k⟩ => ?_, fun Z Z' e hl k => ?_⟩
  · refine ⟨c, F, e, S, hm _ _ _ ?_ k⟩
    refine ⟨fun e' k F' H' σ' S' => k F' H' σ' S', fun r e' k F' H' σ' v S' o => k F' H' σ' v S' o, fun x e' k F' H' σ' cls d S' he => ?_, fun e' k F' H' σ' S' => k F' H' σ' S', fun e' k F' H' σ' S' => k F' H' σ' S'⟩
    refine wMany_of (Z := _) ?_ ?_ ?_ ?_ ?_ S' he h2 k
    · exact fun x e F H σ cls d k S he => k F H σ cls d S he
    · exact fun e F H σ k S => k F H σ S
    · exact fun r e F H σ v k S o => k F H σ v S o
    · exact fun e F H σ k S => k F H σ S
    · exact fun e F H σ k S => k F H σ S
  · exact hm { Z with ex := fun x e' => hManyA cl Z x e' } { Z' with ex := fun x e' => hManyA cl Z' x e' } e ⟨hl.nx, hl.rt, fun x e k => hManyA_mono hh hl x e k, hl.bk, hl.ct⟩ k
end PW
namespace PW
open PySem PySem.Spec PyProof.Rows L2
theorem hds_cons {X : Cx} {x n : Str} {tab : Addr → Option Bool} {i : Nat} (su : Addr → Value → Option Addr → PSt) {c : Value} {b₀ : Stmt} {suite : List Stmt} {np pos' : Pos} {hds : List ExceptHandler} {l : List PCl} (hc : Names X x c) (hi : X.N[i]? = some n) (hln : X.env.kindOf n = some .local)
      (ht : ∀ C b, tab C = some b → PySem.W.exmOne X.K (.ref C) c = some b)
      (hsu : ∀ (a : Addr) (oe : Obj) (C : Addr) (d : Option Addr) (pn : List (Addr × Obj)), tab C = some true → Zc (.ref C) d oe → (∃ vs, oe.data = .fields vs) → SSs (X.suite a ((a, oe) :: pn)) W0 (b₀ :: suite) (su a (.ref C) d)) (r : HdsD X hds l) :
      HdsD X (.ExceptHandler (some (.Name x np)) (some n) (b₀ :: suite) pos' :: hds) (⟨tab, i, su⟩ :: l) := .cons (q := ⟨tab, i, su⟩) hc hi hln ht hsu r
end PW
set_option Elab.async false
set_option linter.all false
set_option maxRecDepth 100000
set_option maxHeartbeats 4000000
namespace PySem.W
open PySem PySem.Spec PySem.Calls PyProof.Rows
section
variable {prog : Program} {w : World} {A : Around} {E : Value → Shared → Prop} {s : Shared} {K : Frag} {x D : Addr} {ox : Obj} {od : Option Obj}
theorem pw_findObj_data {C : Addr} {name : Str} {a g : Value} (hc : (clsIn K C).isSome = true) (ha : findIn K (.ref C) name = some (some a)) (hg : specialIn K a "__get__" = some (some g)) (ht : takesIn K a = some true) : findObj K C od name = some (.bind g a) := by
  obtain ⟨cd, hc⟩ := Option.isSome_iff_exists.mp hc
  unfold findObj
  rw [hc, Option.bind_some, ha, Option.bind_some]
  simp [hg, ht]
theorem pw_classE {Q : Option Value → Shared → Prop} (hga : findIn K (.ref D) "__getattribute__" = some (some (.builtin "BaseException.__getattribute__"))) (hgt : findIn K (.ref D) "__getattr__" = some none) (hsub : subIn K (.ref D) (.type "BaseException") = some true)
    (hdct : hasDictIn K D = true) (ha : findIn K (.ref D) "__class__" = some (some (.builtin "object.__class__")))
    (hn : specialIn K (.builtin "object.__class__") "__get__" = some (some (.builtin "getset_descriptor.__get__"))) (htk : takesIn K (.builtin "object.__class__") = some true) (hm : mroIn K D (.type "object") = some true)
    (X : K.In s.heap) (I : InstAt s.heap x ox D od) (h : Q (some (.ref D)) { s with toks := s.toks + 1 }) : wpAny (model prog w) A (getAttr? (.ref x) "__class__") Q E s := by
  have hf : findObj K D od "__class__" = some (.bind (.builtin "getset_descriptor.__get__") (.builtin "object.__class__")) := pw_findObj_data (by obtain ⟨cd, hc, _⟩ := any_some hdct; rw [hc]; rfl) ha hn htk
  obtain ⟨hp, g, d, t, os⟩ := s
  have L0 := I.type (M := model prog w)
  have L1 := looks_findIn (M := model prog w) X hga
  have L2 := looks_findIn (M := model prog w) X hgt
  have L3 := looks_find (M := model prog w) X I hf
  have sub : Looks (model prog w) hp (isInstance (.ref x) (.type "BaseException")) true := L0.andThen (looks_subIn X hsub)
  have hx0 : (false && onTheHeap (Value.builtin "BaseException.__getattribute__")) = false := rfl
  have hx2 : (Value.builtin "BaseException.__getattribute__" == Value.builtin "object.__getattribute__") = false := by decide +kernel
  have hx1 : (onTheHeap (Value.ref D) && Value.builtin "BaseException.__getattribute__" == Value.builtin "object.__getattribute__") = false := by rw [hx2]; rfl
  unfold getAttr? getAttrBy? getAttrBy
  refine wpAny_bind (wpAny_mkText (wpAny_bind (wpAny_attempt (wpAny_holding (wpAny_bind (L0.at (wpAny_bind (L1.at ?_))))))))
  show wpAny _ _ (if (onTheHeap (Value.ref D) && Value.builtin "BaseException.__getattribute__" == Value.builtin "object.__getattribute__") = true then _ else _) _ _ _
  rw [hx1, if_neg Bool.false_ne_true]
  unfold getAttrByItsOwn hookBefore
  refine wpAny_bind ?_
  rw [if_pos (show onTheHeap (Value.ref D) = true from rfl)]
  refine L2.at ?_
  refine wpAny_bind (wpAny_attempt (wpAny_holding ?_))
  unfold callGetattribute
  rw [hx0, if_neg Bool.false_ne_true]
  unfold boundAndCalled
  rw [PySem.F.excAttr_ValueError.ga.bind (.ref x)]
  refine wpAny_bind (wpAny_pure ?_)
  show wpAny _ _ (call (.builtin "BaseException.__getattribute__") [.ref x, .str "__class__" t]) _ _ _
  refine wpAny_call (codeAny_call_builtin PySem.F.excAttr_ValueError.ga.plain PySem.F.entry_bexc_ga ?_)
  refine @check_slot (model prog w) _ _ ⟨hp, g, d, t + 1, os⟩ "BaseException.__getattribute__" "BaseException" "__getattribute__" (.ref x) [.str "__class__" t] [] _ (by decide +kernel) (by decide +kernel) sub (PySem.F.args_bexc_ga (.ref x) (.str "__class__" t)) ?_
  unfold Builtin.«object.__getattribute__»
  refine wpAny_bind (wpAny_of_eq (a := ((Value.ref x : Value), [Value.str "__class__" t])) (by first | rfl | (simp only [slotArgs]; rfl)) ?_)
  refine wpAny_bind (wpAny_pure (wpAny_bind (L0.at (wpAny_bind (L3.at ?_)))))
  show wpAny _ _ (holding [Value.builtin "object.__class__"] (call (.builtin "getset_descriptor.__get__") [.builtin "object.__class__", .ref x, .ref D]) >>= ret) _ _ _
  refine wpAny_bind (wpAny_holding (wpAny_call (class_get (s := ⟨hp, g, d, t + 1, os⟩) (ox := ox) (od := od) X I hm ?_)))
  refine wpAny_pure ?_
  show wpAny _ _ (handedOut (.ref D)) _ _ _
  rw [handedOut_of (v := .ref D) rfl]
  first
    | exact wpAny_pure (wpAny_pure h)
    | exact wpAny_pure h
    | exact wpAny_pure (wpAny_bind (wpAny_pure (wpAny_pure h)))
theorem pw_kitx_exc (hga : findIn K (.ref D) "__getattribute__" = some (some (.builtin "BaseException.__getattribute__"))) (hgt : findIn K (.ref D) "__getattr__" = some none) (hsub : subIn K (.ref D) (.type "BaseException") = some true) (hdct : hasDictIn K D = true) (ha : findIn K (.ref D) "__class__" = some (some (.builtin "object.__class__")))
    (hn : specialIn K (.builtin "object.__class__") "__get__" = some (some (.builtin "getset_descriptor.__get__"))) (htk : takesIn K (.builtin "object.__class__") = some true) (hm : mroIn K D (.type "object") = some true) :
    KitX K (.ref x) (.ref D) (fun h => InstAt h x ox D od) where
  ty := fun _ _ _ I => I.type
  it := fun _ _ X _ => by
    obtain ⟨cdD, hcD, _⟩ := any_some hdct
    unfold clsIn at hcD
    split at hcD
    · rename_i c' d' cd' sl' ho
      intro A' Q' E' s' k q
      unfold isType loadHead
      exact wpAny_bind (wpAny_loadPart (k _ _ (X _ _ ho)) (wpAny_pure q))
    · cases hcD
  ne := fun h tp dd its n sl X htp => by
    obtain ⟨cdD, hcD, _⟩ := any_some hdct
    refine Bool.eq_false_iff.mpr fun q => ?_
    have e : D = tp := Value.ref.inj (beq_iff_eq.mp q)
    subst e
    unfold clsIn at hcD
    split at hcD
    · rename_i c' d' cd' sl' ho
      have z := (X _ _ ho).symm.trans htp
      cases z
    · cases hcD
  ca := fun X I k => pw_classE hga hgt hsub hdct ha hn htk hm X I k
end
end PySem.W
namespace PW
open PySem PySem.Spec PyProof.Rows L2
/-- isinstance(e, c), isinstance(e, (c1, ..)): e the error that the suite holds -/
def rIsX (K : PySem.W.Frag) (a : Addr) (cls : Value) (d : Option Addr) : List V → Hp → VK → Prop := fun xs H Q => ∃ (c : V) (dd : Addr) (fs : List (Str × V)) (b : Bool), xs = [.ref a, c] ∧ d = some dd ∧ H dd = some (.xd fs) ∧
  ((∃ cv, ClsV c cv ∧ PySem.W.kitOne K cls cv = some b) ∨ ∃ tp cs us, c = .ref tp ∧ SqT K H tp cs ∧ Paired ClsV cs us ∧ PySem.W.kitAny K cls us = some b) ∧ Q (.bl b) H
theorem call_isX {X : Cx} {a : Addr} {oe : Obj} {cls : Value} {d : Option Addr} {pn : List (Addr × Obj)} {D : Addr} (C : ExcC X.K D) (ec : cls = .ref D) (hz : Zc cls d oe) (hf : ∃ vs, oe.data = .fields vs) : CallR (X.suite a ((a, oe) :: pn)) (.builtin "isinstance") (rIsX X.K a cls d) := by
  intro pins s σ H xs us Q I r h
  subst ec
  obtain ⟨c, dd, fs, b, rfl, rfl, hdd, hc, q⟩ := h
  obtain ⟨u1, u2, rfl, r1, r2⟩ := vals2 r
  cases (show u1 = Value.ref a from r1)
  obtain ⟨hget, _⟩ := I.pin (a, oe) (List.mem_append.mpr (.inl List.mem_cons_self))
  obtain ⟨vs, hv⟩ := hf
  have hx : ObjOk X.prog X.w H s.heap dd (.xd fs) := I.hok dd _ hdd
  obtain ⟨mA, hns, hr⟩ := hx
  obtain ⟨od, ho, hl⟩ := lookIn_ns hns
  have J : PySem.W.InstAt s.heap a oe D (some od) := ⟨hget, hz.1, by unfold PySem.W.notCls; rw [hv] <;> rfl, by rw [hz.2]; exact ho⟩
  have Z := PySem.W.pw_kitx_exc (x := a) (ox := oe) (od := some od) C.hg C.hk C.hs C.hd C.ha C.hn C.ht C.hm
  rcases hc with ⟨cv, k, e⟩ | ⟨tp, cs, ws, rfl, hT, k, e⟩
  · have e2 := k.eq r2
    subst e2
    exact PySem.W.kia_one Z I.kIn J e (fun z => nomatch z) fun tk => ⟨.bl b, H, I.tok tk, rfl, q⟩
  · cases (show u2 = Value.ref tp from r2)
    obtain ⟨its, rv, ⟨o, h1, h2, n, h3⟩, _⟩ := L2.Inv.tuple I hT
    have e3 := ClsV.all k rv
    subst e3
    obtain ⟨oc, od', dt, sl⟩ := o
    simp only at h2 h3
    subst h2 h3
    exact PySem.W.kia_tup Z I.kIn J h1 e (fun z => nomatch z) fun tk => ⟨.bl b, H, I.tok tk, rfl, q⟩
/-- the same by data; tb: what the class D of the error is, for each class -/
def anyTb (tb : D → Option Bool) : List D → Option Bool
  | [] => some false
  | c :: r => match tb c with
    | some true => match anyTb tb r with
      | some _ => some true
      | none => none
    | some false => anyTb tb r
    | none => none
def gIsX (tb : Addr → D → Option Bool) (a : Addr) (cls : Value) (d : Option Addr) : List D → (O → Prop) → Prop
  | [.xr a' dd C _, .tup cs], Q => a' = a ∧ cls = .ref C ∧ d = some dd ∧ ∃ b, anyTb (tb C) cs = some b ∧ Q (.fz (.bl b))
  | [.xr a' dd C _, .ref c], Q => a' = a ∧ cls = .ref C ∧ d = some dd ∧ ∃ b, tb C (.ref c) = some b ∧ Q (.fz (.bl b))
  | [.xr a' dd C _, .ty n], Q => a' = a ∧ cls = .ref C ∧ d = some dd ∧ ∃ b, tb C (.ty n) = some b ∧ Q (.fz (.bl b))
  | _, _ => False
/-- a class as data -/
inductive ClsD : D → V → Value → Prop where
  | ty (n : String) : ClsD (.ty n) (.ty n) (.type n)
  | own (C : Addr) : ClsD (.ref C) (.ref C) (.ref C)
theorem ClsD.v {d : D} {v : V} {u : Value} (h : ClsD d v u) : ClsV v u := by
  cases h with
  | ty n => exact .ty n
  | own C => exact .own C
/-- the table is right for the class cls -/
def TbOk (K : PySem.W.Frag) (cls : Value) (tb : D → Option Bool) : Prop := ∀ d b, tb d = some b → ∃ v u, ClsD d v u ∧ PySem.W.kitOne K cls u = some b
theorem ClsD.rp {K : PySem.W.Frag} {F : Hp} {d : D} {v w : V} {u : Value} (h : ClsD d v u) (r : Rp K F w d) : w = v := by
  cases h <;> cases r <;> rfl
theorem anyTb_ok {K : PySem.W.Frag} {F : Hp} {cls : Value} {tb : D → Option Bool} (T : TbOk K cls tb) : ∀ {cs : List D} {vs : List V} {b : Bool}, Rps K F vs cs → anyTb tb cs = some b → ∃ us, Paired ClsV vs us ∧ PySem.W.kitAny K cls us = some b
  | _, _, b, .nil, h => ⟨[], .nil, h⟩
  | d :: ds, v :: vs, b, .cons r rs, h => by
    unfold anyTb at h
    cases h1 : tb d with
    | none => rw [h1] at h; cases h
    | some b1 =>
      obtain ⟨v', u, k1, k2⟩ := T d b1 h1
      have e := k1.rp r
      subst e
      cases b1 with
      | true =>
        rw [h1] at h
        dsimp only at h
        cases h2 : anyTb tb ds with
        | none => rw [h2] at h; cases h
        | some b2 =>
          rw [h2] at h; cases h
          obtain ⟨us, q1, q2⟩ := anyTb_ok T rs h2
          exact ⟨u :: us, .cons k1.v q1, by unfold PySem.W.kitAny; rw [k2]⟩
      | false =>
        rw [h1] at h
        obtain ⟨us, q1, q2⟩ := anyTb_ok T rs h
        exact ⟨u :: us, .cons k1.v q1, by unfold PySem.W.kitAny; rw [k2]; exact q2⟩
theorem co_isX {K : PySem.W.Frag} {a D₀ : Addr} {d : Option Addr} {tb : Addr → D → Option Bool} (T : TbOk K (.ref D₀) (tb D₀)) : CallO K (rIsX K a (.ref D₀) d) (gIsX tb a (.ref D₀) d) where
  mono := fun x Q Q' hq k => by
    unfold gIsX at k ⊢
    split at k
    · obtain ⟨h1, h2, h3, b, h4, h5⟩ := k; exact ⟨h1, h2, h3, b, h4, hq _ h5⟩
    · obtain ⟨h1, h2, h3, b, h4, h5⟩ := k; exact ⟨h1, h2, h3, b, h4, hq _ h5⟩
    · obtain ⟨h1, h2, h3, b, h4, h5⟩ := k; exact ⟨h1, h2, h3, b, h4, hq _ h5⟩
    · exact k.elim
  run := fun c F H σ e vs x Q S hs k => by
    unfold gIsX at k
    split at k
    · obtain ⟨rfl, hh, rfl, b, h4, h5⟩ := k
      cases hh
      obtain ⟨v, w, rfl, hv, hw⟩ := hs.two
      cases hv.rp (fun _ e => nomatch e) with
      | xr g1 g2 =>
      obtain ⟨p, ws, rfl, q1, q2⟩ := hw.tup
      obtain ⟨us, r1, r2⟩ := anyTb_ok T q2 h4
      exact ⟨_, _, _, b, rfl, rfl, S.gr _ _ g1, .inr ⟨p, ws, us, rfl, sq_t S.gr q1, r1, r2⟩, h5 F H _ S.here (.bl b)⟩
    · obtain ⟨rfl, hh, rfl, b, h4, h5⟩ := k
      cases hh
      obtain ⟨v, w, rfl, hv, hw⟩ := hs.two
      cases hv.rp (fun _ e => nomatch e) with
      | xr g1 g2 =>
      obtain ⟨v', u, k1, k2⟩ := T _ _ h4
      rw [hw.refD]
      cases k1
      exact ⟨_, _, _, b, rfl, rfl, S.gr _ _ g1, .inl ⟨_, .own _, k2⟩, h5 F H _ S.here (.bl b)⟩
    · obtain ⟨rfl, hh, rfl, b, h4, h5⟩ := k
      cases hh
      obtain ⟨v, w, rfl, hv, hw⟩ := hs.two
      cases hv.rp (fun _ e => nomatch e) with
      | xr g1 g2 =>
      obtain ⟨v', u, k1, k2⟩ := T _ _ h4
      rw [hw.ty]
      cases k1
      exact ⟨_, _, _, b, rfl, rfl, S.gr _ _ g1, .inl ⟨_, .ty _, k2⟩, h5 F H _ S.here (.bl b)⟩
    · exact k.elim
/-- e.f, e the error that the suite holds -/
def pXf (a : Addr) (cls : Value) (d : Option Addr) (C : Addr) (n : Str) (p : PEx) : PEx := fun e Q E => p e (fun y e1 => match y with
  | .xr a' dd C' fs => a' = a ∧ cls = .ref C ∧ C' = C ∧ d = some dd ∧ ∃ z, fs.lookup n = some z ∧ Q z e1
  | _ => False) E
theorem sf_xf {X : Cx} {W : WX} {a C : Addr} {oe : Obj} {cls : Value} {d : Option Addr} {pn : List (Addr × Obj)} {e : Expr} {p : PEx} {pos : Pos} {n : Str} (T : XfC X.K C) (hno : PySem.W.findIn X.K (.ref C) n = some none)
    (hz : Zc cls d oe) (hf : ∃ vs, oe.data = .fields vs) (he : SF (X.suite a ((a, oe) :: pn)) W e p) (hb : attributeBase e n X.env (eval e X.env) = eval e X.env := by rfl) :
    SF (X.suite a ((a, oe) :: pn)) W (.Attribute e n pos) (pXf a cls d C n p) := by
  refine ⟨(pe_xf (pos := pos) T hno hz hf he.run hb).weak fun σ H Q ⟨c, F, en, S, q⟩ => ?_, fun en Q Q' E E' hq hE k => he.mono _ _ _ _ _ (fun y e1 k => ?_) hE k⟩
  · refine tM.go he.mono S q (fun y e1 F1 H1 v S1 r1 k1 => ?_) (fun x e1 F1 H1 cls d S1 r1 k1 => k1 F1 H1 cls d (S1.back S.gr0) r1)
    cases y <;> try exact k1.elim
    obtain ⟨h1, h2, h3, h4, z, h5, h6⟩ := k1
    have r1' : Rp X.K F1 v (.xr _ _ _ _) := r1
    cases r1' with
    | xr g1 g2 =>
    obtain ⟨w, l1, l2⟩ := g2.lookup h5
    exact ⟨by rw [h1], h2, _, _, w, h4, S1.gr _ _ g1, l1, h6 F1 H1 w (S1.back S.gr0) l2⟩
  · cases y <;> try exact k.elim
    obtain ⟨h1, h2, h3, h4, z, h5, h6⟩ := k
    exact ⟨h1, h2, h3, h4, z, h5, hq _ _ h6⟩
end PW
set_option Elab.async false
set_option linter.all false
set_option maxRecDepth 100000
set_option maxHeartbeats 4000000
namespace PW
open PySem PySem.Spec PyProof.Rows L2

/-! ### into a body and out of it -/
/-- what becomes of the parameters -/
def outP : List O → Env → List O
  | [], _ => []
  | .ow true _ :: as, o :: e => o :: outP as e
  | _ :: as, _ :: e => .un :: outP as e
  | _ :: as, [] => .un :: outP as []
def outsOf (args : List O) (N : Nat) (e : Env) : List O := outP args e ++ e.drop N
theorem outP_length : ∀ {args : List O} {e : Env}, (outP args e).length = args.length
  | [], _ => rfl
  | .ow true _ :: as, o :: e => by simp [outP, outP_length (args := as) (e := e)]
  | .ow true _ :: as, [] => by simp [outP, outP_length (args := as) (e := [])]
  | .ow false _ :: as, o :: e => by simp [outP, outP_length (args := as) (e := e)]
  | .ow false _ :: as, [] => by simp [outP, outP_length (args := as) (e := [])]
  | .un :: as, o :: e => by simp [outP, outP_length (args := as) (e := e)]
  | .un :: as, [] => by simp [outP, outP_length (args := as) (e := [])]
  | .fz _ :: as, o :: e => by simp [outP, outP_length (args := as) (e := e)]
  | .fz _ :: as, [] => by simp [outP, outP_length (args := as) (e := [])]
  | .ce _ _ :: as, o :: e => by simp [outP, outP_length (args := as) (e := e)]
  | .ce _ _ :: as, [] => by simp [outP, outP_length (args := as) (e := [])]
/-- an anchored one is what its slot holds, the others are let go -/
theorem outP_get : ∀ {args : List O} {e : Env} {i : Nat} {o : O}, (outP args e)[i]? = some o → o = .un ∨ ((∃ ds, args[i]? = some (.ow true ds)) ∧ e[i]? = some o)
  | [], _, _, _, h => by simp [outP] at h
  | .ow true ds :: as, x :: e, 0, o, h => by simp [outP] at h; subst h; exact .inr ⟨⟨ds, rfl⟩, rfl⟩
  | .ow true ds :: as, x :: e, i + 1, o, h => by simpa using outP_get (args := as) (e := e) (i := i) (by simpa [outP] using h)
  | .ow true ds :: as, [], 0, o, h => by simp [outP] at h; exact .inl h.symm
  | .ow true ds :: as, [], i + 1, o, h => by simpa using outP_get (args := as) (e := []) (i := i) (by simpa [outP] using h)
  | .ow false ds :: as, x :: e, 0, o, h => by simp [outP] at h; exact .inl h.symm
  | .ow false ds :: as, x :: e, i + 1, o, h => by simpa using outP_get (args := as) (e := e) (i := i) (by simpa [outP] using h)
  | .ow false ds :: as, [], 0, o, h => by simp [outP] at h; exact .inl h.symm
  | .ow false ds :: as, [], i + 1, o, h => by simpa using outP_get (args := as) (e := []) (i := i) (by simpa [outP] using h)
  | .un :: as, x :: e, 0, o, h => by simp [outP] at h; exact .inl h.symm
  | .un :: as, x :: e, i + 1, o, h => by simpa using outP_get (args := as) (e := e) (i := i) (by simpa [outP] using h)
  | .un :: as, [], 0, o, h => by simp [outP] at h; exact .inl h.symm
  | .un :: as, [], i + 1, o, h => by simpa using outP_get (args := as) (e := []) (i := i) (by simpa [outP] using h)
  | .fz _ :: as, x :: e, 0, o, h => by simp [outP] at h; exact .inl h.symm
  | .fz _ :: as, x :: e, i + 1, o, h => by simpa using outP_get (args := as) (e := e) (i := i) (by simpa [outP] using h)
  | .fz _ :: as, [], 0, o, h => by simp [outP] at h; exact .inl h.symm
  | .fz _ :: as, [], i + 1, o, h => by simpa using outP_get (args := as) (e := []) (i := i) (by simpa [outP] using h)
  | .ce _ _ :: as, x :: e, 0, o, h => by simp [outP] at h; exact .inl h.symm
  | .ce _ _ :: as, x :: e, i + 1, o, h => by simpa using outP_get (args := as) (e := e) (i := i) (by simpa [outP] using h)
  | .ce _ _ :: as, [], 0, o, h => by simp [outP] at h; exact .inl h.symm
  | .ce _ _ :: as, [], i + 1, o, h => by simpa using outP_get (args := as) (e := []) (i := i) (by simpa [outP] using h)
theorem outP_anch : ∀ {args : List O} {e : Env} {i : Nat} {ds : List D} {o : O}, args[i]? = some (.ow true ds) → e[i]? = some o → (outP args e)[i]? = some o
  | [], _, _, _, _, h, _ => by simp at h
  | a :: as, [], i, _, _, _, h => by simp at h
  | .ow true _ :: as, x :: e, 0, _, o, _, h => by simpa [outP] using h
  | .ow true _ :: as, x :: e, i + 1, _, o, h, h2 => by simpa [outP] using outP_anch (args := as) (e := e) (i := i) (by simpa using h) (by simpa using h2)
  | .ow false _ :: as, x :: e, 0, _, o, h, _ => by simp at h
  | .ow false _ :: as, x :: e, i + 1, _, o, h, h2 => by simpa [outP] using outP_anch (args := as) (e := e) (i := i) (by simpa using h) (by simpa using h2)
  | .un :: as, x :: e, 0, _, o, h, _ => by simp at h
  | .un :: as, x :: e, i + 1, _, o, h, h2 => by simpa [outP] using outP_anch (args := as) (e := e) (i := i) (by simpa using h) (by simpa using h2)
  | .fz _ :: as, x :: e, 0, _, o, h, _ => by simp at h
  | .fz _ :: as, x :: e, i + 1, _, o, h, h2 => by simpa [outP] using outP_anch (args := as) (e := e) (i := i) (by simpa using h) (by simpa using h2)
  | .ce _ _ :: as, x :: e, 0, _, o, h, _ => by simp at h
  | .ce _ _ :: as, x :: e, i + 1, _, o, h, h2 => by simpa [outP] using outP_anch (args := as) (e := e) (i := i) (by simpa using h) (by simpa using h2)
section
variable {K : PySem.W.Frag} {c : PCx} {F H : Hp} {σ : L2.St} {e : Env}
theorem StR.enter {vs : List V} {args : List O} (S : StR K c F H (vs.map some) args) (hl : args.length = vs.length) (n : Nat) : StR K { c with n := vs.length + n } F H (vs.map some ++ List.replicate n none) (args ++ List.replicate n .un) := by
  have hm : (vs.map some).length = args.length := by rw [List.length_map, hl]
  have eg : ∀ {i : Nat} {o : O}, (args ++ List.replicate n O.un)[i]? = some o → o ≠ .un → args[i]? = some o := fun {i o} h hu => by
    by_cases hi : i < args.length
    · rw [List.getElem?_append_left hi] at h; exact h
    · rw [List.getElem?_append_right (by omega), List.getElem?_replicate] at h
      split at h
      · cases h; exact absurd rfl hu
      · cases h
  have sg : ∀ {i : Nat} {v : Option V}, (vs.map some)[i]? = some v → (vs.map some ++ List.replicate n none)[i]? = some v := fun {i v} h => by
    rw [List.getElem?_append_left (List.getElem?_eq_some_iff.mp h).1]; exact h
  have sgb : ∀ {i : Nat} {v : V}, i < args.length → (vs.map some ++ List.replicate n none)[i]? = some (some v) → (vs.map some)[i]? = some (some v) := fun {i v} hi h => by
    rw [List.getElem?_append_left (by omega)] at h; exact h
  have own : ∀ i q, Owns (vs.map some ++ List.replicate n none) (args ++ List.replicate n .un) i q → Owns (vs.map some) args i q := fun i q o => by
    rcases o with ⟨⟨a, d, k⟩, k2⟩ | ⟨d, k⟩
    · have k' := eg k (fun z => nomatch z)
      exact .inl ⟨⟨a, d, k'⟩, sgb (List.getElem?_eq_some_iff.mp k').1 k2⟩
    · exact .inr ⟨d, eg k (fun z => nomatch z)⟩
  refine ⟨⟨by simp, by simp only [List.length_append, List.length_replicate, hm]; omega⟩, S.gr0, S.gr, fun i d k => ?_, fun i a d k => ?_, fun i w k => ?_, fun i a d k => ?_, fun i o k h => ?_, fun i k q o1 o2 => S.ap i k q (own i q o1) (own k q o2), S.fr⟩
  · obtain ⟨v, k1, k2⟩ := S.fz i d (eg k (fun z => nomatch z))
    exact ⟨v, sg k1, k2⟩
  · obtain ⟨p, ws, k1, k2⟩ := S.ow i a d (eg k (fun z => nomatch z))
    exact ⟨p, ws, sg k1, k2⟩
  · obtain ⟨⟨d, e1⟩, e2⟩ := S.an i w k
    exact ⟨⟨d, by rw [List.getElem?_append_left (List.getElem?_eq_some_iff.mp e1).1]; exact e1⟩, sg e2⟩
  · have := (S.ce i a d (eg k (fun z => nomatch z))).1
    have k' := (List.getElem?_eq_some_iff.mp (eg k (fun z => nomatch z))).1
    rw [hm] at this
    omega
  · have := (List.getElem?_eq_some_iff.mp k).1
    simp only [List.length_append, List.length_replicate, hm] at this h
    omega
theorem StR.exit {vs : List V} {args : List O} {c0 : PCx} {F0 H0 : Hp} (S0 : StR K c0 F0 H0 (vs.map some) args) (hl : args.length = vs.length) {N : Nat} (S : StR K c F H σ e) (hA : c.A = c0.A) (hσ : c.n = N) (hN : vs.length ≤ N) (hA2 : ∀ (i : Nat) (ds : List D), args[i]? = some (.ow true ds) → c0.A i = vs[i]?) :
    StR K { c with n := vs.length } F H (vs.map some) (outsOf args N e) ∧ ∀ v r, OvR K c F H σ e v r → OvR K { c with n := vs.length } F H (vs.map some) (outsOf args N e) v r := by
  have hm : (vs.map some).length = args.length := by rw [List.length_map, hl]
  have hσ : σ.length = N := by rw [S.len.1, hσ]
  have eN : N ≤ e.length := by rw [← hσ]; exact S.len.2
  -- what stands at a place behind
  have eg : ∀ {i : Nat} {o : O}, (outsOf args N e)[i]? = some o → o ≠ .un → (i < vs.length ∧ (∃ ds, args[i]? = some (.ow true ds)) ∧ e[i]? = some o ∧ (vs.map some)[i]? = σ[i]?) ∨ (vs.length ≤ i ∧ e[N + (i - vs.length)]? = some o ∧ ∃ a ds, o = .ce a ds) := fun {i o} h hu => by
    unfold outsOf at h
    by_cases hi : i < args.length
    · rw [List.getElem?_append_left (by rw [outP_length]; exact hi)] at h
      rcases outP_get h with z | ⟨⟨ds, z1⟩, z2⟩
      · exact absurd z hu
      · have hv : vs[i]? = some vs[i] := List.getElem?_eq_getElem (by omega)
        have ha := hA2 i ds z1
        rw [hv] at ha
        obtain ⟨_, e2⟩ := S.an i vs[i] (by rw [hA]; exact ha)
        exact .inl ⟨by omega, ⟨ds, z1⟩, z2, by rw [List.getElem?_map, hv, e2]; rfl⟩
    · rw [List.getElem?_append_right (by rw [outP_length]; omega), outP_length, List.getElem?_drop, hl] at h
      obtain ⟨a, ds, z⟩ := S.hi _ o h (by omega)
      exact .inr ⟨by omega, h, a, ds, z⟩
  have own : ∀ {i : Nat} {q : Addr}, Owns (vs.map some) (outsOf args N e) i q → (i < vs.length ∧ Owns σ e i q) ∨ (vs.length ≤ i ∧ Owns σ e (N + (i - vs.length)) q) := fun {i q} o => by
    rcases o with ⟨⟨a, d, k⟩, k2⟩ | ⟨d, k⟩
    · rcases eg k (fun z => nomatch z) with ⟨h1, h2, h3, h4⟩ | ⟨_, _, _, _, h⟩
      · exact .inl ⟨h1, .inl ⟨⟨a, d, h3⟩, by rw [← h4]; exact k2⟩⟩
      · cases h
    · rcases eg k (fun z => nomatch z) with ⟨h1, h2, h3, h4⟩ | ⟨h1, h2, _⟩
      · exact .inl ⟨h1, .inr ⟨d, h3⟩⟩
      · exact .inr ⟨h1, .inr ⟨d, h2⟩⟩
  refine ⟨⟨?_, S.gr0, S.gr, fun i d k => ?_, fun i a d k => ?_, fun i w k => ?_, fun i a d k => ?_, fun i o k h => ?_, fun i j q o1 o2 => ?_, S.fr⟩, fun v r hr => ?_⟩
  · unfold outsOf
    refine ⟨by rw [List.length_map], ?_⟩
    rw [List.length_append, outP_length, hm]
    omega
  · rcases eg k (fun z => nomatch z) with ⟨h1, ⟨ds, h2⟩, h3, h4⟩ | ⟨_, _, _, _, h⟩
    · have hv : vs[i]? = some vs[i] := List.getElem?_eq_getElem h1
      have ha := hA2 i ds h2
      rw [hv] at ha
      obtain ⟨⟨d', e1⟩, _⟩ := S.an i vs[i] (by rw [hA]; exact ha)
      rw [h3] at e1; cases e1
    · cases h
  · rcases eg k (fun z => nomatch z) with ⟨h1, ⟨ds, h2⟩, h3, h4⟩ | ⟨_, _, _, _, h⟩
    · rw [h4]; exact S.ow i a d h3
    · cases h
  · obtain ⟨⟨d, e1⟩, e2⟩ := S.an i w k
    obtain ⟨⟨d0, f1⟩, f2⟩ := S0.an i w (by rw [← hA]; exact k)
    refine ⟨⟨d, ?_⟩, f2⟩
    unfold outsOf
    have hi := (List.getElem?_eq_some_iff.mp f1).1
    rw [List.getElem?_append_left (by rw [outP_length]; exact hi)]
    exact outP_anch f1 e1
  · rcases eg k (fun z => nomatch z) with ⟨h1, ⟨ds, h2⟩, h3, h4⟩ | ⟨h1, h2, _⟩
    · have := (S.ce i a d h3).1
      omega
    · obtain ⟨q1, q2⟩ := S.ce _ a d h2
      exact ⟨by rw [List.length_map]; exact h1, q2⟩
  · rw [List.length_map] at h
    unfold outsOf at k
    rw [List.getElem?_append_right (by rw [outP_length]; omega), outP_length, List.getElem?_drop] at k
    exact S.hi _ o k (by omega)
  · rcases own o1 with ⟨h1, k1⟩ | ⟨h1, k1⟩
    · rcases own o2 with ⟨h2, k2⟩ | ⟨h2, k2⟩
      · exact S.ap i j q k1 k2
      · have := S.ap _ _ q k1 k2; omega
    · rcases own o2 with ⟨h2, k2⟩ | ⟨h2, k2⟩
      · have := S.ap _ _ q k1 k2; omega
      · have := S.ap _ _ q k1 k2; omega
  · cases r with
    | un => exact hr
    | ce _ _ => exact hr
    | fz d => exact hr
    | ow an ds =>
      obtain ⟨p, ws, h1, h2, h3, h4, h5, h6⟩ := hr
      refine ⟨p, ws, h1, h2, h3, h4, h5, fun i o => ?_⟩
      rcases own o with ⟨_, k⟩ | ⟨_, k⟩
      · exact h6 _ k
      · exact h6 _ k
end
/-! ### a def by its body -/
section
variable {P : Program} {w : World} {K : PySem.W.Frag} {mg : Str → Option Value} {base : Heap}
theorem _root_.L2.Fun.M {α : Type} {x qual : Str} {st : Stmt} {f : Addr} {fd : FuncData} {N ps : List Str} {k : Nat} {pre : α → List O → Prop} {post : α → O → List O → Prop} {exc : α → Er → List O → Prop} (Fn : Fun K x qual st f fd) (S : FnScope N ps (defScope st)) (len : ∀ a args, pre a args → args.length = ps.length) {p : PSt}
    (hb : ∀ (cdv : Value) (A : Around) (outer : List PySem.Env) (s : Shared) (H : Hp) (E : XK), Room k (A.deeper (envOfC qual (defScope st) s.heap.objs.size f cdv)) →
      SSs (cxOf (L2.CX P w) P w K mg base N qual (defScope st) f cdv A outer s H E) (fun cls d _ H' => E cls d H') (defBody st) p)
    (hp : ∀ a args, pre a args → p { nx := fun e' => post a (.fz .non) (outsOf args N.length e'), rt := fun r e' => post a r (outsOf args N.length e'), ex := fun x e' => exc a x (outsOf args N.length e') } (args ++ List.replicate (N.length - ps.length) .un)) :
    FnOk P w K mg base (L2.CX P w) (k + 1) f fd ps (spM K (mkSp pre post exc)) := by
  have hNp : ps.length ≤ N.length := by have := congrArg List.length S.pre; rw [List.length_take] at this; omega
  refine Fn.okX S (fun vs H Q E h => ?_) (fun cdv A outer s H vs Q E hr h => ?_)
  · obtain ⟨c, F, args, hl, St, h1, h2, a, ha, _⟩ := h
    rw [← hl]; exact len a args ha
  · obtain ⟨c, F, args, hl, St, h1, h2, a, ha, hQ, hE⟩ := h
    have d := hb cdv A outer s H E hr
    have hlp := len a args ha
    refine ⟨_, d.run, ?_⟩
    have St' := St.enter hl (N.length - ps.length)
    have es : L2.start N vs = vs.map some ++ List.replicate (N.length - ps.length) none := by unfold L2.start; rw [← hl, hlp]
    rw [es]
    have en : vs.length + (N.length - ps.length) = N.length := by rw [← hl, hlp]; omega
    have ext : ∀ {F' H' : Hp} {σ' : L2.St} {e' : Env}, StR K { c with n := vs.length + (N.length - ps.length) } F' H' σ' e' → StR K { c with n := vs.length } F' H' (vs.map some) (outsOf args N.length e') ∧ ∀ v r, OvR K { c with n := vs.length + (N.length - ps.length) } F' H' σ' e' v r → OvR K { c with n := vs.length } F' H' (vs.map some) (outsOf args N.length e') v r :=
      fun {F' H' σ' e'} S' => StR.exit (c := { c with n := vs.length + (N.length - ps.length) }) St hl S' rfl en (by rw [← hl, hlp]; exact hNp) h1
    have cn : c = { c with n := vs.length } := by
      have := St.len.1
      rw [List.length_map] at this
      rw [this]
    refine ⟨{ c with n := vs.length + (N.length - ps.length) }, F, _, St', d.mono _ _ _ ?_ (hp a args ha)⟩
    refine ⟨fun e' k F' H' σ' S' => ?_, fun r e' k F' H' σ' v S' o => ?_, fun x e' k F' H' σ' cls d' S' he => ?_, fun e' k => k.elim, fun e' k => k.elim⟩
    · obtain ⟨q1, q2⟩ := ext S'
      rw [← cn] at q1
      exact hQ _ _ k F' H' _ q1 .non
    · obtain ⟨q1, q2⟩ := ext S'
      have q3 := q2 v r o
      rw [← cn] at q1 q3
      exact hQ _ _ k F' H' _ q1 q3
    · obtain ⟨q1, q2⟩ := ext S'
      rw [← cn] at q1
      exact hE _ _ k F' H' _ _ q1 he
end
end PW
set_option Elab.async false
set_option linter.all false
set_option maxRecDepth 100000
set_option maxHeartbeats 4000000
namespace PW
open PySem PySem.Spec PyProof.Rows L2
/-- a call of a def of the text -/
def callGo (psp : PSp) (dds : List D) (as : List Arg) (e1 : Env) (Q : O → Env → Prop) (E : Er → Env → Prop) : Prop :=
  ∃ args, argsOf e1 as = some args ∧ (refIx as).Nodup ∧ psp (args ++ dds.map .fz) (fun r outs => Q r (wbC (as.length + dds.length) as outs e1)) (fun x outs => E x (wb as outs e1))
def pCall (psp : PSp) (dds : List D) (p : PAs) : POx := fun e Q E => p e (fun as e1 => callGo psp dds as e1 Q E) E
theorem callGo_mono {psp : PSp} (mp : MonoP psp) {dds : List D} {as : List Arg} {e1 : Env} {Q Q' : O → Env → Prop} {E E' : Er → Env → Prop} (hq : ∀ a e, Q a e → Q' a e) (he : ∀ x e, E x e → E' x e) (h : callGo psp dds as e1 Q E) : callGo psp dds as e1 Q' E' := by
  obtain ⟨args, h1, h2, h3⟩ := h
  exact ⟨args, h1, h2, mp.mono _ _ _ _ _ (fun r o k => hq _ _ k) (fun x o k => he _ _ k) h3⟩
theorem mono_Call {psp : PSp} (mp : MonoP psp) {dds : List D} {p : PAs} (hp : Mono p) : Mono (pCall psp dds p) := fun _ _ _ _ _ hq he k => hp _ _ _ _ _ (fun _ _ k => callGo_mono mp hq he k) he k
section
variable {X : Cx} {W : WX}
/-- the callee's promise is kept -/
theorem call_run {psp : PSp} (mp : MonoP psp) {c : PCx} {F H : Hp} {σ : L2.St} {e1 : Env} {as : List Arg} {vs dvs : List V} {dds : List D} {Q : VK} (S : StR X.K c F H σ e1) (ra : ArgsR X.K F σ vs as) (rd : Rps X.K F dvs dds)
    (h : callGo psp dds as e1 (fun r e' => ∀ F' H' v, StR X.K c F' H' σ e' → OvR X.K c F' H' σ e' v r → Q v H') (fun x e' => ∀ F' H' cls d, StR X.K c F' H' σ e' → ErR X.K c.Fr F' H' cls d x → W cls d σ H')) :
    spM X.K psp (vs ++ dvs) H Q (WE W σ) := by
  obtain ⟨args, h1, h2, h3⟩ := h
  have Sin := call_in S ra rd h1 h2
  have hl : args.length = vs.length := by rw [argsOf_length h1, ra.length]
  have en : (vs ++ dvs).length = as.length + dds.length := by rw [List.length_append, ra.length, rd.length]
  refine ⟨_, F, args ++ dds.map O.fz, by rw [List.length_append, List.length_append, List.length_map, hl, rd.length], Sin, fun i ds k => ?_, fun i ds k => ?_, mp.mono _ _ _ _ _ (fun r outs k F' H' v S' o => ?_) (fun x outs k F' H' cls d S' he => ?_) h3⟩
  · show anC _ _ i = _
    unfold anC
    rw [k]
  · by_cases hi : i < args.length
    · rw [List.getElem?_append_left hi] at k
      have hia : i < as.length := by rw [← argsOf_length h1]; exact hi
      obtain ⟨o', k1, k2⟩ := argsOf_get h1 (List.getElem?_eq_getElem hia)
      rw [k] at k1; cases k1
      obtain ⟨z, _⟩ := argO_ow k2
      cases z
    · rw [List.getElem?_append_right (by omega), List.getElem?_map] at k
      cases ed : dds[i - args.length]? with
      | none => rw [ed] at k; cases k
      | some d => rw [ed] at k; cases k
  · obtain ⟨_, _, q2, q3⟩ := call_out S ra rd h1 h2 S'
    rw [en] at q2 q3
    exact k F' H' v q2 (q3 v r o)
  · obtain ⟨q0, q1, _, _⟩ := call_out S ra rd h1 h2 S'
    obtain ⟨g1, dd, ws, g2, g3, g4, g5⟩ := he
    exact k F' H' cls d q1 ⟨g1, dd, ws, g2, g3, g4, q0 _ g5⟩
variable {k j : Nat} {f : Addr} {fd : FuncData} {ps ks : List Str} {psp : PSp} {dds : List D} {dvs : List V} {ds : List Value} {x : Str} {p pos : Pos} {e : Expr} {es : List Expr} {pas : PAs}
theorem so_call (F : FnOk X.prog X.w X.K X.mg X.base (L2.CX X.prog X.w) k f fd ps (spM X.K psp)) (mp : MonoP psp) (hr : Room j X.A) (hk : k ≤ j) (tk : Takes X W) (hg : Gl X x) (hm : X.mg x = some (.ref f)) (kp : PySem.W.keepIn X.K (.ref f) = true) (hb : Binds X.K fd ps ds) (hd : Vals dvs ds)
    (rd : ∀ F, Rps X.K F dvs dds) (ha : SA X W (e :: es) pas) (hdb : (x == ("__debug__" : Str)) = false := by decide) (he : starEach (e :: es) X.env = (false, eval e X.env) :: starEach es X.env := by rfl) (hpl : (backTo pos (starEach es X.env)).any (·.1) = false := by rfl) :
    SO X W (.Call (.Name x p) (e :: es) [] pos) (pCall psp dds pas) := by
  refine ⟨(pe_callSD F (hr.mono hk) hg hm kp hb hd (fun σ => passAt tk σ) ha.run hdb he hpl).weak fun σ H Q ⟨c, F, en, S, q⟩ => ?_, mono_Call mp ha.mono⟩
  refine tM.go ha.mono S q (fun as e1 F1 H1 vs S1 r1 k1 => ?_) (fun x e1 F1 H1 cls d S1 r1 k1 => k1 F1 H1 cls d (S1.back S.gr0) r1)
  exact call_run mp (S1.back S.gr0) r1 (rd F1) k1
/-- f() -/
theorem so_call0 (F : FnOk X.prog X.w X.K X.mg X.base (L2.CX X.prog X.w) k f fd ps (spM X.K psp)) (mp : MonoP psp) (hr : Room j X.A) (hk : k ≤ j) (tk : Takes X W) (hg : Gl X x) (hm : X.mg x = some (.ref f)) (kp : PySem.W.keepIn X.K (.ref f) = true) (hb : Binds X.K fd ps ds) (hd : Vals dvs ds)
    (rd : ∀ F, Rps X.K F dvs dds) (hdb : (x == ("__debug__" : Str)) = false := by decide) :
    SO X W (.Call (.Name x p) [] [] pos) (pCall psp dds pNil) := by
  refine ⟨⟨fun pins s σ H Q I h => ?_⟩, mono_Call mp fun _ _ _ _ _ hq _ h => hq _ _ h⟩
  obtain ⟨c, F0, en, S, q⟩ := h
  refine wpAny_Call_Name_kw (ld_glob I hg hm ?_ hdb)
  exact PySem.W.callWith_K0 I.kIn kp (run_fnSD (E := WE W) (us := []) (vs := []) F (hr.mono hk) hb hd (passAt tk σ) I .nil (call_run mp S .nil (rd F0) q))
/-- f(k = v, ..): gD puts the keywords' data in the parameters' order -/
def pCallK (psp : PSp) (gD : List Arg → List Arg) (p : PAs) : POx := fun e Q E => p e (fun as e1 => callGo psp [] (gD as) e1 Q E) E
/-- the keywords' values, as arguments -/
structure SK (X : Cx) (W : WX) (kws : List Keyword) (p : PAs) : Prop where
  run : PK X kws (tM X.K W (RL X.K) p)
  mono : Mono p
theorem _root_.L2.PK.weak {X : Cx} {e : List Keyword} {t t' : TA} (h : PK X e t) (w : ∀ σ H Q, t' σ H Q → t σ H Q) : PK X e t' := ⟨fun pos pins s σ H Q I q => h.run pos pins s σ H Q I (w σ H Q q)⟩
theorem sk_nil : SK X W [] pNil := ⟨pk_nil.weak fun σ H Q ⟨c, F, en, S, q⟩ => q F H [] S .nil, fun _ _ _ _ _ hq _ h => hq _ _ h⟩
theorem sk_cons {nm : Option Str} {kpos : Pos} {kws : List Keyword} {p : PGx} {q : PAs} (h : SG X W e p) (hs : SK X W kws q) : SK X W (⟨nm, e, kpos⟩ :: kws) (pCons p q) := by
  refine ⟨(pk_cons h.run hs.run).weak fun σ H Q ⟨c, F, en, S, k⟩ => ?_, fun _ _ _ _ _ hq he k => h.mono _ _ _ _ _ (fun _ _ k => hs.mono _ _ _ _ _ (fun _ _ => hq _ _) he k) he k⟩
  refine tM.go h.mono S k (fun a e1 F1 H1 v S1 r1 k1 => ?_) (fun x e1 F1 H1 cls d S1 r1 k1 => k1 F1 H1 cls d (S1.back S.gr0) r1)
  refine tM.go hs.mono S1 k1 (fun as e2 F2 H2 vs S2 r2 k2 => ?_) (fun x e2 F2 H2 cls d S2 r2 k2 => k2 F2 H2 cls d ((S2.back (c := { c with F0 := F }) S1.gr0).back S.gr0) r2)
  exact k2 F2 H2 (v :: vs) ((S2.back (c := { c with F0 := F }) S1.gr0).back S.gr0) (.cons (ArgR.mono S2.gr0 r1) r2)
theorem run_fnkS {g : List Value → List Value → List Value} {gV : List V → List V → List V} {sp : Sp} {E : L2.St → XK} {CX : CXT} {pins : List (Addr × Obj)} {σ : L2.St} {H : Hp} {s : Shared} {Q : VK} {us ws : List Value} {vs zs : List V} (F : FnOk X.prog X.w X.K X.mg X.base CX k f fd ps sp) (hr : Room k X.A) (hb : KBinds X.K fd ps ks g gV) (hx : PassesAt CX X σ (E σ))
    (I : L2.Inv X pins σ H s) (r : Vals vs us) (rz : Vals zs ws) (h : sp (gV vs zs) H Q (E σ)) : wpAny (model X.prog X.w) X.A (call (.ref f) us (ks.zip ws)) (EP X pins σ Q) X.xe s := by
  have r2 := hb.rel r rz
  have hl : (g us ws).length = ps.length := by rw [← r2.length]; exact F.len _ _ _ _ h
  refine wpAny_call (codeAny_mono (F.run X.A X.stack s H ⟨us, ks.zip ws⟩ (g us ws) (gV vs zs) Q (E σ) hr I.env0 (hb.to s us ws I.kIn hl) r2 h) fun r s' hq => ?_)
  cases r with
  | error e => exact hx pins H s e s' I hq
  | ok fl =>
    cases fl with
    | ret u => exact I.after hq
    | next => exact False.elim hq
    | brk => exact False.elim hq
    | cont => exact False.elim hq
theorem so_callK0 {kws : List Keyword} {g : List Value → List Value → List Value} {gV : List V → List V → List V} {gD : List Arg → List Arg} (F : FnOk X.prog X.w X.K X.mg X.base (L2.CX X.prog X.w) k f fd ps (spM X.K psp)) (mp : MonoP psp) (hr : Room j X.A) (hk : k ≤ j) (tk : Takes X W) (hg : Gl X x) (hm : X.mg x = some (.ref f))
    (kp : PySem.W.keepIn X.K (.ref f) = true) (hb : KBinds X.K fd ps ks g gV) (hgD : ∀ F σ zs as, ArgsR X.K F σ zs as → ArgsR X.K F σ (gV [] zs) (gD as)) (ha : SK X W kws pas)
    (hall : (backToKw pos (keywordEach kws X.env)).all (·.1.isSome) = true := by rfl) (hks : (backToKw pos (keywordEach kws X.env)).filterMap (·.1) = ks := by rfl)
    (hpl : ((backTo pos (starEach [] X.env)).any (·.1) || (backToKw pos (keywordEach kws X.env)).any (·.1.isNone)) = false := by rfl)
    (hdb : (x == ("__debug__" : Str)) = false := by decide) : SO X W (.Call (.Name x p) [] kws pos) (pCallK psp gD pas) := by
  refine ⟨⟨fun pins s σ H Q I h => ?_⟩, fun _ _ _ _ _ hq he k => ha.mono _ _ _ _ _ (fun _ _ k => callGo_mono mp hq he k) he k⟩
  refine wpAny_Call_Name_kw (ld_glob I hg hm ?_ hdb)
  refine PySem.W.callWith_KW0 (h₀ := X.base) I.ok.mod.kin kp hall ?_ hpl
  obtain ⟨c, F0, en, S, q⟩ := h
  have h' : tM X.K W (RL X.K) pas σ H fun zs H2 => spM X.K psp (gV [] zs) H2 Q (WE W σ) := by
    refine tM.go ha.mono S q (fun as e1 F1 H1 vs S1 r1 k1 => ?_) (fun x e1 F1 H1 cls d S1 r1 k1 => k1 F1 H1 cls d (S1.back S.gr0) r1)
    have := call_run (dvs := []) (dds := []) mp (S1.back S.gr0) (hgD _ _ _ _ r1) .nil k1
    rw [List.append_nil] at this
    exact this
  refine thn (ha.run.run pos pins s σ H _ I h') fun ws s2 ⟨zs, H2, I2, rz, q2⟩ => ⟨I2.kIn, ?_⟩
  rw [hks]
  exact run_fnkS (E := WE W) (us := []) (vs := []) F (hr.mono hk) hb (passAt tk σ) I2 .nil rz q2
end
end PW
set_option Elab.async false
set_option linter.all false
set_option maxRecDepth 100000
set_option maxHeartbeats 4000000
namespace PW
open PySem PySem.Spec PyProof.Rows L2
/-! ### cells -/
def dropCe (a : Addr) : Env → Env
  | [] => []
  | .ce b ds :: e => if b = a then dropCe a e else .ce b ds :: dropCe a e
  | .un :: e => .un :: dropCe a e
  | .fz d :: e => .fz d :: dropCe a e
  | .ow an ds :: e => .ow an ds :: dropCe a e
def setCe (a : Addr) (xs : List D) : Env → Env
  | [] => []
  | .ce b ds :: e => if b = a then .ce b xs :: e else .ce b ds :: setCe a xs e
  | .un :: e => .un :: setCe a xs e
  | .fz d :: e => .fz d :: setCe a xs e
  | .ow an ds :: e => .ow an ds :: setCe a xs e
/-- where the places of what is left stood -/
theorem dropCe_emb (a : Addr) : ∀ (e : Env) (n : Nat), (∀ i, i < n → ∀ b ds, e[i]? ≠ some (.ce b ds)) → ∃ f : Nat → Nat, (∀ i, i < n → f i = i) ∧ (∀ i, i ≤ f i) ∧ (∀ i j, f i = f j → i = j) ∧
    (∀ (i : Nat) (o : O), (dropCe a e)[i]? = some o → e[f i]? = some o ∧ ∀ ds, o ≠ .ce a ds) ∧ (∀ i, i < n → i < e.length → (dropCe a e)[i]? = e[i]?)
  | [], n, _ => ⟨id, fun _ _ => rfl, fun _ => Nat.le_refl _, fun _ _ h => h, fun i o h => by simp [dropCe] at h, fun i _ h => by simp at h⟩
  | x :: e, n, hn => by
    have tail : ∀ i, i < n - 1 → ∀ b ds, e[i]? ≠ some (.ce b ds) := fun i hi b ds h => hn (i + 1) (by omega) b ds (by simpa using h)
    obtain ⟨f, h1, h2, h3, h4, h5⟩ := dropCe_emb a e (n - 1) tail
    have keep : (∀ ds, x ≠ .ce a ds) → dropCe a (x :: e) = x :: dropCe a e := fun hx => by
      cases x with
      | ce b ds => show (if b = a then dropCe a e else .ce b ds :: dropCe a e) = _; rw [if_neg fun z => hx ds (by rw [z])]
      | _ => rfl
    by_cases hx : ∀ ds, x ≠ .ce a ds
    · rw [keep hx]
      refine ⟨fun i => match i with | 0 => 0 | i + 1 => f i + 1, fun i hi => ?_, fun i => ?_, fun i j h => ?_, fun i o h => ?_, fun i hi hl => ?_⟩
      · cases i with
        | zero => rfl
        | succ i => show f i + 1 = i + 1; rw [h1 i (by omega)]
      · cases i with
        | zero => exact Nat.le_refl _
        | succ i => exact Nat.succ_le_succ (h2 i)
      · cases i with
        | zero => cases j with
          | zero => rfl
          | succ j => simp at h
        | succ i => cases j with
          | zero => simp at h
          | succ j => rw [h3 i j (by simpa using h)]
      · cases i with
        | zero => simp at h; subst h; exact ⟨rfl, hx⟩
        | succ i => simpa using h4 i o (by simpa using h)
      · cases i with
        | zero => rfl
        | succ i => simpa using h5 i (by omega) (by simpa using hl)
    · have hx' : ∃ ds, x = .ce a ds := Classical.byContradiction fun z => hx fun ds e => z ⟨ds, e⟩
      obtain ⟨ds, rfl⟩ := hx'
      have n0 : n = 0 := by
        cases n with
        | zero => rfl
        | succ n => exact absurd rfl (hn 0 (by omega) a ds)
      subst n0
      have ed : dropCe a (.ce a ds :: e) = dropCe a e := by show (if a = a then _ else _) = _; rw [if_pos rfl]
      rw [ed]
      refine ⟨fun i => f i + 1, fun i hi => absurd hi (by omega), fun i => Nat.le_succ_of_le (h2 i), fun i j h => h3 i j (by simpa using h), fun i o h => by simpa using h4 i o h, fun i hi => absurd hi (by omega)⟩
theorem setCe_get {a : Addr} {xs : List D} : ∀ {e : Env} {ds : List D}, cellOf e a = some ds → ∃ k, e[k]? = some (.ce a ds) ∧ (setCe a xs e) = e.set k (.ce a xs)
  | [], _, h => by cases h
  | .ce b es :: e, ds, h => by
    unfold cellOf at h
    by_cases z : b = a
    · subst z; rw [if_pos rfl] at h; cases h; exact ⟨0, rfl, by show (if b = b then _ else _) = _; rw [if_pos rfl]; rfl⟩
    · rw [if_neg z] at h
      obtain ⟨k, h1, h2⟩ := setCe_get (xs := xs) h
      exact ⟨k + 1, by simpa using h1, by show (if b = a then _ else _) = _; rw [if_neg z, h2]; rfl⟩
  | .un :: e, ds, h => by obtain ⟨k, h1, h2⟩ := setCe_get (e := e) (xs := xs) h; exact ⟨k + 1, by simpa using h1, by show O.un :: setCe a xs e = _; rw [h2]; rfl⟩
  | .fz d :: e, ds, h => by obtain ⟨k, h1, h2⟩ := setCe_get (e := e) (xs := xs) h; exact ⟨k + 1, by simpa using h1, by show O.fz d :: setCe a xs e = _; rw [h2]; rfl⟩
  | .ow an es :: e, ds, h => by obtain ⟨k, h1, h2⟩ := setCe_get (e := e) (xs := xs) h; exact ⟨k + 1, by simpa using h1, by show O.ow an es :: setCe a xs e = _; rw [h2]; rfl⟩
section
variable {K : PySem.W.Frag} {c : PCx} {F H : Hp} {σ : L2.St} {e : Env}
theorem StR.noCeLt (S : StR K c F H σ e) : ∀ i, i < σ.length → ∀ b ds, e[i]? ≠ some (.ce b ds) := fun i hi b ds h => by
  have := (S.ce i b ds h).1
  omega
theorem StR.dropCell (S : StR K c F H σ e) (a : Addr) : StR K c F H σ (dropCe a e) ∧ ((∃ ds, cellOf e a = some ds) → ∀ i, ¬ Owns σ (dropCe a e) i a) := by
  obtain ⟨f, h1, h2, h3, h4, h5⟩ := dropCe_emb a e σ.length S.noCeLt
  have own : ∀ {i : Nat} {q : Addr}, Owns σ (dropCe a e) i q → Owns σ e (f i) q := fun {i q} o => by
    rcases o with ⟨⟨an, ds, k⟩, k2⟩ | ⟨ds, k⟩
    · have hi := (List.getElem?_eq_some_iff.mp k2).1
      exact .inl ⟨⟨an, ds, (h4 i _ k).1⟩, by rw [h1 i hi]; exact k2⟩
    · exact .inr ⟨ds, (h4 i _ k).1⟩
  have lt : ∀ {i : Nat} {v : V}, σ[i]? = some (some v) → f i = i := fun {i v} k => h1 i (List.getElem?_eq_some_iff.mp k).1
  have slotLt : ∀ {i : Nat} {o : O}, (dropCe a e)[i]? = some o → (∀ b ds, o ≠ .ce b ds) → i < σ.length := fun {i o} k hn => by
    refine Nat.lt_of_not_le fun z => ?_
    obtain ⟨b, ds, q⟩ := S.hi _ o (h4 i o k).1 (Nat.le_trans z (h2 i))
    exact hn b ds q
  refine ⟨⟨⟨S.len.1, ?_⟩, S.gr0, S.gr, fun i d k => ?_, fun i an ds k => ?_, fun i v k => ?_, fun i b ds k => ?_, fun i o k h => ?_, fun i j p o1 o2 => h3 _ _ (S.ap _ _ p (own o1) (own o2)), S.fr⟩, fun ⟨ds, hc⟩ i o => ?_⟩
  · refine Nat.le_of_not_lt fun z => ?_
    have hlen : (dropCe a e).length < σ.length := z
    have h := h5 (dropCe a e).length hlen (Nat.lt_of_lt_of_le hlen S.len.2)
    rw [List.getElem?_eq_none (Nat.le_refl _)] at h
    have := List.getElem?_eq_none_iff.mp h.symm
    have := S.len.2
    omega
  · have hi := slotLt k (fun _ _ z => nomatch z)
    have k' := (h4 i _ k).1
    rw [h1 i hi] at k'
    exact S.fz i d k'
  · have hi := slotLt k (fun _ _ z => nomatch z)
    have k' := (h4 i _ k).1
    rw [h1 i hi] at k'
    exact S.ow i an ds k'
  · obtain ⟨⟨ds, e1⟩, e2⟩ := S.an i v k
    have hi := (List.getElem?_eq_some_iff.mp e2).1
    exact ⟨⟨ds, by rw [h5 i hi (List.getElem?_eq_some_iff.mp e1).1]; exact e1⟩, e2⟩
  · have k' := (h4 i _ k).1
    obtain ⟨_, q⟩ := S.ce _ b ds k'
    refine ⟨Nat.le_of_not_lt fun z => ?_, q⟩
    have := h1 i z
    rw [this] at k'
    exact S.noCeLt i z _ _ k'
  · exact S.hi _ o (h4 i o k).1 (Nat.le_trans h (h2 i))
  · obtain ⟨k, hk⟩ := cellOf_get hc
    have o' := own o
    have := S.ap _ _ a o' (.inr ⟨ds, hk⟩)
    rcases o with ⟨⟨an, es, q⟩, q2⟩ | ⟨es, q⟩
    · have := lt q2
      rename_i h
      have q1 := (h4 i _ q).1
      rw [h, hk] at q1; cases q1
    · exact (h4 i _ q).2 es rfl
theorem StR.setCell (S : StR K c F H σ e) {a : Addr} {ds xs : List D} {ws : List V} (hc : cellOf e a = some ds) (r : Rps K F ws xs) : StR K c F (upd H a (.lst ws)) σ (setCe a xs e) := by
  obtain ⟨k, hk, es⟩ := setCe_get (xs := xs) hc
  rw [es]
  obtain ⟨hle, c2, c3, vs, c4, c5⟩ := S.ce k a ds hk
  have eself : (e.set k (.ce a xs))[k]? = some (.ce a xs) := set_self hk
  have own : ∀ j q, Owns σ (e.set k (.ce a xs)) j q → Owns σ e j q := fun j q o => by
    unfold Owns at o
    by_cases z : k = j
    · subst z
      rw [eself] at o
      rcases o with ⟨⟨_, _, e⟩, _⟩ | ⟨_, e⟩
      · cases e
      · cases e; exact .inr ⟨ds, hk⟩
    · rw [set_other z] at o; exact o
  refine ⟨by simp only [List.length_set]; exact S.len, S.gr0, fun b o e => ?_, fun j d q => ?_, fun j an d q => ?_, fun j w q => ?_, fun j b d q => ?_, fun j o q h => ?_, fun i j q o1 o2 => S.ap i j q (own i q o1) (own j q o2), fun b o q => ?_⟩
  · rw [upd_ne (ne_of_none e c2)]; exact S.gr b o e
  · by_cases z : k = j
    · subst z; rw [eself] at q; cases q
    · rw [set_other z] at q; exact S.fz j d q
  · by_cases z : k = j
    · subst z; rw [eself] at q; cases q
    · rw [set_other z] at q
      obtain ⟨p, us, k1, k2, k3, k4, k5⟩ := S.ow j an d q
      have ne : p ≠ a := fun zz => z (S.ap k j a (.inr ⟨ds, hk⟩) (.inl ⟨⟨an, d, q⟩, by rw [k1, zz]⟩))
      exact ⟨p, us, k1, k2, k3, by rw [upd_ne ne]; exact k4, k5⟩
  · obtain ⟨⟨d, e1⟩, e2⟩ := S.an j w q
    refine ⟨⟨d, ?_⟩, e2⟩
    have z : k ≠ j := fun z => by subst z; rw [hk] at e1; cases e1
    rw [set_other z]; exact e1
  · by_cases z : k = j
    · subst z; rw [eself] at q; cases q
      exact ⟨hle, c2, c3, ws, upd_same, r⟩
    · rw [set_other z] at q
      obtain ⟨k1, k2, k3, us, k4, k5⟩ := S.ce j b d q
      have ne : b ≠ a := fun zz => z (S.ap k j a (.inr ⟨ds, hk⟩) (.inr ⟨d, by rw [q, zz]⟩))
      exact ⟨k1, k2, k3, us, by rw [upd_ne ne]; exact k4, k5⟩
  · by_cases z : k = j
    · subst z; rw [eself] at q; cases q; exact ⟨_, _, rfl⟩
    · rw [set_other z] at q; exact S.hi j o q h
  · obtain ⟨k1, k2⟩ := S.fr b o q
    exact ⟨k1, by rw [upd_ne (ne_of_none q c3)]; exact k2⟩
end
section
variable {X : Cx} {W : WX} {a b e : Expr} {pos : Pos}
/-- a new list, put into a cell -/
def pCe (p : POx) : PEx := fun e Q E => p e (fun r e1 => match r with
  | .fz d => Q d e1
  | .ow _ ds => ∀ a, cellOf e1 a = none → Q (.ref a) (e1 ++ [.ce a ds])
  | _ => False) E
theorem StR.addOne {K : PySem.W.Frag} {c : PCx} {F H : Hp} {σ : L2.St} {e : Env} (S : StR K c F H σ e) {p : Addr} {vs : List V} {ds : List D} (h2 : F p = none) (h3 : c.Fr p = none) (h4 : H p = some (.lst vs)) (h5 : Rps K F vs ds) (h6 : ∀ i, ¬ Owns σ e i p) : StR K c F H σ (e ++ [.ce p ds]) := by
  refine S.addCe (fun i o k => ?_) (fun i j a ds ds' k1 k2 => ?_)
  · cases i with
    | zero => simp at k; subst k; exact ⟨p, ds, rfl, h2, h3, ⟨vs, h4, h5⟩, h6⟩
    | succ i => simp at k
  · cases i with
    | zero => cases j with
      | zero => rfl
      | succ j => simp at k2
    | succ i => simp at k1
theorem sf_ce {p : POx} (h : SO X W e p) : SF X W e (pCe p) := by
  refine ⟨h.run.weak fun σ H Q ⟨c, F, en, S, q⟩ => ?_, fun _ _ _ _ _ hq he k => h.mono _ _ _ _ _ (fun r e' k => ?_) he k⟩
  · refine tM.go h.mono S q (fun r e1 F1 H1 v S1 r1 k1 => ?_) (fun x e1 F1 H1 cls d S1 r1 k1 => k1 F1 H1 cls d (S1.back S.gr0) r1)
    cases r with
    | un => exact k1.elim
    | ce _ _ => exact k1.elim
    | fz d => exact k1 F1 H1 v (S1.back S.gr0) r1
    | ow an ds =>
      obtain ⟨p, vs, rfl, h2, h3, h4, h5, h6⟩ := r1
      refine k1 p ?_ F1 H1 _ ((S1.back S.gr0).addOne h2 h3 h4 h5 h6) (.ref p)
      cases hc : cellOf e1 p with
      | none => rfl
      | some d =>
        obtain ⟨i, hi⟩ := cellOf_get hc
        exact (h6 i (.inr ⟨d, hi⟩)).elim
  · cases r with
    | un => exact k
    | ce _ _ => exact k
    | fz d => exact hq _ _ k
    | ow an ds => exact fun a ha => hq _ _ (k a ha)
/-- a local list, put into a cell -/
def pVarC (j : Nat) : PEx := fun e Q _ => match e[j]? with
  | some (.fz d) => Q d e
  | some (.ow false ds) => ∀ a, Q (.ref a) (e.set j (.fz (.ref a)) ++ [.ce a ds])
  | _ => False
theorem sf_varC {j : Nat} (h : PE X e (tVar j)) : SF X W e (pVarC j) := by
  refine ⟨h.weak fun σ H Q ⟨c, F, en, S, q⟩ => ?_, fun en Q Q' E E' hq _ k => ?_⟩
  · unfold pVarC at q
    split at q
    · rename_i d ed
      obtain ⟨v, k1, k2⟩ := S.fz j d ed
      exact ⟨v, k1, q F H v S k2⟩
    · rename_i ds ed
      obtain ⟨v, k1, S', k2⟩ := S.moveAt ed
      obtain ⟨p, vs, rfl, h2, h3, h4, h5, h6⟩ := k2
      have hs : (en.set j .un)[j]? = some .un := set_self ed
      have S2 := S'.store (r := .fz (.ref p)) (v := .ref p) hs (fun _ z => nomatch z) (fun _ _ z => nomatch z) (.ref p) (fun _ z => nomatch z)
      rw [List.set_set] at S2
      have eσ : σ.set j (some (.ref p)) = σ := by
        refine List.ext_getElem? fun i => ?_
        rw [get_set]
        by_cases z : j = i
        · subst z
          rw [if_pos rfl, if_pos (List.getElem?_eq_some_iff.mp k1).1, k1]
        · rw [if_neg z]
      rw [eσ] at S2
      refine ⟨_, k1, q p F H _ (S2.addOne h2 h3 h4 h5 fun i o => ?_) (.ref p)⟩
      refine h6 i ?_
      unfold Owns at o ⊢
      by_cases z : j = i
      · subst z
        rw [set_self ed] at o
        rcases o with ⟨⟨_, _, k⟩, _⟩ | ⟨_, k⟩ <;> cases k
      · rw [set_other z] at o ⊢; exact o
    · exact q.elim
  · unfold pVarC at k ⊢
    generalize en[j]? = o at k ⊢
    cases o with
    | none => exact k
    | some o =>
      cases o with
      | un => exact k
      | ce _ _ => exact k
      | fz d => exact hq _ _ k
      | ow an ds => cases an with
        | true => exact k
        | false => exact fun a => hq _ _ (k a)
/-- a cell's list, owned by the name that is stored to -/
def pClaim (p : PEx) : POx := fun e Q E => p e (fun d e1 => match d with
  | .ref a => ∃ (ds : List D) (i : Nat), e1[i]? = some (O.ce a ds) ∧ Q (.ow false ds) (dropCe a e1)
  | _ => False) E
theorem cellOf_some : ∀ {e : Env} {a : Addr} {ds : List D} {i : Nat}, e[i]? = some (.ce a ds) → ∃ d, cellOf e a = some d
  | [], a, ds, i, h => by simp at h
  | x :: e, a, ds, 0, h => by
    simp at h; subst h
    exact ⟨ds, by simp [cellOf]⟩
  | x :: e, a, ds, i + 1, h => by
    obtain ⟨d, hd⟩ := cellOf_some (e := e) (i := i) (by simpa using h)
    cases x with
    | ce b es =>
      by_cases z : b = a
      · exact ⟨es, by simp [cellOf, z]⟩
      · exact ⟨d, by simp [cellOf, z, hd]⟩
    | un => exact ⟨d, hd⟩
    | fz _ => exact ⟨d, hd⟩
    | ow _ _ => exact ⟨d, hd⟩
theorem so_claim {p : PEx} (h : SF X W e p) : SO X W e (pClaim p) := by
  refine ⟨h.run.weak fun σ H Q ⟨c, F, en, S, q⟩ => ?_, fun _ _ _ _ _ hq he k => h.mono _ _ _ _ _ (fun d e1 k => ?_) he k⟩
  · refine tM.go h.mono S q (fun d e1 F1 H1 v S1 r1 k1 => ?_) (fun x e1 F1 H1 cls d S1 r1 k1 => k1 F1 H1 cls d (S1.back S.gr0) r1)
    cases d <;> try exact k1.elim
    rename_i a
    have r1' : Rp X.K F1 v (.ref a) := r1
    cases r1' with
    | ref =>
    obtain ⟨ds, i, hi, h2⟩ := k1
    have S1' := S1.back S.gr0
    obtain ⟨S2, no⟩ := S1'.dropCell a
    obtain ⟨_, c2, c3, vs, c4, c5⟩ := S1'.ce i a ds hi
    exact h2 F1 H1 _ S2 ⟨a, vs, rfl, c2, c3, c4, c5, no (cellOf_some hi)⟩
  · cases d <;> try exact k.elim
    obtain ⟨ds, i, h1, h2⟩ := k
    exact ⟨ds, i, h1, hq _ _ h2⟩
/-- e.clear(), e a list in a cell -/
def pClearX (p : PEx) : PEx := fun e Q E => p e (fun d e1 => match d with
  | .ref a => ∃ ds, cellOf e1 a = some ds ∧ Q .non (setCe a [] e1)
  | _ => False) E
theorem sf_clearX {p1 p2 : Pos} {p : PEx} (h : SF X W e p) (hbase : attributeBase e "clear" X.env (eval e X.env) = eval e X.env := by rfl) (hline : (p1.endLine == p2.line) = true := by rfl) : SF X W (.Call (.Attribute e "clear" p1) [] [] p2) (pClearX p) := by
  refine ⟨(pe_bm0 PySem.F.plainAttrs_list PySem.F.slot_list_clear PySem.F.type_list_clear mt_clear h.run hbase hline).weak fun σ H Q ⟨c, F, en, S, q⟩ => ?_, fun _ _ _ _ _ hq he k => h.mono _ _ _ _ _ (fun d e1 k => ?_) he k⟩
  · refine tM.go h.mono S q (fun d e1 F1 H1 v S1 r1 k1 => ?_) (fun x e1 F1 H1 cls d S1 r1 k1 => k1 F1 H1 cls d (S1.back S.gr0) r1)
    cases d <;> try exact k1.elim
    rename_i a
    have r1' : Rp X.K F1 v (.ref a) := r1
    cases r1' with
    | ref =>
    obtain ⟨ds, h1, h2⟩ := k1
    have S1' := S1.back S.gr0
    obtain ⟨i, hi⟩ := cellOf_get h1
    obtain ⟨_, c2, c3, vs, c4, c5⟩ := S1'.ce i a ds hi
    refine ⟨.inl ⟨rfl, vs, SqL.of c4⟩, a, vs, rfl, rfl, c4, ?_⟩
    exact h2 F1 _ _ (S1'.setCell h1 .nil) .non
  · cases d <;> try exact k.elim
    obtain ⟨ds, h1, h2⟩ := k
    exact ⟨ds, h1, hq _ _ h2⟩
end
end PW
set_option Elab.async false
set_option linter.all false
set_option maxRecDepth 100000
set_option maxHeartbeats 4000000
namespace PW
open PySem PySem.Spec PyProof.Rows L2
/-! ### all that is owned, lent for a while -/
def lend1 (e0 : Env) : O → O
  | .un => .un
  | .fz d => .fz (rv e0 d)
  | .ow _ ds => .fz (.lst (ds.map (rv e0)))
  | .ce _ _ => .un
def lendGo (e0 : Env) : Env → Env
  | [] => []
  | .ce _ _ :: e => lendGo e0 e
  | .un :: e => .un :: lendGo e0 e
  | .fz d :: e => lend1 e0 (.fz d) :: lendGo e0 e
  | .ow an ds :: e => lend1 e0 (.ow an ds) :: lendGo e0 e
def lendE (e : Env) : Env := lendGo e e
theorem lendGo_get (e0 : Env) : ∀ (e : Env) (n : Nat), (∀ i, i < n → ∀ b ds, e[i]? ≠ some (.ce b ds)) → (∀ i o, n ≤ i → e[i]? = some o → ∃ b ds, o = .ce b ds) → ∀ i, (lendGo e0 e)[i]? = if i < n then e[i]?.map (lend1 e0) else none
  | [], n, _, _, i => by show ([] : Env)[i]? = _; by_cases h : i < n <;> simp [h]
  | x :: e, 0, h1, h2, i => by
    obtain ⟨b, ds, rfl⟩ := h2 0 x (Nat.le_refl _) rfl
    show (lendGo e0 e)[i]? = _
    rw [lendGo_get e0 e 0 (fun i h => absurd h (by omega)) (fun i o _ k => h2 (i + 1) o (by omega) (by simpa using k)) i, if_neg (by omega), if_neg (by omega)]
  | x :: e, n + 1, h1, h2, i => by
    have hx : ∀ b ds, x ≠ .ce b ds := fun b ds z => h1 0 (by omega) b ds (by rw [z]; rfl)
    have ex : lendGo e0 (x :: e) = lend1 e0 x :: lendGo e0 e := by
      cases x with
      | ce b ds => exact absurd rfl (hx b ds)
      | _ => rfl
    rw [ex]
    cases i with
    | zero => rw [if_pos (by omega)]; rfl
    | succ i =>
      have := lendGo_get e0 e n (fun i h b ds k => h1 (i + 1) (by omega) b ds (by simpa using k)) (fun i o h k => h2 (i + 1) o (by omega) (by simpa using k)) i
      rw [List.getElem?_cons_succ, List.getElem?_cons_succ, this]
      by_cases h : i < n
      · rw [if_pos h, if_pos (by omega)]
      · rw [if_neg h, if_neg (by omega)]
/-- data that says nothing of the heap -/
def scal : D → Bool
  | .non => true
  | .bl _ => true
  | .int _ => true
  | .str _ => true
  | .ty _ => true
  | _ => false
theorem scal_rp {K : PySem.W.Frag} {F F' : Hp} {v : V} {d : D} (h : scal d = true) (r : Rp K F v d) : Rp K F' v d := by
  cases r <;> first | (cases h; done) | constructor
section
variable {K : PySem.W.Frag} {c : PCx} {F H : Hp} {σ : L2.St} {e : Env}
open Classical in
/-- what is known, with all that is owned -/
noncomputable def lendF (F H : Hp) (σ : L2.St) (e : Env) : Hp := fun b => if ∃ j, Owns σ e j b then H b else F b
theorem StR.lendSame (S : StR K c F H σ e) : Same F (lendF F H σ e) ∧ Same (lendF F H σ e) H := by
  refine ⟨fun b o k => ?_, fun b o k => ?_⟩
  · unfold lendF
    rw [if_neg fun ⟨j, oj⟩ => by have := (S.owns oj).1; rw [k] at this; cases this]
    exact k
  · unfold lendF at k
    split at k
    · exact k
    · exact S.gr b o k
theorem StR.lend (S : StR K c F H σ e) : StR K { c with A := fun _ => none } (lendF F H σ e) H σ (lendE e) := by
  obtain ⟨g1, g2⟩ := S.lendSame
  have hg : ∀ i, (lendE e)[i]? = if i < σ.length then e[i]?.map (lend1 e) else none := lendGo_get e e σ.length S.noCeLt (fun i o h k => S.hi i o k h)
  have own : ∀ {j : Nat} {b : Addr}, Owns σ e j b → lendF F H σ e b = H b := fun {j b} o => by unfold lendF; rw [if_pos ⟨j, o⟩]
  have rpv : ∀ {v : V} {d : D}, Rp K F v d → Rp K (lendF F H σ e) v (rv e d) := fun {v d} r => by
    by_cases h : ∃ a, d = .ref a
    · obtain ⟨a, rfl⟩ := h
      cases r
      unfold rv
      dsimp only
      cases hc : cellOf e a with
      | none => exact .ref a
      | some ds =>
        obtain ⟨k, hk⟩ := cellOf_get hc
        obtain ⟨_, c2, c3, vs, c4, c5⟩ := S.ce k a ds hk
        exact .lst (by rw [own (.inr ⟨ds, hk⟩)]; exact c4) (c5.mono g1)
    · have er : rv e d = d := by
        cases d <;> first | rfl | exact absurd ⟨_, rfl⟩ h
      rw [er]
      exact r.mono g1
  have rpsv : ∀ {vs : List V} {ds : List D}, Rps K F vs ds → Rps K (lendF F H σ e) vs (ds.map (rv e)) := fun {vs} => by
    induction vs with
    | nil => intro ds r; cases r; exact .nil
    | cons v vs ih => intro ds r; cases r with | cons r rs => exact .cons (rpv r) (ih rs)
  have what : ∀ {i : Nat} {o : O}, (lendE e)[i]? = some o → ∃ o', e[i]? = some o' ∧ o = lend1 e o' ∧ i < σ.length := fun {i o} k => by
    rw [hg] at k
    by_cases h : i < σ.length
    · rw [if_pos h] at k
      cases ei : e[i]? with
      | none => rw [ei] at k; cases k
      | some o' => rw [ei] at k; cases k; exact ⟨o', rfl, rfl, h⟩
    · rw [if_neg h] at k; cases k
  have noow : ∀ {i : Nat} {an : Bool} {ds : List D}, (lendE e)[i]? ≠ some (.ow an ds) := fun {i an ds} k => by
    obtain ⟨o', _, h, _⟩ := what k
    cases o' <;> cases h
  have noce : ∀ {i : Nat} {a : Addr} {ds : List D}, (lendE e)[i]? ≠ some (.ce a ds) := fun {i an ds} k => by
    obtain ⟨o', _, h, _⟩ := what k
    cases o' <;> cases h
  refine ⟨⟨S.len.1, ?_⟩, S.gr0.trans g1, g2, fun i d k => ?_, fun i an ds k => (noow k).elim, (fun i v k => nomatch k), fun i a ds k => (noce k).elim, fun i o k h => ?_, fun i j p o _ => ?_, fun b o k => ?_⟩
  · refine Nat.le_of_not_lt fun z => ?_
    have h := hg (lendE e).length
    rw [List.getElem?_eq_none (Nat.le_refl _), if_pos z, List.getElem?_eq_getElem (Nat.lt_of_lt_of_le z S.len.2)] at h
    cases h
  · obtain ⟨o', h1, h2, _⟩ := what k
    cases o' with
    | un => cases h2
    | ce _ _ => cases h2
    | fz d' =>
      cases h2
      obtain ⟨v, k1, k2⟩ := S.fz i d' h1
      exact ⟨v, k1, rpv k2⟩
    | ow an ds =>
      cases h2
      obtain ⟨p, vs, k1, k2, k3, k4, k5⟩ := S.ow i an ds h1
      exact ⟨_, k1, .lst (by rw [own (.inl ⟨⟨an, ds, h1⟩, k1⟩)]; exact k4) (rpsv k5)⟩
  · obtain ⟨_, _, _, h'⟩ := what k
    omega
  · rcases o with ⟨⟨_, _, k⟩, _⟩ | ⟨_, k⟩
    · exact (noow k).elim
    · exact (noce k).elim
  · obtain ⟨k1, k2⟩ := S.fr b o k
    refine ⟨?_, k2⟩
    unfold lendF
    rw [if_neg fun ⟨j, oj⟩ => by have := (S.owns oj).2.1; rw [k] at this; cases this]
    exact k1
theorem StR.unlend {c' : PCx} {F' H' : Hp} {e' : Env} (S : StR K c F H σ e) (S' : StR K { c' with F0 := lendF F H σ e, Fr := c.Fr } F' H' σ e') : StR K c F H' σ e := by
  obtain ⟨g1, g2⟩ := S.lendSame
  have gH : Same (lendF F H σ e) H' := S'.gr0.trans S'.gr
  have own : ∀ {j : Nat} {b : Addr}, Owns σ e j b → lendF F H σ e b = H b := fun {j b} o => by unfold lendF; rw [if_pos ⟨j, o⟩]
  refine ⟨S.len, S.gr0, g1.trans gH, S.fz, fun i an ds k => ?_, S.an, fun i a ds k => ?_, S.hi, S.ap, fun b o k => ?_⟩
  · obtain ⟨p, vs, k1, k2, k3, k4, k5⟩ := S.ow i an ds k
    exact ⟨p, vs, k1, k2, k3, gH _ _ (by rw [own (.inl ⟨⟨an, ds, k⟩, k1⟩)]; exact k4), k5⟩
  · obtain ⟨k1, k2, k3, vs, k4, k5⟩ := S.ce i a ds k
    exact ⟨k1, k2, k3, vs, gH _ _ (by rw [own (.inr ⟨ds, k⟩)]; exact k4), k5⟩
  · exact ⟨(S.fr b o k).1, (S'.fr b o k).2⟩
end
section
variable {X : Cx} {W : WX} {e : Expr}
def pLend (p : PEx) : PEx := fun e Q E => p (lendE e) (fun d _ => scal d = true ∧ Q d e) (fun _ _ => False)
theorem sf_lend {p : PEx} (h : SF X W e p) : SF X W e (pLend p) := by
  refine ⟨h.run.weak fun σ H Q ⟨c, F, en, S, q⟩ => ?_, fun _ _ _ _ _ hq he k => h.mono _ _ _ _ _ (fun d e1 k => ⟨k.1, hq _ _ k.2⟩) (fun _ _ k => k) k⟩
  refine tM.go h.mono S.lend q (fun d e1 F1 H1 v S1 r1 k1 => ?_) (fun x e1 F1 H1 cls d S1 r1 k1 => k1.elim)
  exact k1.2 F H1 v (S.unlend (c' := { c with A := fun _ => none }) S1) (scal_rp k1.1 r1)
def pLendT (p : PTx) : PTx := fun e Q E => p (lendE e) (fun b _ => Q b e) (fun _ _ => False)
theorem st_lend {p : PTx} (h : ST X W e p) : ST X W e (pLendT p) := by
  refine ⟨h.run.weak fun σ H Q ⟨c, F, en, S, q⟩ => ?_, fun _ _ _ _ _ hq he k => h.mono _ _ _ _ _ (fun d e1 k => hq _ _ k) (fun _ _ k => k) k⟩
  refine tM.go h.mono S.lend q (fun d e1 F1 H1 v S1 r1 k1 => ?_) (fun x e1 F1 H1 cls d S1 r1 k1 => k1.elim)
  exact k1 F H1 v (S.unlend (c' := { c with A := fun _ => none }) S1) r1
theorem sw_lend {p : PTx} (h : SW X W e p) : SW X W e (pLendT p) := by
  refine ⟨h.run.weak fun σ H Q ⟨c, F, en, S, q⟩ => ?_, fun _ _ _ _ _ hq he k => h.mono _ _ _ _ _ (fun d e1 k => hq _ _ k) (fun _ _ k => k) k⟩
  refine tM.go h.mono S.lend q (fun d e1 F1 H1 v S1 r1 k1 => ?_) (fun x e1 F1 H1 cls d S1 r1 k1 => k1.elim)
  exact k1 F H1 v (S.unlend (c' := { c with A := fun _ => none }) S1) r1
end
end PW
set_option Elab.async false
set_option linter.all false
set_option maxRecDepth 100000
set_option maxHeartbeats 4000000
namespace PW
open PySem PySem.Spec PyProof.Rows L2
/-- a def that may be called by its name -/
structure CalD (P : Program) (w : World) (K : PySem.W.Frag) (mg : Str → Option Value) (base : Heap) (k : Nat) (x : Str) (psp : PSp) : Prop where
  ex : ∃ (f : Addr) (fd : FuncData) (ps : List Str), FnOk P w K mg base (L2.CX P w) k f fd ps (spM K psp) ∧ mg x = some (.ref f) ∧ PySem.W.keepIn K (.ref f) = true ∧ Binds K fd ps []
  mp : MonoP psp
/-- .. with these keywords alone, in the parameters' order -/
def kwG {α : Type} (us ws : List α) : List α := match us with
  | [] => ws
  | _ => []
structure CalK (P : Program) (w : World) (K : PySem.W.Frag) (mg : Str → Option Value) (base : Heap) (k : Nat) (x : Str) (ks : List Str) (psp : PSp) : Prop where
  ex : ∃ (f : Addr) (fd : FuncData) (ps : List Str), FnOk P w K mg base (L2.CX P w) k f fd ps (spM K psp) ∧ mg x = some (.ref f) ∧ PySem.W.keepIn K (.ref f) = true ∧ KBinds K fd ps ks kwG kwG
  mp : MonoP psp
theorem kwG_rel {vs : List V} {us : List Value} {zs : List V} {ws : List Value} (h1 : Vals vs us) (h2 : Vals zs ws) : Vals (kwG vs zs) (kwG us ws) := by
  cases h1 with
  | nil => exact h2
  | cons _ _ => exact .nil
/-- an own error that may be raised by its name -/
structure ErrD (P : Program) (w : World) (K : PySem.W.Frag) (mg : Str → Option Value) (base : Heap) (x : Str) (C : Addr) (fns : List Str) : Prop where
  ex : ∃ (fI : Addr) (fd : FuncData) (ps : List Str), OexC K C ∧ PySem.W.findIn K (.ref C) "__init__" = some (some (.ref fI)) ∧ PySem.W.typeIn K (.ref fI) = some (.type "function") ∧ FnOk P w K mg base (L2.CX P w) 1 fI fd ps (spIni C fns) ∧ Binds K fd ps [] ∧ mg x = some (.ref C) ∧ fns.length ≤ 900
section
variable {X : Cx} {W : WX} {k j : Nat} {psp : PSp} {x : Str} {p pos p' : Pos} {e : Expr} {es : List Expr} {pas : PAs}
theorem so_cal (c : CalD X.prog X.w X.K X.mg X.base k x psp) (hr : Room j X.A) (hk : k ≤ j) (tk : Takes X W) (hg : Gl X x) (ha : SA X W (e :: es) pas) (hdb : (x == ("__debug__" : Str)) = false := by decide)
    (he : starEach (e :: es) X.env = (false, eval e X.env) :: starEach es X.env := by rfl) (hpl : (backTo pos (starEach es X.env)).any (·.1) = false := by rfl) : SO X W (.Call (.Name x p) (e :: es) [] pos) (pCall psp [] pas) := by
  obtain ⟨f, fd, ps, F, hm, kp, hb⟩ := c.ex
  exact so_call F c.mp hr hk tk hg hm kp hb .nil (fun _ => .nil) ha hdb he hpl
theorem so_cal0 (c : CalD X.prog X.w X.K X.mg X.base k x psp) (hr : Room j X.A) (hk : k ≤ j) (tk : Takes X W) (hg : Gl X x) (hdb : (x == ("__debug__" : Str)) = false := by decide) : SO X W (.Call (.Name x p) [] [] pos) (pCall psp [] pNil) := by
  obtain ⟨f, fd, ps, F, hm, kp, hb⟩ := c.ex
  exact so_call0 F c.mp hr hk tk hg hm kp hb .nil (fun _ => .nil) hdb
theorem so_calK {ks : List Str} {kws : List Keyword} (c : CalK X.prog X.w X.K X.mg X.base k x ks psp) (hr : Room j X.A) (hk : k ≤ j) (tk : Takes X W) (hg : Gl X x) (ha : SK X W kws pas)
    (hall : (backToKw pos (keywordEach kws X.env)).all (·.1.isSome) = true := by rfl) (hks : (backToKw pos (keywordEach kws X.env)).filterMap (·.1) = ks := by rfl)
    (hpl : ((backTo pos (starEach [] X.env)).any (·.1) || (backToKw pos (keywordEach kws X.env)).any (·.1.isNone)) = false := by rfl) (hdb : (x == ("__debug__" : Str)) = false := by decide) : SO X W (.Call (.Name x p) [] kws pos) (pCallK psp id pas) := by
  obtain ⟨f, fd, ps, F, hm, kp, hb⟩ := c.ex
  exact so_callK0 F c.mp hr hk tk hg hm kp hb (fun _ _ _ _ h => h) ha hall hks hpl hdb
theorem ss_raiseD {C : Addr} {fns : List Str} (r : ErrD X.prog X.w X.K X.mg X.base x C fns) (hc : X.calm = true) (tk : Takes X W) (hr : Room j X.A) (hk : 2 ≤ j) (hg : Gl X x) (ha : SA X W (e :: es) pas)
    (hdb : (x == ("__debug__" : Str)) = false := by decide) (he : starEach (e :: es) X.env = (false, eval e X.env) :: starEach es X.env := by rfl) (hpl : (backTo pos (starEach es X.env)).any (·.1) = false := by rfl) :
    SS X W (.Raise (some (.Call (.Name x p) (e :: es) [] pos)) none p') (pRaise C fns pas) := by
  obtain ⟨fI, fd, ps, T, iC, tI, F1, hb, hm, hn⟩ := r.ex
  exact ss_raise hc tk T iC tI F1 (hr.mono hk) hb hg hm hn ha hdb he hpl
theorem sf_glN {i : Int} (hg : Gl X x) (hm : ∃ t, X.mg x = some (.int i t)) (hd : (x == ("__debug__" : Str)) = false := by decide) : SF X W (.Name x pos) (pC (.int i)) := by
  obtain ⟨t, h⟩ := hm
  exact sf_glI hg h hd
end
theorem hu64 {k : Nat} {A : Around} (hr : Room k A) : A.units + 64 < cLine := by have := hr.un; omega
/-- a promise that raises nothing -/
def noEx {α : Type} : α → Er → List O → Prop := fun _ _ _ => False
theorem CalD.mk' {P : Program} {w : World} {K : PySem.W.Frag} {mg : Str → Option Value} {base : Heap} {k : Nat} {x : Str} {α : Type} {pre : α → List O → Prop} {post : α → O → List O → Prop} {exc : α → Er → List O → Prop} {f : Addr} {fd : FuncData} {ps : List Str}
    (F : FnOk P w K mg base (L2.CX P w) k f fd ps (spM K (mkSp pre post exc))) (hm : mg x = some (.ref f)) (kp : PySem.W.keepIn K (.ref f) = true) (hb : Binds K fd ps []) : CalD P w K mg base k x (mkSp pre post exc) := ⟨⟨f, fd, ps, F, hm, kp, hb⟩, mkSp_mono⟩
end PW
set_option Elab.async false
set_option linter.all false
set_option maxRecDepth 100000
set_option maxHeartbeats 4000000
namespace PW
open PySem PySem.Spec PyProof.Rows L2
section
variable {e : Env}
theorem rv_non : rv e .non = .non := rfl
theorem rv_bl {b : Bool} : rv e (.bl b) = .bl b := rfl
theorem rv_int {i : Int} : rv e (.int i) = .int i := rfl
theorem rv_str {i : Str} : rv e (.str i) = .str i := rfl
theorem rv_ty {i : String} : rv e (.ty i) = .ty i := rfl
theorem rv_lst {i : List D} : rv e (.lst i) = .lst i := rfl
theorem rv_tup {i : List D} : rv e (.tup i) = .tup i := rfl
theorem rv_rls {i : List D} : rv e (.rls i) = .rls i := rfl
theorem rv_xr {a dd C : Addr} {fs : List (Str × D)} : rv e (.xr a dd C fs) = .xr a dd C fs := rfl
theorem bool_if {b : Bool} {p q : Prop} : (if b = true then p else q) ↔ (b = true → p) ∧ (b = false → q) := by cases b <;> simp
end
/-! ### loops -/
theorem forGo_inv {ok : Env → Prop} {g : PTg} {p : PSt} {Z : PEnds} {ds : List D} (I : Nat → Env → Prop) (hok : ∀ i e, i ≤ ds.length → I i e → ok e)
    (step : ∀ (i : Nat) (d : D) (e : Env) (R : Env → Prop), ds[i]? = some d → I i e → (∀ e, I (i + 1) e → R e) → g d e (fun e1 => p { Z with nx := R, bk := Z.nx, ct := R } e1)) (fin : ∀ e, I ds.length e → Z.nx e) {e : Env} (h0 : I 0 e) : forGo ok g p Z ds e := by
  have key : ∀ (n : Nat) (i : Nat) (e : Env), ds.length - i = n → i ≤ ds.length → I i e → forGo ok g p Z (ds.drop i) e := by
    intro n
    induction n with
    | zero =>
      intro i e hn hi h
      have : i = ds.length := by omega
      subst this
      rw [List.drop_length]
      exact ⟨hok _ _ hi h, fin e h⟩
    | succ n ih =>
      intro i e hn hi h
      have hlt : i < ds.length := by omega
      rw [List.drop_eq_getElem_cons hlt]
      exact ⟨hok _ _ hi h, step i _ e _ (List.getElem?_eq_getElem hlt) h fun e k => ih (i + 1) e (by omega) hlt k⟩
  have := key ds.length 0 e (by omega) (Nat.zero_le _) h0
  rw [List.drop_zero] at this
  exact this
/-- a loop over frozen data -/
theorem pFor_inv {src : PSrc} {g : PTg} {p : PSt} {Z : PEnds} {e : Env} (h : src e (fun ds e1 => forGo (fun _ => True) g p Z ds e1) Z.ex) : pFor src g p Z e := h
theorem lcGo_inv {ok : Env → Prop} {g : PTg} {tst : PTx} {elt : PEx} {vs : List Nat} {Kf : List D → Env → Prop} {ds : List D} (I : Nat → List D → Env → Prop) (hok : ∀ i a e, i ≤ ds.length → I i a e → ok e)
    (step : ∀ (i : Nat) (d : D) (acc : List D) (e : Env) (R : List D → Env → Prop), ds[i]? = some d → I i acc e → (∀ a e, I (i + 1) a e → R a e) → g d e (fun e1 => tst e1 (fun b e2 => if b = true then elt e2 (fun y e3 => acc.length < sizeLine ∧ noOw e3 vs ∧ R (acc ++ [y]) (wipeE e3 vs)) (fun _ _ => False)
      else noOw e2 vs ∧ R acc (wipeE e2 vs)) (fun _ _ => False))) (fin : ∀ a e, I ds.length a e → Kf a e) {e : Env} (h0 : I 0 [] e) : lcGo ok g tst elt vs Kf ds [] e := by
  have key : ∀ (n : Nat) (i : Nat) (acc : List D) (e : Env), ds.length - i = n → i ≤ ds.length → I i acc e → lcGo ok g tst elt vs Kf (ds.drop i) acc e := by
    intro n
    induction n with
    | zero =>
      intro i acc e hn hi h
      have : i = ds.length := by omega
      subst this
      rw [List.drop_length]
      exact ⟨hok _ _ _ hi h, fin acc e h⟩
    | succ n ih =>
      intro i acc e hn hi h
      have hlt : i < ds.length := by omega
      rw [List.drop_eq_getElem_cons hlt]
      exact ⟨hok _ _ _ hi h, step i _ acc e _ (List.getElem?_eq_getElem hlt) h fun a e k => ih (i + 1) a e (by omega) hlt k⟩
  have := key ds.length 0 [] e (by omega) (Nat.zero_le _) h0
  rw [List.drop_zero] at this
  exact this
/-- a call, its promise known -/
theorem callGo_mk {α : Type} {pre : α → List O → Prop} {post : α → O → List O → Prop} {exc : α → Er → List O → Prop} {as : List Arg} {e1 : Env} {Q : O → Env → Prop} {E : Er → Env → Prop} (args : List O) (a : α) (h1 : argsOf e1 as = some args) (h2 : (refIx as).Nodup) (h3 : pre a args)
    (h4 : ∀ r o, post a r o → Q r (wbC as.length as o e1)) (h5 : ∀ x o, exc a x o → E x (wb as o e1)) : callGo (mkSp pre post exc) [] as e1 Q E :=
  ⟨args, h1, h2, a, by simpa using h3, fun r o k => h4 r o k, fun x o k => h5 x o k⟩
end PW
set_option Elab.async false
set_option linter.all false
set_option maxRecDepth 100000
set_option maxHeartbeats 4000000
namespace PW
open PySem PySem.Spec PyProof.Rows L2
/-! ### == over plain data -/
abbrev I1 (l : List Int) : D := .lst (l.map .int)
abbrev I2 (R : List (List Int)) : D := .lst (R.map I1)
theorem pys_ints : ∀ l : List Int, D.pys (l.map .int) = some (l.map .int)
  | [] => rfl
  | n :: l => by
    show (match D.py (.int n), D.pys (l.map .int) with | some p, some ps => some (p :: ps) | _, _ => none) = _
    rw [pys_ints l]; rfl
theorem py_I1 (l : List Int) : (I1 l).py = some (PyData.list (l.map .int)) := by
  unfold I1 D.py
  rw [pys_ints]; rfl
theorem pys_rows : ∀ R : List (List Int), D.pys (R.map I1) = some (R.map fun r => PyData.list (r.map .int))
  | [] => rfl
  | r :: R => by
    show (match D.py (I1 r), D.pys (R.map I1) with | some p, some ps => some (p :: ps) | _, _ => none) = _
    rw [pys_rows R, py_I1]; rfl
theorem py_I2 (R : List (List Int)) : (I2 R).py = some (PyData.list (R.map fun r => PyData.list (r.map .int))) := by
  unfold I2 D.py
  rw [pys_rows]; rfl
theorem canLayAll_i : ∀ ns : List Int, PyData.canLayAll0 (ns.map PyData.int) = true
  | [] => rfl
  | _ :: r => by simp [PyData.canLayAll0, PyData.canLay0, canLayAll_i r]
theorem depthAll_i : ∀ ns : List Int, PyData.depthAll (ns.map PyData.int) = 0
  | [] => rfl
  | _ :: r => by simp [PyData.depthAll, PyData.depth, depthAll_i r]
theorem canLayAll_r : ∀ R : List (List Int), PyData.canLayAll0 (R.map fun r => PyData.list (r.map .int)) = true
  | [] => rfl
  | r :: R => by simp [PyData.canLayAll0, PyData.canLay0, canLayAll_r R, canLayAll_i]
theorem depthAll_r : ∀ R : List (List Int), PyData.depthAll (R.map fun r => PyData.list (r.map .int)) ≤ 1
  | [] => by simp [PyData.depthAll]
  | r :: R => by
    have := depthAll_r R
    simp [PyData.depthAll, PyData.depth, depthAll_i]
    omega
theorem shaped_i (l : List Int) : SeqAt.shaped (.list (l.map PyData.int)) = true := by simp [SeqAt.shaped, PyData.canLay0, PyData.depth, canLayAll_i, depthAll_i]
theorem shaped_ti (l : List Int) : SeqAt.shaped (.tuple (l.map PyData.int)) = true := by simp [SeqAt.shaped, PyData.canLay0, PyData.depth, canLayAll_i, depthAll_i]
theorem shaped_r (R : List (List Int)) : SeqAt.shaped (.list (R.map fun r => PyData.list (r.map .int))) = true := by
  have := depthAll_r R
  simp [SeqAt.shaped, PyData.canLay0, PyData.depth, canLayAll_r]
  omega
theorem shaped_int (i : Int) : SeqAt.shaped (.int i) = true := by simp [SeqAt.shaped, PyData.canLay0, PyData.depth]
theorem eqvAll_i : ∀ ns ms : List Int, PyData.eqvAll (ns.map PyData.int) (ms.map PyData.int) = decide (ns = ms)
  | [], [] => by simp [PyData.eqvAll]
  | [], _ :: _ => by simp [PyData.eqvAll]
  | _ :: _, [] => by simp [PyData.eqvAll]
  | a :: r, b :: t => by
    simp only [List.map_cons, PyData.eqvAll, PyData.eqv, eqvAll_i r t]
    by_cases h : a = b <;> by_cases h' : r = t <;> simp [h, h']
theorem eqvAll_r : ∀ R S : List (List Int), PyData.eqvAll (R.map fun r => PyData.list (r.map .int)) (S.map fun r => PyData.list (r.map .int)) = decide (R = S)
  | [], [] => by simp [PyData.eqvAll]
  | [], _ :: _ => by simp [PyData.eqvAll]
  | _ :: _, [] => by simp [PyData.eqvAll]
  | a :: r, b :: t => by
    simp only [List.map_cons, PyData.eqvAll, PyData.eqv, eqvAll_r r t, eqvAll_i]
    by_cases h : a = b <;> by_cases h' : r = t <;> simp [h, h']
theorem fEq_int {neg : Bool} {i j : Int} {Q : Bool → Prop} : fEq neg (.int i) (.int j) Q ↔ Q (if neg then !(i == j) else i == j) := by
  show ((SeqAt.shaped (.int i) = true ∧ SeqAt.shaped (.int j) = true) ∧ Q (if neg then !PyData.eqv (.int i) (.int j) else PyData.eqv (.int i) (.int j))) ↔ _
  simp [shaped_int, PyData.eqv]
theorem fEq_I1 {neg : Bool} {l m : List Int} {Q : Bool → Prop} : fEq neg (I1 l) (I1 m) Q ↔ Q (if neg then !decide (l = m) else decide (l = m)) := by
  unfold fEq
  rw [py_I1, py_I1]
  simp [shaped_i, PyData.eqv, eqvAll_i]
theorem fEq_I2 {neg : Bool} {l m : List (List Int)} {Q : Bool → Prop} : fEq neg (I2 l) (I2 m) Q ↔ Q (if neg then !decide (l = m) else decide (l = m)) := by
  unfold fEq
  rw [py_I2, py_I2]
  simp [shaped_r, PyData.eqv, eqvAll_r]
theorem fEq_nil1 {neg : Bool} {l : List Int} {Q : Bool → Prop} : fEq neg (I1 l) (.lst []) Q ↔ Q (if neg then !decide (l = []) else decide (l = [])) := fEq_I1 (m := [])
/-! ### sequences -/
def seqOf : D → Option (List D)
  | .lst xs => some xs
  | .tup xs => some xs
  | .rls xs => some xs
  | _ => none
theorem seq_ne {d : D} {ds : List D} (h : seqOf d = some ds) {e : Env} : rv e d = d := by cases d <;> first | rfl | cases h
theorem gLen_seq {d : D} {ds : List D} (h : seqOf d = some ds) {Q : O → Prop} : gLen [d] Q ↔ Q (.fz (.int ds.length)) := by
  cases d <;> first | (cases h; done) | (cases h; exact Iff.rfl)
theorem seqD_seq {d : D} {ds : List D} (h : seqOf d = some ds) {Q : List D → Env → Prop} {e : Env} : seqD Q d e ↔ Q ds e := by
  cases d <;> first | (cases h; done) | (cases h; exact Iff.rfl)
theorem fIx_seq {d : D} {ds : List D} (h : seqOf d = some ds) {i : Nat} {x : D} (hx : ds[i]? = some x) {Q : O → Prop} : fIx d (.int (i : Int)) Q ↔ Q (.fz x) := by
  have hl : i < ds.length := (List.getElem?_eq_some_iff.mp hx).1
  have e : L2.atI ds (i : Int) = some x := by
    unfold L2.atI ixN
    simp
    rw [if_pos (by omega)]
    simpa using hx
  cases d <;> first
    | (cases h; done)
    | (cases h
       constructor
       · rintro ⟨y, h1, h2⟩
         rw [e] at h1; cases h1; exact h2
       · exact fun k => ⟨x, e, k⟩)
theorem gList_seq {d : D} {ds : List D} (h : seqOf d = some ds) {Q : O → Prop} : gList [d] Q ↔ Q (.ow false ds) := by
  cases d <;> first | (cases h; done) | (cases h; exact Iff.rfl)
theorem ixN_nat {n i : Nat} (h : i < n) : ixN n (i : Int) = some i := by
  unfold ixN
  simp
  omega
end PW
namespace PW
open PySem PySem.Spec PyProof.Rows L2
/-! ### numbers or None -/
def oD : Option Nat → D
  | none => .non
  | some c => .int (c : Int)
abbrev oL (l : List (Option Nat)) : List D := l.map oD
theorem oL_get {l : List (Option Nat)} {i : Nat} {x : Option Nat} (h : l[i]? = some x) : (oL l)[i]? = some (oD x) := by rw [List.getElem?_map, h]; rfl
theorem oL_set {l : List (Option Nat)} {i : Nat} {x : Option Nat} : (oL l).set i (oD x) = oL (l.set i x) := (List.map_set).symm
theorem fIx_oL {l : List (Option Nat)} {i : Nat} {x : Option Nat} (h : l[i]? = some x) {Q : O → Prop} : fIx (.lst (oL l)) (.int (i : Int)) Q ↔ Q (.fz (oD x)) := fIx_seq rfl (oL_get h)
theorem oD_some {c : Nat} : oD (some c) = .int (c : Int) := rfl
theorem oD_none : oD none = .non := rfl
theorem isNon_oD {x : Option Nat} : isNon (oD x) = x.isNone := by cases x <;> rfl
theorem rv_oD {e : Env} {x : Option Nat} : rv e (oD x) = oD x := by cases x <;> rfl
end PW
namespace PW
open PySem PySem.Spec PyProof.Rows L2
/-! ### equations: what simp unfolds by -/
section
variable {e : Env} {k : Env → Prop} {Q : O → Prop} {QB : Bool → Prop} {QD : D → Env → Prop} {QE : Bool → Env → Prop} {QI : Int → Env → Prop} {QL : List D → Env → Prop} {i j : Int} {d : D} {ds xs ys : List D} {an b : Bool} {n : Nat} {s t : Str} {C : Int → Int → Prop} {g : Int → Int → Int} {gb : Int → Int → Bool}
theorem q_frz1 : frz QD (.fz d) e = QD d e := rfl
theorem q_frz2 : frz QD (.ow an ds) e = QD (.lst ds) e := rfl
theorem q_stR1 : stR e n (.fz d) k = k (e.set n (.fz d)) := rfl
theorem q_stR2 : stR e n (.ow an ds) k = k (e.set n (.ow false ds)) := rfl
theorem q_free1 : freeO .un = True := rfl
theorem q_free2 : freeO (.fz d) = True := rfl
theorem q_free3 : freeO (.ow false ds) = True := by unfold freeO; simp
theorem q_isN1 : isNon .non = true := rfl
theorem q_isN2 : isNon (.int i) = false := rfl
theorem q_fIsN : fIsN b d .non QB = QB (if b then !isNon d else isNon d) := by cases d <;> rfl
theorem q_fCI : fCI gb (.int i) (.int j) QB = QB (gb i j) := rfl
theorem q_fI : fI C g (.int i) (.int j) Q = (C i j ∧ Q (.fz (.int (g i j)))) := rfl
theorem q_fI0 : fI0 g (.int i) (.int j) Q = Q (.fz (.int (g i j))) := rfl
theorem q_add1 : fAdd (.int i) (.int j) Q = Q (.fz (.int (i + j))) := rfl
theorem q_add2 : fAdd (.lst xs) (.lst ys) Q = (xs.length + ys.length ≤ sizeLine ∧ Q (.ow false (xs ++ ys))) := rfl
theorem q_add3 : fAdd (.tup xs) (.tup ys) Q = (xs.length + ys.length ≤ sizeLine ∧ Q (.fz (.tup (xs ++ ys)))) := rfl
theorem q_mul1 : fMul (.int i) (.int j) Q = ((CMulW i j ∨ CMul i j) ∧ Q (.fz (.int (i * j)))) := rfl
theorem q_mul2 : fMul (.lst xs) (.int i) Q = ((-(2 ^ 63) ≤ i ∧ i < 2 ^ 63 ∧ xs.length * i.toNat ≤ sizeLine) ∧ Q (.ow false (List.replicate i.toNat xs).flatten)) := rfl
theorem q_isBl : isBl QE (.bl b) e = QE b e := rfl
theorem q_isInt : PW.isInt QI (.int i) e = QI i e := rfl
theorem q_seq1 : seqD QL (.lst ds) e = QL ds e := rfl
theorem q_seq2 : seqD QL (.tup ds) e = QL ds e := rfl
theorem q_seq3 : seqD QL (.rls ds) e = QL ds e := rfl
theorem q_len1 : gLen [.lst xs] Q = Q (.fz (.int xs.length)) := rfl
theorem q_len2 : gLen [.tup xs] Q = Q (.fz (.int xs.length)) := rfl
theorem q_len3 : gLen [.rls xs] Q = Q (.fz (.int xs.length)) := rfl
theorem q_int1 : gInt [.int i] Q = Q (.fz (.int i)) := rfl
theorem q_abs : gAbs [.int i] Q = Q (.fz (.int (if i < 0 then -i else i))) := rfl
theorem q_two : gTwo g [.int i, .int j] Q = Q (.fz (.int (g i j))) := rfl
theorem q_list1 : gList [.lst xs] Q = Q (.ow false xs) := rfl
theorem q_list2 : gList [.tup xs] Q = Q (.ow false xs) := rfl
theorem q_tuple1 : gTuple [.lst xs] Q = Q (.fz (.tup xs)) := rfl
theorem q_tuple2 : gTuple [.tup xs] Q = Q (.fz (.tup xs)) := rfl
theorem q_tru1 : truD (.bl b) QB = QB b := rfl
theorem q_tru2 : truD (.int i) QB = QB (i != 0) := rfl
theorem q_rs1 : rsO e (some (.fz d)) = some (rv e d) := rfl
theorem q_rs2 : rsO e (some (.ow an ds)) = some (.lst ds) := rfl
theorem q_cut1 {lo hi : Option Int} : cutO (.lst xs) lo hi Q = Q (.ow false (cutD xs lo hi)) := rfl
theorem q_cut2 {lo hi : Option Int} : cutO (.tup xs) lo hi Q = Q (.fz (.tup (cutD xs lo hi))) := rfl
theorem q_cut3 {lo hi : Option Int} : cutO (.rls xs) lo hi Q = Q (.ow false (cutD xs lo hi)) := rfl
theorem q_gtT {gs : PTgs} : gtT n gs (.tup ds) e k = (ds.length = n ∧ gs ds e k) := rfl
end
end PW
set_option Elab.async false
set_option linter.all false
set_option maxRecDepth 100000
set_option maxHeartbeats 4000000
namespace PW
open PySem PySem.Spec PyProof.Rows L2
/-! ### in, over numbers -/
theorem inV_ints {i : Int} : ∀ {l : List Int}, inV (.int i) (l.map V.int) = decide (i ∈ l)
  | [] => rfl
  | j :: l => by
    have h := inV_ints (i := i) (l := l)
    unfold inV at h ⊢
    rw [List.map_cons, List.any_cons, h]
    have : eqV (.int j) (.int i) = decide (j = i) := by
      show (j == i) = _
      by_cases z : j = i <;> simp [z]
    rw [this]
    by_cases z : j = i
    · subst z; simp
    · simp [z, Ne.symm z]
theorem fInL_int {neg : Bool} {i : Int} {l : List Int} {Q : Bool → Prop} : fInL neg (.int i) (l.map .int) Q ↔ Q (if neg then !decide (i ∈ l) else decide (i ∈ l)) := by
  unfold fInL
  rw [toVs_ints]
  show Q (if neg then !inV (.int i) (l.map V.int) else inV (.int i) (l.map V.int)) ↔ _
  rw [inV_ints]
theorem fIn_int {neg : Bool} {i : Int} {d : D} {l : List Int} (h : seqOf d = some (l.map .int)) {Q : Bool → Prop} : fIn neg (.int i) d Q ↔ Q (if neg then !decide (i ∈ l) else decide (i ∈ l)) := by
  cases d <;> first | (cases h; done) | (cases h; exact fInL_int)
/-! ### comprehensions whose env comes back -/
theorem lcGo_filter {α : Type} {ok : Env → Prop} {g : PTg} {tst : PTx} {elt : PEx} {vs : List Nat} {Kf : List D → Env → Prop} {e : Env} (l : List α) (f : α → D) (p : α → Bool) (h : α → D) (hl : l.length ≤ sizeLine) (hok : ok e)
    (step : ∀ x ∈ l, ∀ (acc : List D) (R : List D → Env → Prop), acc.length < sizeLine → (p x = true → R (acc ++ [h x]) e) → (p x = false → R acc e) → g (f x) e (fun e1 => tst e1 (fun b e2 => if b = true then elt e2 (fun y e3 => acc.length < sizeLine ∧ noOw e3 vs ∧ R (acc ++ [y]) (wipeE e3 vs)) (fun _ _ => False)
      else noOw e2 vs ∧ R acc (wipeE e2 vs)) (fun _ _ => False))) (fin : Kf ((l.filter p).map h) e) {ds : List D} (hds : ds = l.map f) : lcGo ok g tst elt vs Kf ds [] e := by
  subst hds
  refine lcGo_inv (fun i acc e' => e' = e ∧ acc = ((l.take i).filter p).map h) (fun _ _ _ _ h => by rw [h.1]; exact hok) ?_ ?_ ⟨rfl, by simp⟩
  · rintro i d acc e' R hd ⟨rfl, rfl⟩ hR
    rw [List.getElem?_map] at hd
    obtain ⟨x, hx, rfl⟩ := Option.map_eq_some_iff.mp hd
    obtain ⟨hi, hx2⟩ := List.getElem?_eq_some_iff.mp hx
    have ht : l.take (i + 1) = l.take i ++ [x] := by rw [List.take_succ_eq_append_getElem hi, hx2]
    have hlen : (((l.take i).filter p).map h).length < sizeLine := by
      rw [List.length_map]
      have h1 := List.length_filter_le p (l.take i)
      have h2 : (l.take i).length ≤ i := by simp; omega
      omega
    refine step x (List.mem_of_getElem? hx) _ R hlen (fun hp => hR _ _ ⟨rfl, ?_⟩) (fun hp => hR _ _ ⟨rfl, ?_⟩)
    · rw [ht, List.filter_append, List.map_append]; simp [hp]
    · rw [ht, List.filter_append, List.map_append]; simp [hp]
  · rintro a e' ⟨rfl, rfl⟩
    simpa using fin
end PW
set_option Elab.async false
set_option linter.all false
set_option maxRecDepth 100000
set_option maxHeartbeats 4000000
namespace PW
open PySem PySem.Spec PyProof.Rows L2 NdefX
/-! ### what the head tells of a def, of an own error -/
structure FnF (K : PySem.W.Frag) (x : Str) (st : Stmt) (f : Addr) : Prop where
  a : PySem.W.nsIn K mainGlobals x = some (some (.ref f))
  fn : ∃ (oc : Value) (od an : Option Addr) (sl : Array (Option Value)) (kV dc pm cd ct : Value), K.lookup f = some ⟨oc, od, .func (PySem.W.fnOf x x (defArgs st) (defBody st) (defScope st) .none kV dc pm an cd ct), sl⟩ ∧ PySem.W.codeIn K cd x = true
  k : PySem.W.keepIn K (.ref f) = true
theorem FnF.fun {K : PySem.W.Frag} {x : Str} {st : Stmt} {f : Addr} (F : FnF K x st f) : ∃ fd, Fun K x x st f fd := by
  obtain ⟨oc, od, an, sl, kV, dc, pm, cd, ct, h1, h2⟩ := F.fn
  exact ⟨_, fun_mk h1 h2 F.k⟩
theorem FnF.mg {K : PySem.W.Frag} {x : Str} {st : Stmt} {f : Addr} {h : Heap} {mg : Str → Option Value} (F : FnF K x st f) (X : K.In h) (G : h.Ns mainGlobals mg) : mg x = some (.ref f) := PySem.W.mg_of X G F.a
def BindA (x : Str) (st : Stmt) (ps : List Str) : Prop := ∀ (kV doc pm : Value) (an : Option Addr) (cdv ct : Value) (us : List Value), us.length = ps.length → bindArgs (PySem.W.fnOf x x (defArgs st) (defBody st) (defScope st) .none kV doc pm an cdv ct) ⟨us, []⟩ = pure (ps.zip us)
/-- the same with all its arguments by name -/
def BindK (x : Str) (st : Stmt) (ps ks : List Str) : Prop := ∀ (kV doc pm : Value) (an : Option Addr) (cdv ct : Value) (us : List Value), us.length = ps.length → bindArgs (PySem.W.fnOf x x (defArgs st) (defBody st) (defScope st) .none kV doc pm an cdv ct) ⟨[], ks.zip us⟩ = pure (ps.zip us)
section
variable {P : Program} {w : World} {K : PySem.W.Frag} {mg : Str → Option Value} {base h : Heap} {k : Nat} {x : Str} {st : Stmt} {f : Addr} {ps ks : List Str} {α : Type} {pre : α → List O → Prop} {post : α → O → List O → Prop} {exc : α → Er → List O → Prop}
theorem FnF.cal (F : FnF K x st f) (hm : mg x = some (.ref f)) (ok : ∀ fd, Fun K x x st f fd → FnOk P w K mg base (L2.CX P w) k f fd ps (spM K (mkSp pre post exc))) (hb : BindA x st ps) : CalD P w K mg base k x (mkSp pre post exc) := by
  obtain ⟨fd, Fn⟩ := F.fun
  exact CalD.mk' (ok fd Fn) hm F.k (Fn.binds hb)
theorem FnF.calK (F : FnF K x st f) (hm : mg x = some (.ref f)) (ok : ∀ fd, Fun K x x st f fd → FnOk P w K mg base (L2.CX P w) k f fd ps (spM K (mkSp pre post exc))) (hb : BindK x st ps ks) (hp : ps ≠ []) : CalK P w K mg base k x ks (mkSp pre post exc) := by
  obtain ⟨fd, Fn⟩ := F.fun
  obtain ⟨oc, od, kV, doc, pm, an, cdv, ct, osl, rfl, lk, hcd⟩ := id Fn.ex
  refine ⟨⟨f, _, ps, ok _ Fn, hm, F.k, ⟨fun s us ws _ hl => ?_, kwG_rel⟩⟩, mkSp_mono⟩
  cases us with
  | nil => exact .of_eq (hb kV doc pm an cdv ct ws hl)
  | cons u us => exact absurd (List.length_eq_zero_iff.mp (show ps.length = 0 from hl.symm)) hp
end
structure ErrF (K : PySem.W.Frag) (file x qual : Str) (st : Stmt) (C : Addr) : Prop where
  a : PySem.W.nsIn K mainGlobals x = some (some (.ref C))
  cls : ∃ nm q N bs bm sn sub ab col dd k0 k1 k2 k3 k5, K.lookup C = some (excClassObj nm q C N bs bm true sn sub ab col dd k0 k1 k2 k3 k5 "ValueError.__new__") ∧ PySem.HandSPX.refsVE bm = true
  sa : PySem.W.findIn K (.ref C) "__setattr__" = some (some (.builtin "object.__setattr__"))
  exC : PySem.W.subIn K (.ref C) (.type "BaseException") = some true
  tyC : PySem.W.typeIn K (.ref C) = some (.type "type")
  kC : PySem.W.keepIn K (.ref C) = true
  ini : ∃ (f cc c : Addr), PySem.W.findIn K (.ref C) "__init__" = some (some (.ref f)) ∧ PySem.W.typeIn K (.ref f) = some (.type "function") ∧
    (∃ oc od osl doc pm ct, K.lookup f = some ⟨oc, od, .func (PySem.W.fnX "__init__" qual (defArgs st) (defBody st) (defScope st) [(("__class__" : Str), cc)] .none .none doc pm none (.ref c) ct), osl⟩) ∧
    (∃ cl cld csl, K.lookup cc = some ⟨cl, cld, .cell (some (.ref C)), csl⟩) ∧ PySem.W.codeIn K (.ref c) qual = true ∧ ∃ ccl cdd vs ccs tf, K.lookup c = some ⟨ccl, cdd, .fields vs, ccs⟩ ∧ vs[2]? = some (.str file tf)
  sup : PySem.W.ks_superIn K C C "__init__" = some (some (.builtin "ValueError.__init__"))
  subV : PySem.W.subIn K (.ref C) (.type "ValueError") = some true
  mro : PySem.W.mroIn K C (.ref C) = some true
  ga : PySem.W.findIn K (.ref C) "__getattribute__" = some (some (.builtin "BaseException.__getattribute__"))
  gg : PySem.W.findIn K (.ref C) "__getattr__" = some none
  hd : PySem.W.hasDictIn K C = true
  ca : PySem.W.findIn K (.ref C) "__class__" = some (some (.builtin "object.__class__"))
  gs : PySem.W.specialIn K (.builtin "object.__class__") "__get__" = some (some (.builtin "getset_descriptor.__get__"))
  tk : PySem.W.takesIn K (.builtin "object.__class__") = some true
  mo : PySem.W.mroIn K C (.type "object") = some true
theorem FnF.of {K : PySem.W.Frag} {x : Str} {st : Stmt} {f : Addr} {oc : Value} {od an : Option Addr} {sl : Array (Option Value)} {kV dc pm cd ct : Value} (a : PySem.W.nsIn K mainGlobals x = some (some (.ref f)))
    (l : K.lookup f = some ⟨oc, od, .func (PySem.W.fnOf x x (defArgs st) (defBody st) (defScope st) .none kV dc pm an cd ct), sl⟩) (c : PySem.W.codeIn K cd x = true) (k : PySem.W.keepIn K (.ref f) = true) : FnF K x st f := ⟨a, ⟨oc, od, an, sl, kV, dc, pm, cd, ct, l, c⟩, k⟩
theorem ErrF.of {K : PySem.W.Frag} {file x qual : Str} {st : Stmt} {C : Addr} {nm q N bs bm sn sub ab col dd k0 k1 k2 k3 k5} {f cc c : Addr} {oc : Value} {od : Option Addr} {osl : Array (Option Value)} {doc pm ct cl : Value} {cld : Option Addr} {csl : Array (Option Value)} {ccl : Value} {cdd : Option Addr} {vs : Array Value} {ccs : Array (Option Value)} {tf}
    (a : PySem.W.nsIn K mainGlobals x = some (some (.ref C)))
    (x1 : K.lookup C = some (excClassObj nm q C N bs bm true sn sub ab col dd k0 k1 k2 k3 k5 "ValueError.__new__")) (x2 : PySem.HandSPX.refsVE bm = true)
    (sa : PySem.W.findIn K (.ref C) "__setattr__" = some (some (.builtin "object.__setattr__")))
    (exC : PySem.W.subIn K (.ref C) (.type "BaseException") = some true)
    (tyC : PySem.W.typeIn K (.ref C) = some (.type "type"))
    (kC : PySem.W.keepIn K (.ref C) = true)
    (i1 : PySem.W.findIn K (.ref C) "__init__" = some (some (.ref f))) (i2 : PySem.W.typeIn K (.ref f) = some (.type "function"))
    (i3 : K.lookup f = some ⟨oc, od, .func (PySem.W.fnX "__init__" qual (defArgs st) (defBody st) (defScope st) [(("__class__" : Str), cc)] .none .none doc pm none (.ref c) ct), osl⟩)
    (i4 : K.lookup cc = some ⟨cl, cld, .cell (some (.ref C)), csl⟩) (i5 : PySem.W.codeIn K (.ref c) qual = true) (i6 : K.lookup c = some ⟨ccl, cdd, .fields vs, ccs⟩) (i7 : vs[2]? = some (.str file tf))
    (sup : PySem.W.ks_superIn K C C "__init__" = some (some (.builtin "ValueError.__init__")))
    (subV : PySem.W.subIn K (.ref C) (.type "ValueError") = some true)
    (mro : PySem.W.mroIn K C (.ref C) = some true)
    (ga : PySem.W.findIn K (.ref C) "__getattribute__" = some (some (.builtin "BaseException.__getattribute__")))
    (gg : PySem.W.findIn K (.ref C) "__getattr__" = some none)
    (hd : PySem.W.hasDictIn K C = true)
    (ca : PySem.W.findIn K (.ref C) "__class__" = some (some (.builtin "object.__class__")))
    (gs : PySem.W.specialIn K (.builtin "object.__class__") "__get__" = some (some (.builtin "getset_descriptor.__get__")))
    (tk : PySem.W.takesIn K (.builtin "object.__class__") = some true)
    (mo : PySem.W.mroIn K C (.type "object") = some true) : ErrF K file x qual st C :=
  ⟨a, ⟨_, _, _, _, _, _, _, _, _, _, _, _, _, _, _, x1, x2⟩, sa, exC, tyC, kC, ⟨f, cc, c, i1, i2, ⟨_, _, _, _, _, _, i3⟩, ⟨_, _, _, i4⟩, i5, _, _, _, _, _, i6, i7⟩, sup, subV, mro, ga, gg, hd, ca, gs, tk, mo⟩
section
variable {P : Program} {w : World} {K : PySem.W.Frag} {mg : Str → Option Value} {base h : Heap} {x qual : Str} {st : Stmt} {C : Addr}
theorem ErrF.oex (E : ErrF K P.main.file x qual st C) : OexC K C := ⟨E.cls, E.sa, E.exC, E.tyC, E.kC⟩
theorem ErrF.xf {file : Str} (E : ErrF K file x qual st C) : XfC K C := ⟨E.ga, E.gg, E.exC, E.hd⟩
theorem ErrF.exc {file : Str} (E : ErrF K file x qual st C) : ExcC K C := ⟨E.ga, E.gg, E.exC, E.hd, E.ca, E.gs, E.tk, E.mo⟩
theorem ErrF.errD (E : ErrF K P.main.file x qual st C) (hm : mg x = some (.ref C)) (noS : mg "super" = none) (opq : PySem.W.nsIn K cStatics "thirdparty.any" = some none) (top : (P.main.scope.names.lookup ("super" : Str)).isSome = false) {ps fns : List Str} (hl : fns.length ≤ 900)
    (hb : ∀ (cc c : Addr) (doc pm ct : Value) (us : List Value), us.length = ps.length → bindArgs (PySem.W.fnX "__init__" qual (defArgs st) (defBody st) (defScope st) [(("__class__" : Str), cc)] .none .none doc pm none (.ref c) ct) ⟨us, []⟩ = pure (ps.zip us))
    (ok : ∀ (f cc c : Addr) (doc pm ct : Value), ExI P K mg qual st C f ⟨"__init__", qual, defArgs st, defBody st, defScope st, [(("__class__" : Str), cc)], c⟩ doc pm ct → FnOk P w K mg base (L2.CX P w) 1 f (NF.fd ⟨"__init__", qual, defArgs st, defBody st, defScope st, [(("__class__" : Str), cc)], c⟩ doc pm ct) ps (spIni C fns)) :
    ErrD P w K mg base x C fns := by
  obtain ⟨f, cc, c, i1, i2, ⟨oc, od, osl, doc, pm, ct, i3⟩, i4, i5, ccl, cdd, vs, ccs, tf, i6, i7⟩ := E.ini
  refine ⟨⟨f, _, ps, E.oex, i1, i2, ok f cc c doc pm ct ⟨E.oex, i1, i2, ⟨rfl, rfl, rfl, rfl⟩, ⟨cc, rfl, i4⟩, ⟨oc, od, osl, i3⟩, i5, ⟨ccl, cdd, vs, ccs, tf, i6, i7⟩, E.sup, E.subV, E.mro, noS, opq, top⟩, .all fun us hu => hb cc c doc pm ct us hu, hm, hl⟩⟩
end
/-! ### tables of classes -/
noncomputable def exTab (K : PySem.W.Frag) (L : List Addr) (D : Addr) : Addr → Option Bool := fun C => if C ∈ L then PySem.W.exmOne K (.ref C) (.ref D) else none
def isTab (K : PySem.W.Frag) : Addr → D → Option Bool := fun C d => match d with
  | .ref D => PySem.W.kitOne K (.ref C) (.ref D)
  | .ty s => PySem.W.kitOne K (.ref C) (.type s)
  | _ => none
theorem isTab_ok {K : PySem.W.Frag} {C : Addr} : TbOk K (.ref C) (isTab K C) := fun d b h => by
  cases d <;> try (cases h; done)
  · exact ⟨_, _, .ty _, h⟩
  · exact ⟨_, _, .own _, h⟩
theorem exTab_h {K : PySem.W.Frag} {L : List Addr} {D C : Addr} {b : Bool} (h : exTab K L D C = some b) : PySem.W.exmOne K (.ref C) (.ref D) = some b := by
  unfold exTab at h
  split at h
  · exact h
  · cases h
theorem exTab_m {K : PySem.W.Frag} {L : List Addr} {D C : Addr} {b : Bool} (h : exTab K L D C = some b) : C ∈ L := by
  unfold exTab at h
  split at h
  · assumption
  · cases h
theorem exTab_is {K : PySem.W.Frag} {L : List Addr} {D C : Addr} {b : Bool} (hm : C ∈ L) (h : PySem.W.exmOne K (.ref C) (.ref D) = some b) : exTab K L D C = some b := by
  unfold exTab
  rw [if_pos hm]; exact h
end PW
set_option Elab.async false
set_option linter.all false
set_option maxRecDepth 100000
set_option maxHeartbeats 4000000
/-! printed by gen.py: names, scopes, pure bodies, derivations -/
namespace K12
open PySem PySem.Spec PyProof.Rows L2 PW
def top (i : Nat) : Stmt := PySem.Challenge.pw_reelrounds_k12_matching_meets_cover.main.body.getD i (.Pass ⟨0, 0, 0, 0⟩)
structure Txt (K : PySem.W.Frag) (mg : Str → Option Value) (C_BadCount C_BadNumber C_BadTable C_ReelError : Addr) : Prop where
  m_BadCount : mg "BadCount" = some (.ref C_BadCount)
  m_BadNumber : mg "BadNumber" = some (.ref C_BadNumber)
  m_BadTable : mg "BadTable" = some (.ref C_BadTable)
  m_ReelError : mg "ReelError" = some (.ref C_ReelError)
  a_BadCount_many : PySem.W.findIn K (.ref C_BadCount) "many" = some none
  a_BadCount_what : PySem.W.findIn K (.ref C_BadCount) "what" = some none
  a_BadNumber_number : PySem.W.findIn K (.ref C_BadNumber) "number" = some none
  a_BadNumber_what : PySem.W.findIn K (.ref C_BadNumber) "what" = some none
  a_BadTable_at : PySem.W.findIn K (.ref C_BadTable) "at" = some none
  z_ValueError : mg "ValueError" = none
  z_abs : mg "abs" = none
  z_bool : mg "bool" = none
  z_enumerate : mg "enumerate" = none
  z_int : mg "int" = none
  z_isinstance : mg "isinstance" = none
  z_len : mg "len" = none
  z_list : mg "list" = none
  z_range : mg "range" = none
  z_tuple : mg "tuple" = none
  n_MOST_COLUMNS : ∃ t, mg "MOST_COLUMNS" = some (.int 128 t)
  n_MOST_ROWS : ∃ t, mg "MOST_ROWS" = some (.int 128 t)
  x_BadCount : XfC K C_BadCount
  x_BadNumber : XfC K C_BadNumber
  x_BadTable : XfC K C_BadTable
abbrev s_check_number : Stmt := top 6
abbrev N_check_number : List Str := ["what", "number", "low", "high"]
theorem sc_check_number : FnScope N_check_number [("what" : Str), ("number" : Str), ("low" : Str), ("high" : Str)] (defScope s_check_number) := ⟨rfl, rfl, rfl, by decide +kernel, rfl, by decide +kernel, by decide +kernel⟩
def b_check_number (C_BadNumber : Addr) : PSt := (pIf (pOr (pB fLt (pArg 1) (pArg 2)) (pB fGt (pArg 1) (pArg 3))) (pRaise C_BadNumber ["what", "number"] (pCons (pIn (pVar 0)) (pCons (pIn (pVar 1)) pNil))) pNext)
theorem d_check_number {P : Program} {w : World} {K : PySem.W.Frag} {mg : Str → Option Value} {base : Heap} {C_BadCount C_BadNumber C_BadTable C_ReelError : Addr} (T : Txt K mg C_BadCount C_BadNumber C_BadTable C_ReelError) (E_BadNumber : ErrD P w K mg base "BadNumber" C_BadNumber ["what", "number"]) {f : Addr} {cdv : Value} {A : Around} {outer : List PySem.Env} {s : Shared} {H : Hp} {E : XK} (hr : Room 2 (A.deeper (envOfC "check_number" (defScope s_check_number) s.heap.objs.size f cdv))) :
    SSs (cxOf (L2.CX P w) P w K mg base N_check_number "check_number" (defScope s_check_number) f cdv A outer s H E) (fun cls d _ H' => E cls d H') (defBody s_check_number) (b_check_number C_BadNumber) := by
  unfold b_check_number
  exact (ss_one (ss_if (st_w (sw_or (st_cmp op_lt opb_CI (sg_var (pv 1)) (sg_var (pv 2)) (nomark _)) (sw_or1 (st_cmp op_gt opb_CI (sg_var (pv 1)) (sg_var (pv 3)) (nomark _))))) (ss_one (ss_raiseD E_BadNumber rfl (takes_of rfl rfl rfl rfl) hr (by decide) rfl (sa_cons (sg_of (sf_var (pv 0))) (sa_cons (sg_of (sf_var (pv 1))) sa_nil)))) ss_nil))
abbrev s_check_count : Stmt := top 7
abbrev N_check_count : List Str := ["what", "many", "low", "high"]
theorem sc_check_count : FnScope N_check_count [("what" : Str), ("many" : Str), ("low" : Str), ("high" : Str)] (defScope s_check_count) := ⟨rfl, rfl, rfl, by decide +kernel, rfl, by decide +kernel, by decide +kernel⟩
def b_check_count (C_BadCount : Addr) : PSt := (pIf (pOr (pB fLt (pArg 1) (pArg 2)) (pB fGt (pArg 1) (pArg 3))) (pRaise C_BadCount ["what", "many"] (pCons (pIn (pVar 0)) (pCons (pIn (pVar 1)) pNil))) pNext)
theorem d_check_count {P : Program} {w : World} {K : PySem.W.Frag} {mg : Str → Option Value} {base : Heap} {C_BadCount C_BadNumber C_BadTable C_ReelError : Addr} (T : Txt K mg C_BadCount C_BadNumber C_BadTable C_ReelError) (E_BadCount : ErrD P w K mg base "BadCount" C_BadCount ["what", "many"]) {f : Addr} {cdv : Value} {A : Around} {outer : List PySem.Env} {s : Shared} {H : Hp} {E : XK} (hr : Room 2 (A.deeper (envOfC "check_count" (defScope s_check_count) s.heap.objs.size f cdv))) :
    SSs (cxOf (L2.CX P w) P w K mg base N_check_count "check_count" (defScope s_check_count) f cdv A outer s H E) (fun cls d _ H' => E cls d H') (defBody s_check_count) (b_check_count C_BadCount) := by
  unfold b_check_count
  exact (ss_one (ss_if (st_w (sw_or (st_cmp op_lt opb_CI (sg_var (pv 1)) (sg_var (pv 2)) (nomark _)) (sw_or1 (st_cmp op_gt opb_CI (sg_var (pv 1)) (sg_var (pv 3)) (nomark _))))) (ss_one (ss_raiseD E_BadCount rfl (takes_of rfl rfl rfl rfl) hr (by decide) rfl (sa_cons (sg_of (sf_var (pv 0))) (sa_cons (sg_of (sf_var (pv 1))) sa_nil)))) ss_nil))
abbrev s_check_table : Stmt := top 11
abbrev N_check_table : List Str := ["rows", "columns", "at", "row", "before", "column"]
theorem sc_check_table : FnScope N_check_table [("rows" : Str), ("columns" : Str)] (defScope s_check_table) := ⟨rfl, rfl, rfl, by decide +kernel, rfl, by decide +kernel, by decide +kernel⟩
def b_check_table (sp_check_count sp_check_number : PSp) (C_BadTable : Addr) : PSt := (pSeq (pDrop (pCall sp_check_count [] (pCons (pIn (pC (.str "rows"))) (pCons (pIn (pFr (pCB gLen (pCons (pArg 0) pNil)))) (pCons (pIn (pC (.int 0))) (pCons (pIn (pC (.int 128))) pNil))))))
    (pSeq (pDrop (pCall sp_check_number [] (pCons (pIn (pC (.str "columns"))) (pCons (pIn (pVar 1)) (pCons (pIn (pC (.int 0))) (pCons (pIn (pC (.int 128))) pNil))))))
    (pFor (pEnum (pVar 0)) (gtT 2 (gtsCons (gtN 2) (gtsCons (gtN 3) gtsNil))) (pSeq (pAsg 4 (pFz (pNeg (pC (.int 1)))))
    (pFor (pSeqSrc (pVar 3)) (gtN 5) (pSeq (pIf (pOr (pB fLe (pArg 5) (pArg 4)) (pB fGe (pArg 5) (pArg 1))) (pRaise C_BadTable ["at"] (pCons (pIn (pVar 2)) pNil)) pNext)
    (pAsg 4 (pFz (pVar 5)))))))))
theorem d_check_table {P : Program} {w : World} {K : PySem.W.Frag} {mg : Str → Option Value} {base : Heap} {C_BadCount C_BadNumber C_BadTable C_ReelError : Addr} (T : Txt K mg C_BadCount C_BadNumber C_BadTable C_ReelError) {sp_check_count sp_check_number : PSp} (c_check_count : CalD P w K mg base 3 "check_count" sp_check_count) (c_check_number : CalD P w K mg base 3 "check_number" sp_check_number) (E_BadTable : ErrD P w K mg base "BadTable" C_BadTable ["at"]) {f : Addr} {cdv : Value} {A : Around} {outer : List PySem.Env} {s : Shared} {H : Hp} {E : XK} (hr : Room 3 (A.deeper (envOfC "check_table" (defScope s_check_table) s.heap.objs.size f cdv))) :
    SSs (cxOf (L2.CX P w) P w K mg base N_check_table "check_table" (defScope s_check_table) f cdv A outer s H E) (fun cls d _ H' => E cls d H') (defBody s_check_table) (b_check_table sp_check_count sp_check_number C_BadTable) := by
  unfold b_check_table
  exact (ss_cons (ss_expr (so_cal c_check_count hr (by decide) (takes_of rfl rfl rfl rfl) rfl (sa_cons (sg_of sf_str) (sa_cons (sg_of (sf_of (so_callB call_lenA co_len rfl T.z_len boot_len (sa_cons (sg_var (pv 0)) sa_nil)))) (sa_cons (sg_of sf_int) (sa_cons (sg_of (sf_glN rfl T.n_MOST_ROWS)) sa_nil))))))
    (ss_cons (ss_expr (so_cal c_check_number hr (by decide) (takes_of rfl rfl rfl rfl) rfl (sa_cons (sg_of sf_str) (sa_cons (sg_of (sf_var (pv 1))) (sa_cons (sg_of sf_int) (sa_cons (sg_of (sf_glN rfl T.n_MOST_COLUMNS)) sa_nil))))))
    (ss_one (ss_for (passes_of rfl) rfl (ssr_enum rfl T.z_enumerate (sf_var (pv 0))) (sgt_tup rfl (sgts_cons (sgt_name (i := 2) sc_check_table.nd rfl (by first | exact Or.inl rfl | exact Or.inr rfl)) (sgts_cons (sgt_name (i := 3) sc_check_table.nd rfl (by first | exact Or.inl rfl | exact Or.inr rfl)) sgts_nil))) (ss_cons (ss_asg (i := 4) (so_of (sf_neg sf_int)) sc_check_table.nd rfl (by first | exact Or.inl rfl | exact Or.inr rfl))
    (ss_one (ss_for (passes_of rfl) rfl (ssr_seq (sf_var (pv 3))) (sgt_name (i := 5) sc_check_table.nd rfl (by first | exact Or.inl rfl | exact Or.inr rfl)) (ss_cons (ss_if (st_w (sw_or (st_cmp op_le opb_CI (sg_var (pv 5)) (sg_var (pv 4)) (nomark _)) (sw_or1 (st_cmp op_ge opb_CI (sg_var (pv 5)) (sg_var (pv 1)) (nomark _))))) (ss_one (ss_raiseD E_BadTable rfl (takes_of rfl rfl rfl rfl) hr (by decide) rfl (sa_cons (sg_of (sf_var (pv 2))) sa_nil))) ss_nil)
    (ss_one (ss_asg (i := 4) (so_of (sf_var (pv 5))) sc_check_table.nd rfl (by first | exact Or.inl rfl | exact Or.inr rfl)))))))))))
abbrev s_greatest_pairing : Stmt := top 12
abbrev N_greatest_pairing : List Str := ["rows", "columns"]
theorem sc_greatest_pairing : FnScope N_greatest_pairing [("rows" : Str), ("columns" : Str)] (defScope s_greatest_pairing) := ⟨rfl, rfl, rfl, by decide +kernel, rfl, by decide +kernel, by decide +kernel⟩
def b_greatest_pairing (sp_check_table sp_paired : PSp) : PSt := (pSeq (pDrop (pCall sp_check_table [] (pCons (pIn (pVar 0)) (pCons (pIn (pVar 1)) pNil))))
    (pRet (pCB gTuple (pCons (pIn (pFr (pCall sp_paired [] (pCons (pIn (pVar 0)) (pCons (pIn (pVar 1)) pNil))))) pNil))))
theorem d_greatest_pairing {P : Program} {w : World} {K : PySem.W.Frag} {mg : Str → Option Value} {base : Heap} {C_BadCount C_BadNumber C_BadTable C_ReelError : Addr} (T : Txt K mg C_BadCount C_BadNumber C_BadTable C_ReelError) {sp_check_table sp_paired : PSp} (c_check_table : CalD P w K mg base 4 "check_table" sp_check_table) (c_paired : CalD P w K mg base 3 "paired" sp_paired) {f : Addr} {cdv : Value} {A : Around} {outer : List PySem.Env} {s : Shared} {H : Hp} {E : XK} (hr : Room 4 (A.deeper (envOfC "greatest_pairing" (defScope s_greatest_pairing) s.heap.objs.size f cdv))) :
    SSs (cxOf (L2.CX P w) P w K mg base N_greatest_pairing "greatest_pairing" (defScope s_greatest_pairing) f cdv A outer s H E) (fun cls d _ H' => E cls d H') (defBody s_greatest_pairing) (b_greatest_pairing sp_check_table sp_paired) := by
  unfold b_greatest_pairing
  exact (ss_cons (ss_expr (so_cal c_check_table hr (by decide) (takes_of rfl rfl rfl rfl) rfl (sa_cons (sg_of (sf_var (pv 0))) (sa_cons (sg_of (sf_var (pv 1))) sa_nil))))
    (ss_one (ss_ret (so_callTy call_tuple_of co_tuple rfl T.z_tuple PySem.Pv.boot_tuple (sa_cons (sg_of (sf_of (so_cal c_paired hr (by decide) (takes_of rfl rfl rfl rfl) rfl (sa_cons (sg_of (sf_var (pv 0))) (sa_cons (sg_of (sf_var (pv 1))) sa_nil))))) sa_nil)))))
abbrev s_pairing_cover : Stmt := top 13
abbrev N_pairing_cover : List Str := ["rows", "columns", "partners", "alone", "row", "column", "row_marks", "column_marks", "chosen_rows", "mark", "chosen_columns"]
theorem sc_pairing_cover : FnScope N_pairing_cover [("rows" : Str), ("columns" : Str)] (defScope s_pairing_cover) := ⟨rfl, rfl, rfl, by decide +kernel, rfl, by decide +kernel, by decide +kernel⟩
def b_pairing_cover (sp_check_table sp_paired sp_reached : PSp) : PSt := (pSeq (pDrop (pCall sp_check_table [] (pCons (pIn (pVar 0)) (pCons (pIn (pVar 1)) pNil))))
    (pSeq (pAsg 2 (pCall sp_paired [] (pCons (pIn (pVar 0)) (pCons (pIn (pVar 1)) pNil))))
    (pSeq (pAsg 3 (pLc [4, 5] (pEnum (pVar 2)) (gtT 2 (gtsCons (gtN 4) (gtsCons (gtN 5) gtsNil))) (pB (fIsN false) (pArg 5) (pIn (pC .non))) (pVar 4)))
    (pSeq (pAsgG (gtT 2 (gtsCons (gtN 6) (gtsCons (gtN 7) gtsNil))) (pFr (pCall sp_reached [] (pCons (pIn (pVar 0)) (pCons (pIn (pVar 1)) (pCons (pIn (pVar 2)) (pCons (pIn (pVar 3)) pNil)))))))
    (pSeq (pAsg 8 (pCB gTuple (pCons (pIn (pFr (pLc [4, 9] (pEnum (pVar 6)) (gtT 2 (gtsCons (gtN 4) (gtsCons (gtN 9) gtsNil))) (pNot (pTru (pArg 9))) (pVar 4)))) pNil)))
    (pSeq (pAsg 10 (pCB gTuple (pCons (pIn (pFr (pLc [5, 9] (pEnum (pVar 7)) (gtT 2 (gtsCons (gtN 5) (gtsCons (gtN 9) gtsNil))) (pTru (pArg 9)) (pVar 5)))) pNil)))
    (pRet (pDisp (fun ds => .fz (.tup ds)) (pCons (pIn (pVar 8)) (pCons (pIn (pVar 10)) pNil))))))))))
theorem d_pairing_cover {P : Program} {w : World} {K : PySem.W.Frag} {mg : Str → Option Value} {base : Heap} {C_BadCount C_BadNumber C_BadTable C_ReelError : Addr} (T : Txt K mg C_BadCount C_BadNumber C_BadTable C_ReelError) {sp_check_table sp_paired sp_reached : PSp} (c_check_table : CalD P w K mg base 4 "check_table" sp_check_table) (c_paired : CalD P w K mg base 3 "paired" sp_paired) (c_reached : CalD P w K mg base 1 "reached" sp_reached) {f : Addr} {cdv : Value} {A : Around} {outer : List PySem.Env} {s : Shared} {H : Hp} {E : XK} (hr : Room 4 (A.deeper (envOfC "pairing_cover" (defScope s_pairing_cover) s.heap.objs.size f cdv))) :
    SSs (cxOf (L2.CX P w) P w K mg base N_pairing_cover "pairing_cover" (defScope s_pairing_cover) f cdv A outer s H E) (fun cls d _ H' => E cls d H') (defBody s_pairing_cover) (b_pairing_cover sp_check_table sp_paired sp_reached) := by
  unfold b_pairing_cover
  exact (ss_cons (ss_expr (so_cal c_check_table hr (by decide) (takes_of rfl rfl rfl rfl) rfl (sa_cons (sg_of (sf_var (pv 0))) (sa_cons (sg_of (sf_var (pv 1))) sa_nil))))
    (ss_cons (ss_asg (i := 2) (so_cal c_paired hr (by decide) (takes_of rfl rfl rfl rfl) rfl (sa_cons (sg_of (sf_var (pv 0))) (sa_cons (sg_of (sf_var (pv 1))) sa_nil))) sc_pairing_cover.nd rfl (by first | exact Or.inl rfl | exact Or.inr rfl))
    (ss_cons (by first | exact ss_asgLc (i := 3) (own := [(("row" : Str), 4), (("column" : Str), 5)]) rfl sc_pairing_cover.nd rfl rfl (sw_true rfl rfl rfl (by decide +kernel)) (ssr_enum rfl T.z_enumerate (sf_var (pv 2))) (blkOk_by (N := N_pairing_cover) (sc := defScope s_pairing_cover) (own := [(("row" : Str), 4), (("column" : Str), 5)]) (by decide +kernel)) ⟨fun _ _ _ _ _ => (sgt_tup rfl (sgts_cons (sgt_name (i := 4) sc_pairing_cover.nd rfl (by first | exact Or.inl rfl | exact Or.inr rfl)) (sgts_cons (sgt_name (i := 5) sc_pairing_cover.nd rfl (by first | exact Or.inl rfl | exact Or.inr rfl)) sgts_nil))), fun _ _ _ _ _ => (scs_one (st_cmp op_isN opb_isN (sg_var (pv 5)) (sg_of sf_non) (nomark _))), fun _ _ _ _ _ => (sf_var (pv 4)), by decide⟩ | exact ss_asg (i := 3) (so_lc (own := [(("row" : Str), 4), (("column" : Str), 5)]) rfl sc_pairing_cover.nd (ssr_enum rfl T.z_enumerate (sf_var (pv 2))) (blkOk_by (N := N_pairing_cover) (sc := defScope s_pairing_cover) (own := [(("row" : Str), 4), (("column" : Str), 5)]) (by decide +kernel)) ⟨fun _ _ _ _ _ => (sgt_tup rfl (sgts_cons (sgt_name (i := 4) sc_pairing_cover.nd rfl (by first | exact Or.inl rfl | exact Or.inr rfl)) (sgts_cons (sgt_name (i := 5) sc_pairing_cover.nd rfl (by first | exact Or.inl rfl | exact Or.inr rfl)) sgts_nil))), fun _ _ _ _ _ => (scs_one (st_cmp op_isN opb_isN (sg_var (pv 5)) (sg_of sf_non) (nomark _))), fun _ _ _ _ _ => (sf_var (pv 4)), by decide⟩) sc_pairing_cover.nd rfl (by first | exact Or.inl rfl | exact Or.inr rfl))
    (ss_cons (ss_asgG (sf_of (so_cal c_reached hr (by decide) (takes_of rfl rfl rfl rfl) rfl (sa_cons (sg_of (sf_var (pv 0))) (sa_cons (sg_of (sf_var (pv 1))) (sa_cons (sg_of (sf_var (pv 2))) (sa_cons (sg_of (sf_var (pv 3))) sa_nil)))))) (sgt_tup rfl (sgts_cons (sgt_name (i := 6) sc_pairing_cover.nd rfl (by first | exact Or.inl rfl | exact Or.inr rfl)) (sgts_cons (sgt_name (i := 7) sc_pairing_cover.nd rfl (by first | exact Or.inl rfl | exact Or.inr rfl)) sgts_nil))))
    (ss_cons (ss_asg (i := 8) (so_callTy call_tuple_of co_tuple rfl T.z_tuple PySem.Pv.boot_tuple (sa_cons (sg_of (sf_of (so_lc (own := [(("row" : Str), 4), (("mark" : Str), 9)]) rfl sc_pairing_cover.nd (ssr_enum rfl T.z_enumerate (sf_var (pv 6))) (blkOk_by (N := N_pairing_cover) (sc := defScope s_pairing_cover) (own := [(("row" : Str), 4), (("mark" : Str), 9)]) (by decide +kernel)) ⟨fun _ _ _ _ _ => (sgt_tup rfl (sgts_cons (sgt_name (i := 4) sc_pairing_cover.nd rfl (by first | exact Or.inl rfl | exact Or.inr rfl)) (sgts_cons (sgt_name (i := 9) sc_pairing_cover.nd rfl (by first | exact Or.inl rfl | exact Or.inr rfl)) sgts_nil))), fun _ _ _ _ _ => (scs_one (st_not (st_tru (sg_var (pv 9))))), fun _ _ _ _ _ => (sf_var (pv 4)), by decide⟩))) sa_nil)) sc_pairing_cover.nd rfl (by first | exact Or.inl rfl | exact Or.inr rfl))
    (ss_cons (ss_asg (i := 10) (so_callTy call_tuple_of co_tuple rfl T.z_tuple PySem.Pv.boot_tuple (sa_cons (sg_of (sf_of (so_lc (own := [(("column" : Str), 5), (("mark" : Str), 9)]) rfl sc_pairing_cover.nd (ssr_enum rfl T.z_enumerate (sf_var (pv 7))) (blkOk_by (N := N_pairing_cover) (sc := defScope s_pairing_cover) (own := [(("column" : Str), 5), (("mark" : Str), 9)]) (by decide +kernel)) ⟨fun _ _ _ _ _ => (sgt_tup rfl (sgts_cons (sgt_name (i := 5) sc_pairing_cover.nd rfl (by first | exact Or.inl rfl | exact Or.inr rfl)) (sgts_cons (sgt_name (i := 9) sc_pairing_cover.nd rfl (by first | exact Or.inl rfl | exact Or.inr rfl)) sgts_nil))), fun _ _ _ _ _ => (scs_one (st_tru (sg_var (pv 9)))), fun _ _ _ _ _ => (sf_var (pv 5)), by decide⟩))) sa_nil)) sc_pairing_cover.nd rfl (by first | exact Or.inl rfl | exact Or.inr rfl))
    (ss_one (ss_ret (so_tup (sa_cons (sg_of (sf_var (pv 8))) (sa_cons (sg_of (sf_var (pv 10))) sa_nil)))))))))))
abbrev s_paired : Stmt := top 14
abbrev N_paired : List Str := ["rows", "columns", "partners", "owners", "start"]
theorem sc_paired : FnScope N_paired [("rows" : Str), ("columns" : Str)] (defScope s_paired) := ⟨rfl, rfl, rfl, by decide +kernel, rfl, by decide +kernel, by decide +kernel⟩
def b_paired (sp__pair_row : PSp) : PSt := (pSeq (pAsg 2 (p2 fMul (pIn (pFr (pDisp (fun ds => .ow false ds) (pCons (pIn (pC .non)) pNil)))) (pIn (pFr (pCB gLen (pCons (pArg 0) pNil))))))
    (pSeq (pAsg 3 (p2 fMul (pIn (pFr (pDisp (fun ds => .ow false ds) (pCons (pIn (pC .non)) pNil)))) (pArg 1)))
    (pSeq (pFor (pRng1 (pCons (pIn (pFr (pCB gLen (pCons (pArg 0) pNil)))) pNil)) (gtN 4) (pDrop (pCall sp__pair_row [] (pCons (pIn (pVar 0)) (pCons (pArg 2) (pCons (pArg 3) (pCons (pIn (pVar 4)) pNil)))))))
    (pRet (pMv 2)))))
theorem d_paired {P : Program} {w : World} {K : PySem.W.Frag} {mg : Str → Option Value} {base : Heap} {C_BadCount C_BadNumber C_BadTable C_ReelError : Addr} (T : Txt K mg C_BadCount C_BadNumber C_BadTable C_ReelError) {sp__pair_row : PSp} (c__pair_row : CalD P w K mg base 2 "_pair_row" sp__pair_row) {f : Addr} {cdv : Value} {A : Around} {outer : List PySem.Env} {s : Shared} {H : Hp} {E : XK} (hr : Room 2 (A.deeper (envOfC "paired" (defScope s_paired) s.heap.objs.size f cdv))) :
    SSs (cxOf (L2.CX P w) P w K mg base N_paired "paired" (defScope s_paired) f cdv A outer s H E) (fun cls d _ H' => E cls d H') (defBody s_paired) (b_paired sp__pair_row) := by
  unfold b_paired
  exact (ss_cons (ss_asg (i := 2) (so_bin op_mulA opo_mul (sg_of (sf_of (so_lst (sa_cons (sg_of sf_non) sa_nil)))) (sg_of (sf_of (so_callB call_lenA co_len rfl T.z_len boot_len (sa_cons (sg_var (pv 0)) sa_nil))))) sc_paired.nd rfl (by first | exact Or.inl rfl | exact Or.inr rfl))
    (ss_cons (ss_asg (i := 3) (so_bin op_mulA opo_mul (sg_of (sf_of (so_lst (sa_cons (sg_of sf_non) sa_nil)))) (sg_var (pv 1))) sc_paired.nd rfl (by first | exact Or.inl rfl | exact Or.inr rfl))
    (ss_cons (ss_for (passes_of rfl) rfl (ssr_range1 rfl T.z_range (sa_cons (sg_of (sf_of (so_callB call_lenA co_len rfl T.z_len boot_len (sa_cons (sg_var (pv 0)) sa_nil)))) sa_nil)) (sgt_name (i := 4) sc_paired.nd rfl (by first | exact Or.inl rfl | exact Or.inr rfl)) (ss_one (ss_expr (so_cal c__pair_row hr (by decide) (takes_of rfl rfl rfl rfl) rfl (sa_cons (sg_of (sf_var (pv 0))) (sa_cons (sg_var (pv 2)) (sa_cons (sg_var (pv 3)) (sa_cons (sg_of (sf_var (pv 4))) sa_nil))))))))
    (ss_one (ss_ret (so_mv (pv 2)))))))
abbrev s__pair_row : Stmt := top 15
abbrev N__pair_row : List Str := ["rows", "partners", "owners", "start", "came", "queue", "at", "row", "column"]
theorem sc__pair_row : FnScope N__pair_row [("rows" : Str), ("partners" : Str), ("owners" : Str), ("start" : Str)] (defScope s__pair_row) := ⟨rfl, rfl, rfl, by decide +kernel, rfl, by decide +kernel, by decide +kernel⟩
def b__pair_row (sp__turn_way : PSp) : PSt := (pSeq (pAsg 4 (p2 fMul (pIn (pFr (pDisp (fun ds => .ow false ds) (pCons (pIn (pC .non)) pNil)))) (pIn (pFr (pCB gLen (pCons (pArg 2) pNil))))))
    (pSeq (pAsg 5 (pDisp (fun ds => .ow false ds) (pCons (pIn (pVar 3)) pNil)))
    (pSeq (pAsg 6 (pFz (pC (.int 0))))
    (pWhile (pB fLt (pArg 6) (pIn (pFr (pCB gLen (pCons (pArg 5) pNil))))) (pSeq (pAsg 7 (p2 fIx (pArg 5) (pArg 6)))
    (pSeq (pAug 6 (fI0 fun i j => i + j) (pIn (pC (.int 1))))
    (pFor (pSeqSrc (pFr (p2 fIx (pArg 0) (pArg 7)))) (gtN 8) (pIf (pB (fIsN false) (pIn (pFr (p2 fIx (pArg 4) (pArg 8)))) (pIn (pC .non))) (pSeq (pSetIx 4 (pArg 8) (pVar 7))
    (pSeq (pIf (pB (fIsN false) (pIn (pFr (p2 fIx (pArg 2) (pArg 8)))) (pIn (pC .non))) (pSeq (pDrop (pCall sp__turn_way [] (pCons (pArg 1) (pCons (pArg 2) (pCons (pIn (pVar 4)) (pCons (pIn (pVar 8)) pNil))))))
    pRetN) pNext)
    (pDrop (pFz (pApp 5 (pFr (p2 fIx (pArg 2) (pArg 8)))))))) pNext))))))))
theorem d__pair_row {P : Program} {w : World} {K : PySem.W.Frag} {mg : Str → Option Value} {base : Heap} {C_BadCount C_BadNumber C_BadTable C_ReelError : Addr} (T : Txt K mg C_BadCount C_BadNumber C_BadTable C_ReelError) {sp__turn_way : PSp} (c__turn_way : CalD P w K mg base 1 "_turn_way" sp__turn_way) {f : Addr} {cdv : Value} {A : Around} {outer : List PySem.Env} {s : Shared} {H : Hp} {E : XK} (hr : Room 1 (A.deeper (envOfC "_pair_row" (defScope s__pair_row) s.heap.objs.size f cdv))) :
    SSs (cxOf (L2.CX P w) P w K mg base N__pair_row "_pair_row" (defScope s__pair_row) f cdv A outer s H E) (fun cls d _ H' => E cls d H') (defBody s__pair_row) (b__pair_row sp__turn_way) := by
  unfold b__pair_row
  exact (ss_cons (ss_asg (i := 4) (so_bin op_mulA opo_mul (sg_of (sf_of (so_lst (sa_cons (sg_of sf_non) sa_nil)))) (sg_of (sf_of (so_callB call_lenA co_len rfl T.z_len boot_len (sa_cons (sg_var (pv 2)) sa_nil))))) sc__pair_row.nd rfl (by first | exact Or.inl rfl | exact Or.inr rfl))
    (ss_cons (ss_asg (i := 5) (so_lst (sa_cons (sg_of (sf_var (pv 3))) sa_nil)) sc__pair_row.nd rfl (by first | exact Or.inl rfl | exact Or.inr rfl))
    (ss_cons (ss_asg (i := 6) (so_of sf_int) sc__pair_row.nd rfl (by first | exact Or.inl rfl | exact Or.inr rfl))
    (ss_one (ss_while (passes_of rfl) (st_cmp op_lt opb_CI (sg_var (pv 6)) (sg_of (sf_of (so_callB call_lenA co_len rfl T.z_len boot_len (sa_cons (sg_var (pv 5)) sa_nil)))) (nomark _)) (ss_cons (ss_asg (i := 7) (so_ix ix_seq opo_ix (sg_var (pv 5)) (sg_var (pv 6)) fun _ _ => rfl) sc__pair_row.nd rfl (by first | exact Or.inl rfl | exact Or.inr rfl))
    (ss_cons (ss_aug (i := 6) iop_add opo_I0 (sg_of sf_int) sc__pair_row.nd rfl (by first | exact Or.inl rfl | exact Or.inr rfl))
    (ss_one (ss_for (passes_of rfl) rfl (ssr_seq (sf_of (so_ix ix_seq opo_ix (sg_var (pv 0)) (sg_var (pv 7)) fun _ _ => rfl))) (sgt_name (i := 8) sc__pair_row.nd rfl (by first | exact Or.inl rfl | exact Or.inr rfl)) (ss_one (ss_if (st_cmp op_isN opb_isN (sg_of (sf_of (so_ix ix_seq opo_ix (sg_var (pv 4)) (sg_var (pv 8)) fun _ _ => rfl))) (sg_of sf_non) (nomark _)) (ss_cons (ss_setIx (sf_var (pv 7)) (pv 4) (sg_var (pv 8)))
    (ss_cons (ss_if (st_cmp op_isN opb_isN (sg_of (sf_of (so_ix ix_seq opo_ix (sg_var (pv 2)) (sg_var (pv 8)) fun _ _ => rfl))) (sg_of sf_non) (nomark _)) (ss_cons (ss_expr (so_cal c__turn_way hr (by decide) (takes_of rfl rfl rfl rfl) rfl (sa_cons (sg_var (pv 1)) (sa_cons (sg_var (pv 2)) (sa_cons (sg_of (sf_var (pv 4))) (sa_cons (sg_of (sf_var (pv 8))) sa_nil))))))
    (ss_one ss_retN)) ss_nil)
    (ss_one (ss_expr (so_of (sf_append (pv 5) (sf_of (so_ix ix_seq opo_ix (sg_var (pv 2)) (sg_var (pv 8)) fun _ _ => rfl)))))))) ss_nil)))))))))))
abbrev s__turn_way : Stmt := top 16
abbrev N__turn_way : List Str := ["partners", "owners", "came", "last", "column", "row", "before"]
theorem sc__turn_way : FnScope N__turn_way [("partners" : Str), ("owners" : Str), ("came" : Str), ("last" : Str)] (defScope s__turn_way) := ⟨rfl, rfl, rfl, by decide +kernel, rfl, by decide +kernel, by decide +kernel⟩
def b__turn_way : PSt := (pSeq (pAsg 4 (pFz (pVar 3)))
    (pWhile (pB (fIsN true) (pArg 4) (pIn (pC .non))) (pSeq (pAsg 5 (p2 fIx (pArg 2) (pArg 4)))
    (pSeq (pAsg 6 (p2 fIx (pArg 0) (pArg 5)))
    (pSeq (pSetIx 0 (pArg 5) (pVar 4))
    (pSeq (pSetIx 1 (pArg 4) (pVar 5))
    (pAsg 4 (pFz (pVar 6)))))))))
theorem d__turn_way {P : Program} {w : World} {K : PySem.W.Frag} {mg : Str → Option Value} {base : Heap} {C_BadCount C_BadNumber C_BadTable C_ReelError : Addr} (T : Txt K mg C_BadCount C_BadNumber C_BadTable C_ReelError) {f : Addr} {cdv : Value} {A : Around} {outer : List PySem.Env} {s : Shared} {H : Hp} {E : XK} (hr : Room 0 (A.deeper (envOfC "_turn_way" (defScope s__turn_way) s.heap.objs.size f cdv))) :
    SSs (cxOf (L2.CX P w) P w K mg base N__turn_way "_turn_way" (defScope s__turn_way) f cdv A outer s H E) (fun cls d _ H' => E cls d H') (defBody s__turn_way) (b__turn_way) := by
  unfold b__turn_way
  exact (ss_cons (ss_asg (i := 4) (so_of (sf_var (pv 3))) sc__turn_way.nd rfl (by first | exact Or.inl rfl | exact Or.inr rfl))
    (ss_one (ss_while (passes_of rfl) (st_cmp op_notN opb_notN (sg_var (pv 4)) (sg_of sf_non) (nomark _)) (ss_cons (ss_asg (i := 5) (so_ix ix_seq opo_ix (sg_var (pv 2)) (sg_var (pv 4)) fun _ _ => rfl) sc__turn_way.nd rfl (by first | exact Or.inl rfl | exact Or.inr rfl))
    (ss_cons (ss_asg (i := 6) (so_ix ix_seq opo_ix (sg_var (pv 0)) (sg_var (pv 5)) fun _ _ => rfl) sc__turn_way.nd rfl (by first | exact Or.inl rfl | exact Or.inr rfl))
    (ss_cons (ss_setIx (sf_var (pv 4)) (pv 0) (sg_var (pv 5)))
    (ss_cons (ss_setIx (sf_var (pv 5)) (pv 1) (sg_var (pv 4)))
    (ss_one (ss_asg (i := 4) (so_of (sf_var (pv 6))) sc__turn_way.nd rfl (by first | exact Or.inl rfl | exact Or.inr rfl))))))))))
abbrev s_reached : Stmt := top 17
abbrev N_reached : List Str := ["rows", "columns", "partners", "starts", "owners", "row", "column", "row_marks", "column_marks", "queue", "at", "owner"]
theorem sc_reached : FnScope N_reached [("rows" : Str), ("columns" : Str), ("partners" : Str), ("starts" : Str)] (defScope s_reached) := ⟨rfl, rfl, rfl, by decide +kernel, rfl, by decide +kernel, by decide +kernel⟩
def b_reached : PSt := (pSeq (pAsg 4 (p2 fMul (pIn (pFr (pDisp (fun ds => .ow false ds) (pCons (pIn (pC .non)) pNil)))) (pArg 1)))
    (pSeq (pFor (pEnum (pVar 2)) (gtT 2 (gtsCons (gtN 5) (gtsCons (gtN 6) gtsNil))) (pIf (pB (fIsN true) (pArg 6) (pIn (pC .non))) (pSetIx 4 (pArg 6) (pVar 5)) pNext))
    (pSeq (pAsg 7 (p2 fMul (pIn (pFr (pDisp (fun ds => .ow false ds) (pCons (pIn (pC (.bl false))) pNil)))) (pIn (pFr (pCB gLen (pCons (pArg 0) pNil))))))
    (pSeq (pAsg 8 (p2 fMul (pIn (pFr (pDisp (fun ds => .ow false ds) (pCons (pIn (pC (.bl false))) pNil)))) (pArg 1)))
    (pSeq (pFor (pSeqSrc (pVar 3)) (gtN 5) (pSetIx 7 (pArg 5) (pC (.bl true))))
    (pSeq (pAsg 9 (pCB gList (pCons (pArg 3) pNil)))
    (pSeq (pAsg 10 (pFz (pC (.int 0))))
    (pSeq (pWhile (pB fLt (pArg 10) (pIn (pFr (pCB gLen (pCons (pArg 9) pNil))))) (pSeq (pAsg 5 (p2 fIx (pArg 9) (pArg 10)))
    (pSeq (pAug 10 (fI0 fun i j => i + j) (pIn (pC (.int 1))))
    (pFor (pSeqSrc (pFr (p2 fIx (pArg 0) (pArg 5)))) (gtN 6) (pSeq (pSetIx 8 (pArg 6) (pC (.bl true)))
    (pSeq (pAsg 11 (p2 fIx (pArg 4) (pArg 6)))
    (pIf (pAnd (pB (fIsN true) (pArg 11) (pIn (pC .non))) (pNot (pTru (pIn (pFr (p2 fIx (pArg 7) (pArg 11))))))) (pSeq (pSetIx 7 (pArg 11) (pC (.bl true)))
    (pDrop (pFz (pApp 9 (pVar 11))))) pNext)))))))
    (pRet (pDisp (fun ds => .fz (.tup ds)) (pCons (pIn (pVar 7)) (pCons (pIn (pVar 8)) pNil))))))))))))
theorem d_reached {P : Program} {w : World} {K : PySem.W.Frag} {mg : Str → Option Value} {base : Heap} {C_BadCount C_BadNumber C_BadTable C_ReelError : Addr} (T : Txt K mg C_BadCount C_BadNumber C_BadTable C_ReelError) {f : Addr} {cdv : Value} {A : Around} {outer : List PySem.Env} {s : Shared} {H : Hp} {E : XK} (hr : Room 0 (A.deeper (envOfC "reached" (defScope s_reached) s.heap.objs.size f cdv))) :
    SSs (cxOf (L2.CX P w) P w K mg base N_reached "reached" (defScope s_reached) f cdv A outer s H E) (fun cls d _ H' => E cls d H') (defBody s_reached) (b_reached) := by
  unfold b_reached
  exact (ss_cons (ss_asg (i := 4) (so_bin op_mulA opo_mul (sg_of (sf_of (so_lst (sa_cons (sg_of sf_non) sa_nil)))) (sg_var (pv 1))) sc_reached.nd rfl (by first | exact Or.inl rfl | exact Or.inr rfl))
    (ss_cons (ss_for (passes_of rfl) rfl (ssr_enum rfl T.z_enumerate (sf_var (pv 2))) (sgt_tup rfl (sgts_cons (sgt_name (i := 5) sc_reached.nd rfl (by first | exact Or.inl rfl | exact Or.inr rfl)) (sgts_cons (sgt_name (i := 6) sc_reached.nd rfl (by first | exact Or.inl rfl | exact Or.inr rfl)) sgts_nil))) (ss_one (ss_if (st_cmp op_notN opb_notN (sg_var (pv 6)) (sg_of sf_non) (nomark _)) (ss_one (ss_setIx (sf_var (pv 5)) (pv 4) (sg_var (pv 6)))) ss_nil)))
    (ss_cons (ss_asg (i := 7) (so_bin op_mulA opo_mul (sg_of (sf_of (so_lst (sa_cons (sg_of sf_bl) sa_nil)))) (sg_of (sf_of (so_callB call_lenA co_len rfl T.z_len boot_len (sa_cons (sg_var (pv 0)) sa_nil))))) sc_reached.nd rfl (by first | exact Or.inl rfl | exact Or.inr rfl))
    (ss_cons (ss_asg (i := 8) (so_bin op_mulA opo_mul (sg_of (sf_of (so_lst (sa_cons (sg_of sf_bl) sa_nil)))) (sg_var (pv 1))) sc_reached.nd rfl (by first | exact Or.inl rfl | exact Or.inr rfl))
    (ss_cons (ss_for (passes_of rfl) rfl (ssr_seq (sf_var (pv 3))) (sgt_name (i := 5) sc_reached.nd rfl (by first | exact Or.inl rfl | exact Or.inr rfl)) (ss_one (ss_setIx sf_bl (pv 7) (sg_var (pv 5)))))
    (ss_cons (ss_asg (i := 9) (so_callTy call_list_of co_list rfl T.z_list PySem.Pv.boot_list (sa_cons (sg_var (pv 3)) sa_nil)) sc_reached.nd rfl (by first | exact Or.inl rfl | exact Or.inr rfl))
    (ss_cons (ss_asg (i := 10) (so_of sf_int) sc_reached.nd rfl (by first | exact Or.inl rfl | exact Or.inr rfl))
    (ss_cons (ss_while (passes_of rfl) (st_cmp op_lt opb_CI (sg_var (pv 10)) (sg_of (sf_of (so_callB call_lenA co_len rfl T.z_len boot_len (sa_cons (sg_var (pv 9)) sa_nil)))) (nomark _)) (ss_cons (ss_asg (i := 5) (so_ix ix_seq opo_ix (sg_var (pv 9)) (sg_var (pv 10)) fun _ _ => rfl) sc_reached.nd rfl (by first | exact Or.inl rfl | exact Or.inr rfl))
    (ss_cons (ss_aug (i := 10) iop_add opo_I0 (sg_of sf_int) sc_reached.nd rfl (by first | exact Or.inl rfl | exact Or.inr rfl))
    (ss_one (ss_for (passes_of rfl) rfl (ssr_seq (sf_of (so_ix ix_seq opo_ix (sg_var (pv 0)) (sg_var (pv 5)) fun _ _ => rfl))) (sgt_name (i := 6) sc_reached.nd rfl (by first | exact Or.inl rfl | exact Or.inr rfl)) (ss_cons (ss_setIx sf_bl (pv 8) (sg_var (pv 6)))
    (ss_cons (ss_asg (i := 11) (so_ix ix_seq opo_ix (sg_var (pv 4)) (sg_var (pv 6)) fun _ _ => rfl) sc_reached.nd rfl (by first | exact Or.inl rfl | exact Or.inr rfl))
    (ss_one (ss_if (st_w (sw_and (st_cmp op_notN opb_notN (sg_var (pv 11)) (sg_of sf_non) (nomark _)) (sw_and1 (st_not (st_tru (sg_of (sf_of (so_ix ix_seq opo_ix (sg_var (pv 7)) (sg_var (pv 11)) fun _ _ => rfl)))))))) (ss_cons (ss_setIx sf_bl (pv 7) (sg_var (pv 11)))
    (ss_one (ss_expr (so_of (sf_append (pv 9) (sf_var (pv 11))))))) ss_nil)))))))))
    (ss_one (ss_ret (so_tup (sa_cons (sg_of (sf_var (pv 7))) (sa_cons (sg_of (sf_var (pv 8))) sa_nil)))))))))))))
abbrev s__law_draw : Stmt := top 19
abbrev N__law_draw : List Str := ["pool", "many", "number"]
theorem sc__law_draw : FnScope N__law_draw [("pool" : Str), ("many" : Str)] (defScope s__law_draw) := ⟨rfl, rfl, rfl, by decide +kernel, rfl, by decide +kernel, by decide +kernel⟩
def b__law_draw : PSt := (pSeq (pIf (pB (fEq false) (pArg 0) (pIn (pFr (pDisp (fun ds => .ow false ds) pNil)))) (pRet (pFz (pC (.int 0)))) pNext)
    (pSeq (pAsg 2 (pCB gInt (pCons (pIn (pFr (p2 fIx (pArg 0) (pIn (pC (.int 0)))))) pNil)))
    (pSeq (pSetIx 0 (pIn (pC (.int 0))) (pFr (p2 fFdiv (pArg 2) (pArg 1))))
    (pSeq (pIf (pB (fEq false) (pIn (pFr (p2 fIx (pArg 0) (pIn (pC (.int 0)))))) (pIn (pC (.int 0)))) (pDrop (pFz (pPopAt 0 (pC (.int 0))))) pNext)
    (pRet (p2 fMod (pIn (pFr (pCB gInt (pCons (pArg 2) pNil)))) (pArg 1)))))))
theorem d__law_draw {P : Program} {w : World} {K : PySem.W.Frag} {mg : Str → Option Value} {base : Heap} {C_BadCount C_BadNumber C_BadTable C_ReelError : Addr} (T : Txt K mg C_BadCount C_BadNumber C_BadTable C_ReelError) {f : Addr} {cdv : Value} {A : Around} {outer : List PySem.Env} {s : Shared} {H : Hp} {E : XK} (hr : Room 0 (A.deeper (envOfC "_law_draw" (defScope s__law_draw) s.heap.objs.size f cdv))) :
    SSs (cxOf (L2.CX P w) P w K mg base N__law_draw "_law_draw" (defScope s__law_draw) f cdv A outer s H E) (fun cls d _ H' => E cls d H') (defBody s__law_draw) (b__law_draw) := by
  unfold b__law_draw
  exact (ss_cons (ss_if (st_cmp (op_eqD (hu64 hr)) opb_eq (sg_var (pv 0)) (sg_of (sf_of (so_lst sa_nil))) (nomark _)) (ss_one (ss_ret (so_of sf_int))) ss_nil)
    (ss_cons (ss_asg (i := 2) (so_callTy call_int1 co_int rfl T.z_int PySem.Pv.boot_int (sa_cons (sg_of (sf_of (so_ix ix_seq opo_ix (sg_var (pv 0)) (sg_of sf_int) fun _ _ => rfl))) sa_nil)) sc__law_draw.nd rfl (by first | exact Or.inl rfl | exact Or.inr rfl))
    (ss_cons (ss_setIx (sf_of (so_bin op_fdivW opo_I (sg_var (pv 2)) (sg_var (pv 1)))) (pv 0) (sg_of sf_int))
    (ss_cons (ss_if (st_cmp (op_eqD (hu64 hr)) opb_eq (sg_of (sf_of (so_ix ix_seq opo_ix (sg_var (pv 0)) (sg_of sf_int) fun _ _ => rfl))) (sg_of sf_int) (nomark _)) (ss_one (ss_expr (so_of (sf_popAt (pv 0) sf_int)))) ss_nil)
    (ss_one (ss_ret (so_bin op_mod opo_I (sg_of (sf_of (so_callTy call_int1 co_int rfl T.z_int PySem.Pv.boot_int (sa_cons (sg_var (pv 2)) sa_nil)))) (sg_var (pv 1)))))))))
abbrev s__law_is_int : Stmt := top 20
abbrev N__law_is_int : List Str := ["told"]
theorem sc__law_is_int : FnScope N__law_is_int [("told" : Str)] (defScope s__law_is_int) := ⟨rfl, rfl, rfl, by decide +kernel, rfl, by decide +kernel, by decide +kernel⟩
def b__law_is_int : PSt := (pRet (pFz (pAndV (pFr (pCB gIsi (pCons (pArg 0) (pCons (pIn (pC (.ty "int"))) pNil)))) (pNotV (pFr (pCB gIsi (pCons (pArg 0) (pCons (pIn (pC (.ty "bool"))) pNil))))))))
theorem d__law_is_int {P : Program} {w : World} {K : PySem.W.Frag} {mg : Str → Option Value} {base : Heap} {C_BadCount C_BadNumber C_BadTable C_ReelError : Addr} (T : Txt K mg C_BadCount C_BadNumber C_BadTable C_ReelError) {f : Addr} {cdv : Value} {A : Around} {outer : List PySem.Env} {s : Shared} {H : Hp} {E : XK} (hr : Room 0 (A.deeper (envOfC "_law_is_int" (defScope s__law_is_int) s.heap.objs.size f cdv))) :
    SSs (cxOf (L2.CX P w) P w K mg base N__law_is_int "_law_is_int" (defScope s__law_is_int) f cdv A outer s H E) (fun cls d _ H' => E cls d H') (defBody s__law_is_int) (b__law_is_int) := by
  unfold b__law_is_int
  exact (ss_one (ss_ret (so_of (sf_and (sf_of (so_callB call_isi co_isi rfl T.z_isinstance boot_isinstance (sa_cons (sg_var (pv 0)) (sa_cons (sg_of (sf_ty rfl T.z_int PySem.Pv.boot_int)) sa_nil)))) (sf_one (sf_not (sf_of (so_callB call_isi co_isi rfl T.z_isinstance boot_isinstance (sa_cons (sg_var (pv 0)) (sa_cons (sg_of (sf_ty rfl T.z_bool PySem.Pv.boot_bool)) sa_nil))))))))))
abbrev s__law_size_of_pairing : Stmt := top 21
abbrev N__law_size_of_pairing : List Str := ["told", "rows", "used", "at", "one"]
theorem sc__law_size_of_pairing : FnScope N__law_size_of_pairing [("told" : Str), ("rows" : Str)] (defScope s__law_size_of_pairing) := ⟨rfl, rfl, rfl, by decide +kernel, rfl, by decide +kernel, by decide +kernel⟩
def b__law_size_of_pairing (sp__law_is_int : PSp) : PSt := (pSeq (pIf (pOr (pNot (pVal (pFr (pCB gIsi (pCons (pArg 0) (pCons (pIn (pC (.ty "tuple"))) pNil)))))) (pB (fEq true) (pIn (pFr (pCB gLen (pCons (pArg 0) pNil)))) (pIn (pFr (pCB gLen (pCons (pArg 1) pNil)))))) (pRet (pFz (pNeg (pC (.int 1))))) pNext)
    (pSeq (pAsg 2 (pDisp (fun ds => .ow false ds) pNil))
    (pSeq (pFor (pRng1 (pCons (pIn (pFr (pCB gLen (pCons (pArg 1) pNil)))) pNil)) (gtN 3) (pSeq (pAsg 4 (p2 fIx (pArg 0) (pArg 3)))
    (pIf (pB (fIsN true) (pArg 4) (pIn (pC .non))) (pSeq (pIf (pOr (pNot (pVal (pFr (pCall sp__law_is_int [] (pCons (pIn (pVar 4)) pNil))))) (pOr (pB (fIn true) (pArg 4) (pIn (pFr (p2 fIx (pArg 1) (pArg 3))))) (pB (fIn false) (pArg 4) (pArg 2)))) (pRet (pFz (pNeg (pC (.int 1))))) pNext)
    (pDrop (pFz (pApp 2 (pVar 4))))) pNext)))
    (pRet (pCB gLen (pCons (pArg 2) pNil))))))
theorem d__law_size_of_pairing {P : Program} {w : World} {K : PySem.W.Frag} {mg : Str → Option Value} {base : Heap} {C_BadCount C_BadNumber C_BadTable C_ReelError : Addr} (T : Txt K mg C_BadCount C_BadNumber C_BadTable C_ReelError) {sp__law_is_int : PSp} (c__law_is_int : CalD P w K mg base 1 "_law_is_int" sp__law_is_int) {f : Addr} {cdv : Value} {A : Around} {outer : List PySem.Env} {s : Shared} {H : Hp} {E : XK} (hr : Room 1 (A.deeper (envOfC "_law_size_of_pairing" (defScope s__law_size_of_pairing) s.heap.objs.size f cdv))) :
    SSs (cxOf (L2.CX P w) P w K mg base N__law_size_of_pairing "_law_size_of_pairing" (defScope s__law_size_of_pairing) f cdv A outer s H E) (fun cls d _ H' => E cls d H') (defBody s__law_size_of_pairing) (b__law_size_of_pairing sp__law_is_int) := by
  unfold b__law_size_of_pairing
  exact (ss_cons (ss_if (st_w (sw_or (st_not (st_val (sf_of (so_callB call_isi co_isi rfl T.z_isinstance boot_isinstance (sa_cons (sg_var (pv 0)) (sa_cons (sg_of (sf_ty rfl T.z_tuple PySem.Pv.boot_tuple)) sa_nil)))))) (sw_or1 (st_cmp (op_neD (hu64 hr)) opb_ne (sg_of (sf_of (so_callB call_lenA co_len rfl T.z_len boot_len (sa_cons (sg_var (pv 0)) sa_nil)))) (sg_of (sf_of (so_callB call_lenA co_len rfl T.z_len boot_len (sa_cons (sg_var (pv 1)) sa_nil)))) (nomark _))))) (ss_one (ss_ret (so_of (sf_neg sf_int)))) ss_nil)
    (ss_cons (ss_asg (i := 2) (so_lst sa_nil) sc__law_size_of_pairing.nd rfl (by first | exact Or.inl rfl | exact Or.inr rfl))
    (ss_cons (ss_for (passes_of rfl) rfl (ssr_range1 rfl T.z_range (sa_cons (sg_of (sf_of (so_callB call_lenA co_len rfl T.z_len boot_len (sa_cons (sg_var (pv 1)) sa_nil)))) sa_nil)) (sgt_name (i := 3) sc__law_size_of_pairing.nd rfl (by first | exact Or.inl rfl | exact Or.inr rfl)) (ss_cons (ss_asg (i := 4) (so_ix ix_seq opo_ix (sg_var (pv 0)) (sg_var (pv 3)) fun _ _ => rfl) sc__law_size_of_pairing.nd rfl (by first | exact Or.inl rfl | exact Or.inr rfl))
    (ss_one (ss_if (st_cmp op_notN opb_notN (sg_var (pv 4)) (sg_of sf_non) (nomark _)) (ss_cons (ss_if (st_w (sw_or (st_not (st_val (sf_of (so_cal c__law_is_int hr (by decide) (takes_of rfl rfl rfl rfl) rfl (sa_cons (sg_of (sf_var (pv 4))) sa_nil))))) (sw_or (st_cmp op_notIn_seq opb_in (sg_var (pv 4)) (sg_of (sf_of (so_ix ix_seq opo_ix (sg_var (pv 1)) (sg_var (pv 3)) fun _ _ => rfl))) (by with_unfolding_all rfl)) (sw_or1 (st_cmp op_in_seq opb_in (sg_var (pv 4)) (sg_var (pv 2)) (by with_unfolding_all rfl)))))) (ss_one (ss_ret (so_of (sf_neg sf_int)))) ss_nil)
    (ss_one (ss_expr (so_of (sf_append (pv 2) (sf_var (pv 4))))))) ss_nil))))
    (ss_one (ss_ret (so_callB call_lenA co_len rfl T.z_len boot_len (sa_cons (sg_var (pv 2)) sa_nil)))))))
abbrev s__law_size_of_cover : Stmt := top 22
abbrev N__law_size_of_cover : List Str := ["told", "rows", "columns", "one", "left", "right", "at", "bare"]
theorem sc__law_size_of_cover : FnScope N__law_size_of_cover [("told" : Str), ("rows" : Str), ("columns" : Str)] (defScope s__law_size_of_cover) := ⟨rfl, rfl, rfl, by decide +kernel, rfl, by decide +kernel, by decide +kernel⟩
def b__law_size_of_cover (sp__law_is_int : PSp) : PSt := (pSeq (pIf (pOr (pNot (pVal (pFr (pCB gIsi (pCons (pArg 0) (pCons (pIn (pC (.ty "tuple"))) pNil)))))) (pB (fEq true) (pIn (pFr (pCB gLen (pCons (pArg 0) pNil)))) (pIn (pC (.int 2))))) (pRet (pFz (pNeg (pC (.int 2))))) pNext)
    (pSeq (pIf (pOr (pNot (pVal (pFr (pCB gIsi (pCons (pIn (pFr (p2 fIx (pArg 0) (pIn (pC (.int 0)))))) (pCons (pIn (pC (.ty "tuple"))) pNil)))))) (pNot (pVal (pFr (pCB gIsi (pCons (pIn (pFr (p2 fIx (pArg 0) (pIn (pC (.int 1)))))) (pCons (pIn (pC (.ty "tuple"))) pNil))))))) (pRet (pFz (pNeg (pC (.int 2))))) pNext)
    (pSeq (pIf (pB (fEq true) (pIn (pFr (pLc [3] (pSeqSrc (pFr (p2 fAdd (pIn (pFr (p2 fIx (pArg 0) (pIn (pC (.int 0)))))) (pIn (pFr (p2 fIx (pArg 0) (pIn (pC (.int 1))))))))) (gtN 3) (pNot (pVal (pFr (pCall sp__law_is_int [] (pCons (pIn (pVar 3)) pNil))))) (pVar 3)))) (pIn (pFr (pDisp (fun ds => .ow false ds) pNil)))) (pRet (pFz (pNeg (pC (.int 2))))) pNext)
    (pSeq (pAsg 4 (pCB gList (pCons (pIn (pFr (p2 fIx (pArg 0) (pIn (pC (.int 0)))))) pNil)))
    (pSeq (pAsg 5 (pCB gList (pCons (pIn (pFr (p2 fIx (pArg 0) (pIn (pC (.int 1)))))) pNil)))
    (pSeq (pIf (pB (fEq true) (pArg 4) (pIn (pFr (pLc [6] (pRng1 (pCons (pIn (pFr (pCB gLen (pCons (pArg 1) pNil)))) pNil)) (gtN 6) (pB (fIn false) (pArg 6) (pArg 4)) (pVar 6))))) (pRet (pFz (pNeg (pC (.int 2))))) pNext)
    (pSeq (pIf (pB (fEq true) (pArg 5) (pIn (pFr (pLc [6] (pRng1 (pCons (pIn (pVar 2)) pNil)) (gtN 6) (pB (fIn false) (pArg 6) (pArg 5)) (pVar 6))))) (pRet (pFz (pNeg (pC (.int 2))))) pNext)
    (pSeq (pFor (pRng1 (pCons (pIn (pFr (pCB gLen (pCons (pArg 1) pNil)))) pNil)) (gtN 6) (pSeq (pAsg 7 (pLc [3] (pSeqSrc (pFr (p2 fIx (pArg 1) (pArg 6)))) (gtN 3) (pB (fIn true) (pArg 3) (pArg 5)) (pVar 3)))
    (pIf (pAnd (pB (fIn true) (pArg 6) (pArg 4)) (pB (fEq true) (pArg 7) (pIn (pFr (pDisp (fun ds => .ow false ds) pNil))))) (pRet (pFz (pNeg (pC (.int 2))))) pNext)))
    (pRet (p2 fAdd (pIn (pFr (pCB gLen (pCons (pArg 4) pNil)))) (pIn (pFr (pCB gLen (pCons (pArg 5) pNil))))))))))))))
theorem d__law_size_of_cover {P : Program} {w : World} {K : PySem.W.Frag} {mg : Str → Option Value} {base : Heap} {C_BadCount C_BadNumber C_BadTable C_ReelError : Addr} (T : Txt K mg C_BadCount C_BadNumber C_BadTable C_ReelError) {sp__law_is_int : PSp} (c__law_is_int : CalD P w K mg base 1 "_law_is_int" sp__law_is_int) {f : Addr} {cdv : Value} {A : Around} {outer : List PySem.Env} {s : Shared} {H : Hp} {E : XK} (hr : Room 1 (A.deeper (envOfC "_law_size_of_cover" (defScope s__law_size_of_cover) s.heap.objs.size f cdv))) :
    SSs (cxOf (L2.CX P w) P w K mg base N__law_size_of_cover "_law_size_of_cover" (defScope s__law_size_of_cover) f cdv A outer s H E) (fun cls d _ H' => E cls d H') (defBody s__law_size_of_cover) (b__law_size_of_cover sp__law_is_int) := by
  unfold b__law_size_of_cover
  exact (ss_cons (ss_if (st_w (sw_or (st_not (st_val (sf_of (so_callB call_isi co_isi rfl T.z_isinstance boot_isinstance (sa_cons (sg_var (pv 0)) (sa_cons (sg_of (sf_ty rfl T.z_tuple PySem.Pv.boot_tuple)) sa_nil)))))) (sw_or1 (st_cmp (op_neD (hu64 hr)) opb_ne (sg_of (sf_of (so_callB call_lenA co_len rfl T.z_len boot_len (sa_cons (sg_var (pv 0)) sa_nil)))) (sg_of sf_int) (nomark _))))) (ss_one (ss_ret (so_of (sf_neg sf_int)))) ss_nil)
    (ss_cons (ss_if (st_w (sw_or (st_not (st_val (sf_of (so_callB call_isi co_isi rfl T.z_isinstance boot_isinstance (sa_cons (sg_of (sf_of (so_ix ix_seq opo_ix (sg_var (pv 0)) (sg_of sf_int) fun _ _ => rfl))) (sa_cons (sg_of (sf_ty rfl T.z_tuple PySem.Pv.boot_tuple)) sa_nil)))))) (sw_or1 (st_not (st_val (sf_of (so_callB call_isi co_isi rfl T.z_isinstance boot_isinstance (sa_cons (sg_of (sf_of (so_ix ix_seq opo_ix (sg_var (pv 0)) (sg_of sf_int) fun _ _ => rfl))) (sa_cons (sg_of (sf_ty rfl T.z_tuple PySem.Pv.boot_tuple)) sa_nil))))))))) (ss_one (ss_ret (so_of (sf_neg sf_int)))) ss_nil)
    (ss_cons (ss_if (st_cmp (op_neD (hu64 hr)) opb_ne (sg_of (sf_of (so_lc (own := [(("one" : Str), 3)]) rfl sc__law_size_of_cover.nd (ssr_seq (sf_of (so_bin op_addA opo_add (sg_of (sf_of (so_ix ix_seq opo_ix (sg_var (pv 0)) (sg_of sf_int) fun _ _ => rfl))) (sg_of (sf_of (so_ix ix_seq opo_ix (sg_var (pv 0)) (sg_of sf_int) fun _ _ => rfl)))))) (blkOk_by (N := N__law_size_of_cover) (sc := defScope s__law_size_of_cover) (own := [(("one" : Str), 3)]) (by decide +kernel)) ⟨fun _ _ _ _ _ => (sgt_name (i := 3) sc__law_size_of_cover.nd rfl (by first | exact Or.inl rfl | exact Or.inr rfl)), fun _ _ _ _ _ => (scs_one (st_not (st_val (sf_of (so_cal c__law_is_int hr (by decide) takes0 rfl (sa_cons (sg_of (sf_var (pv 3))) sa_nil)))))), fun _ _ _ _ _ => (sf_var (pv 3)), by decide⟩))) (sg_of (sf_of (so_lst sa_nil))) (nomark _)) (ss_one (ss_ret (so_of (sf_neg sf_int)))) ss_nil)
    (ss_cons (ss_asg (i := 4) (so_callTy call_list_of co_list rfl T.z_list PySem.Pv.boot_list (sa_cons (sg_of (sf_of (so_ix ix_seq opo_ix (sg_var (pv 0)) (sg_of sf_int) fun _ _ => rfl))) sa_nil)) sc__law_size_of_cover.nd rfl (by first | exact Or.inl rfl | exact Or.inr rfl))
    (ss_cons (ss_asg (i := 5) (so_callTy call_list_of co_list rfl T.z_list PySem.Pv.boot_list (sa_cons (sg_of (sf_of (so_ix ix_seq opo_ix (sg_var (pv 0)) (sg_of sf_int) fun _ _ => rfl))) sa_nil)) sc__law_size_of_cover.nd rfl (by first | exact Or.inl rfl | exact Or.inr rfl))
    (ss_cons (ss_if (st_cmp (op_neD (hu64 hr)) opb_ne (sg_var (pv 4)) (sg_of (sf_of (so_lc (own := [(("at" : Str), 6)]) rfl sc__law_size_of_cover.nd (ssr_range1 rfl T.z_range (sa_cons (sg_of (sf_of (so_callB call_lenA co_len rfl T.z_len boot_len (sa_cons (sg_var (pv 1)) sa_nil)))) sa_nil)) (blkOk_by (N := N__law_size_of_cover) (sc := defScope s__law_size_of_cover) (own := [(("at" : Str), 6)]) (by decide +kernel)) ⟨fun _ _ _ _ _ => (sgt_name (i := 6) sc__law_size_of_cover.nd rfl (by first | exact Or.inl rfl | exact Or.inr rfl)), fun _ _ _ _ _ => (scs_one (st_cmp op_in_seq opb_in (sg_var (pv 6)) (sg_var (pv 4)) (by with_unfolding_all rfl))), fun _ _ _ _ _ => (sf_var (pv 6)), by decide⟩))) (nomark _)) (ss_one (ss_ret (so_of (sf_neg sf_int)))) ss_nil)
    (ss_cons (ss_if (st_cmp (op_neD (hu64 hr)) opb_ne (sg_var (pv 5)) (sg_of (sf_of (so_lc (own := [(("at" : Str), 6)]) rfl sc__law_size_of_cover.nd (ssr_range1 rfl T.z_range (sa_cons (sg_of (sf_var (pv 2))) sa_nil)) (blkOk_by (N := N__law_size_of_cover) (sc := defScope s__law_size_of_cover) (own := [(("at" : Str), 6)]) (by decide +kernel)) ⟨fun _ _ _ _ _ => (sgt_name (i := 6) sc__law_size_of_cover.nd rfl (by first | exact Or.inl rfl | exact Or.inr rfl)), fun _ _ _ _ _ => (scs_one (st_cmp op_in_seq opb_in (sg_var (pv 6)) (sg_var (pv 5)) (by with_unfolding_all rfl))), fun _ _ _ _ _ => (sf_var (pv 6)), by decide⟩))) (nomark _)) (ss_one (ss_ret (so_of (sf_neg sf_int)))) ss_nil)
    (ss_cons (ss_for (passes_of rfl) rfl (ssr_range1 rfl T.z_range (sa_cons (sg_of (sf_of (so_callB call_lenA co_len rfl T.z_len boot_len (sa_cons (sg_var (pv 1)) sa_nil)))) sa_nil)) (sgt_name (i := 6) sc__law_size_of_cover.nd rfl (by first | exact Or.inl rfl | exact Or.inr rfl)) (ss_cons (by first | exact ss_asgLc (i := 7) (own := [(("one" : Str), 3)]) rfl sc__law_size_of_cover.nd rfl rfl (sw_true rfl rfl rfl (by decide +kernel)) (ssr_seq (sf_of (so_ix ix_seq opo_ix (sg_var (pv 1)) (sg_var (pv 6)) fun _ _ => rfl))) (blkOk_by (N := N__law_size_of_cover) (sc := defScope s__law_size_of_cover) (own := [(("one" : Str), 3)]) (by decide +kernel)) ⟨fun _ _ _ _ _ => (sgt_name (i := 3) sc__law_size_of_cover.nd rfl (by first | exact Or.inl rfl | exact Or.inr rfl)), fun _ _ _ _ _ => (scs_one (st_cmp op_notIn_seq opb_in (sg_var (pv 3)) (sg_var (pv 5)) (by with_unfolding_all rfl))), fun _ _ _ _ _ => (sf_var (pv 3)), by decide⟩ | exact ss_asg (i := 7) (so_lc (own := [(("one" : Str), 3)]) rfl sc__law_size_of_cover.nd (ssr_seq (sf_of (so_ix ix_seq opo_ix (sg_var (pv 1)) (sg_var (pv 6)) fun _ _ => rfl))) (blkOk_by (N := N__law_size_of_cover) (sc := defScope s__law_size_of_cover) (own := [(("one" : Str), 3)]) (by decide +kernel)) ⟨fun _ _ _ _ _ => (sgt_name (i := 3) sc__law_size_of_cover.nd rfl (by first | exact Or.inl rfl | exact Or.inr rfl)), fun _ _ _ _ _ => (scs_one (st_cmp op_notIn_seq opb_in (sg_var (pv 3)) (sg_var (pv 5)) (by with_unfolding_all rfl))), fun _ _ _ _ _ => (sf_var (pv 3)), by decide⟩) sc__law_size_of_cover.nd rfl (by first | exact Or.inl rfl | exact Or.inr rfl))
    (ss_one (ss_if (st_w (sw_and (st_cmp op_notIn_seq opb_in (sg_var (pv 6)) (sg_var (pv 4)) (by with_unfolding_all rfl)) (sw_and1 (st_cmp (op_neD (hu64 hr)) opb_ne (sg_var (pv 7)) (sg_of (sf_of (so_lst sa_nil))) (nomark _))))) (ss_one (ss_ret (so_of (sf_neg sf_int)))) ss_nil))))
    (ss_one (ss_ret (so_bin op_addA opo_add (sg_of (sf_of (so_callB call_lenA co_len rfl T.z_len boot_len (sa_cons (sg_var (pv 4)) sa_nil)))) (sg_of (sf_of (so_callB call_lenA co_len rfl T.z_len boot_len (sa_cons (sg_var (pv 5)) sa_nil)))))))))))))))
abbrev s__law_meets : Stmt := top 23
abbrev N__law_meets : List Str := ["given", "rows", "columns", "pairing", "cover", "row"]
theorem sc__law_meets : FnScope N__law_meets [("given" : Str), ("rows" : Str), ("columns" : Str)] (defScope s__law_meets) := ⟨rfl, rfl, rfl, by decide +kernel, rfl, by decide +kernel, by decide +kernel⟩
def b__law_meets (sp__law_size_of_cover sp__law_size_of_pairing sp_greatest_pairing sp_pairing_cover : PSp) : PSt := (pSeq (pAsg 3 (pCall sp_greatest_pairing [] (pCons (pIn (pVar 0)) (pCons (pIn (pVar 2)) pNil))))
    (pSeq (pAsg 4 (pCallK sp_pairing_cover id (pCons (pIn (pVar 0)) (pCons (pIn (pVar 2)) pNil))))
    (pSeq (pIf (pB (fEq true) (pIn (pFr (pLc [5] (pSeqSrc (pVar 0)) (gtN 5) pYes (pFr (pCB gList (pCons (pArg 5) pNil)))))) (pArg 1)) (pRet (pFz (pC (.bl false)))) pNext)
    (pRet (pFz (pBl (pB (fEq false) (pIn (pFr (pCall sp__law_size_of_pairing [] (pCons (pIn (pVar 3)) (pCons (pIn (pVar 1)) pNil))))) (pIn (pFr (pCall sp__law_size_of_cover [] (pCons (pIn (pVar 4)) (pCons (pIn (pVar 1)) (pCons (pIn (pVar 2)) pNil)))))))))))))
theorem d__law_meets {P : Program} {w : World} {K : PySem.W.Frag} {mg : Str → Option Value} {base : Heap} {C_BadCount C_BadNumber C_BadTable C_ReelError : Addr} (T : Txt K mg C_BadCount C_BadNumber C_BadTable C_ReelError) {sp__law_size_of_cover sp__law_size_of_pairing sp_greatest_pairing sp_pairing_cover : PSp} (c__law_size_of_cover : CalD P w K mg base 2 "_law_size_of_cover" sp__law_size_of_cover) (c__law_size_of_pairing : CalD P w K mg base 2 "_law_size_of_pairing" sp__law_size_of_pairing) (c_greatest_pairing : CalD P w K mg base 5 "greatest_pairing" sp_greatest_pairing) (K_pairing_cover : CalK P w K mg base 5 "pairing_cover" ["rows", "columns"] sp_pairing_cover) {f : Addr} {cdv : Value} {A : Around} {outer : List PySem.Env} {s : Shared} {H : Hp} {E : XK} (hr : Room 5 (A.deeper (envOfC "_law_meets" (defScope s__law_meets) s.heap.objs.size f cdv))) :
    SSs (cxOf (L2.CX P w) P w K mg base N__law_meets "_law_meets" (defScope s__law_meets) f cdv A outer s H E) (fun cls d _ H' => E cls d H') (defBody s__law_meets) (b__law_meets sp__law_size_of_cover sp__law_size_of_pairing sp_greatest_pairing sp_pairing_cover) := by
  unfold b__law_meets
  exact (ss_cons (ss_asg (i := 3) (so_cal c_greatest_pairing hr (by decide) (takes_of rfl rfl rfl rfl) rfl (sa_cons (sg_of (sf_var (pv 0))) (sa_cons (sg_of (sf_var (pv 2))) sa_nil))) sc__law_meets.nd rfl (by first | exact Or.inl rfl | exact Or.inr rfl))
    (ss_cons (ss_asg (i := 4) (so_calK K_pairing_cover hr (by decide) (takes_of rfl rfl rfl rfl) rfl (sk_cons (sg_of (sf_var (pv 0))) (sk_cons (sg_of (sf_var (pv 2))) sk_nil))) sc__law_meets.nd rfl (by first | exact Or.inl rfl | exact Or.inr rfl))
    (ss_cons (ss_if (st_cmp (op_neD (hu64 hr)) opb_ne (sg_of (sf_of (so_lc (own := [(("row" : Str), 5)]) rfl sc__law_meets.nd (ssr_seq (sf_var (pv 0))) (blkOk_by (N := N__law_meets) (sc := defScope s__law_meets) (own := [(("row" : Str), 5)]) (by decide +kernel)) ⟨fun _ _ _ _ _ => (sgt_name (i := 5) sc__law_meets.nd rfl (by first | exact Or.inl rfl | exact Or.inr rfl)), fun _ _ _ _ _ => scs_nil, fun _ _ _ _ _ => (sf_of (so_callTy call_list_of co_list rfl T.z_list PySem.Pv.boot_list (sa_cons (sg_var (pv 5)) sa_nil))), by decide⟩))) (sg_var (pv 1)) (nomark _)) (ss_one (ss_ret (so_of sf_bl))) ss_nil)
    (ss_one (ss_ret (so_of (sf_cmp (op_eqD (hu64 hr)) opb_eq (sg_of (sf_of (so_cal c__law_size_of_pairing hr (by decide) (takes_of rfl rfl rfl rfl) rfl (sa_cons (sg_of (sf_var (pv 3))) (sa_cons (sg_of (sf_var (pv 1))) sa_nil))))) (sg_of (sf_of (so_cal c__law_size_of_cover hr (by decide) (takes_of rfl rfl rfl rfl) rfl (sa_cons (sg_of (sf_var (pv 4))) (sa_cons (sg_of (sf_var (pv 1))) (sa_cons (sg_of (sf_var (pv 2))) sa_nil)))))) (nomark _))))))))
abbrev s__law_table : Stmt := top 24
abbrev N__law_table : List Str := ["pool", "rows", "many", "columns", "at", "picks", "turn", "one", "mask"]
theorem sc__law_table : FnScope N__law_table [("pool" : Str)] (defScope s__law_table) := ⟨rfl, rfl, rfl, by decide +kernel, rfl, by decide +kernel, by decide +kernel⟩
def b__law_table (sp__law_draw : PSp) : PSt := (pSeq (pAsg 1 (pDisp (fun ds => .ow false ds) pNil))
    (pSeq (pIf (pB (fEq false) (pIn (pFr (pCall sp__law_draw [] (pCons (pArg 0) (pCons (pIn (pC (.int 8))) pNil))))) (pIn (pC (.int 7)))) (pSeq (pAsg 2 (p2 fSub (pIn (pC (.int 40))) (pIn (pFr (pCall sp__law_draw [] (pCons (pArg 0) (pCons (pIn (pC (.int 40))) pNil)))))))
    (pSeq (pAsg 3 (p2 fSub (pIn (pC (.int 40))) (pIn (pFr (pCall sp__law_draw [] (pCons (pArg 0) (pCons (pIn (pC (.int 40))) pNil)))))))
    (pSeq (pFor (pRng1 (pCons (pIn (pVar 2)) pNil)) (gtN 4) (pSeq (pAsg 5 (pDisp (fun ds => .ow false ds) pNil))
    (pSeq (pFor (pRng1 (pCons (pIn (pFr (p2 fMod (pIn (pFr (pCB gInt (pCons (pIn (pFr (p2 fAdd (pIn (pFr (pCall sp__law_draw [] (pCons (pArg 0) (pCons (pIn (pC (.int 4))) pNil))))) (pIn (pC (.int 3)))))) pNil)))) (pIn (pC (.int 4)))))) pNil)) (gtN 6) (pDrop (pFz (pApp 5 (pFr (p2 fMod (pIn (pFr (pCB gInt (pCons (pIn (pFr (p2 fAdd (pIn (pFr (p2 fAdd (pIn (pFr (p2 fMul (pIn (pC (.int 7))) (pArg 4)))) (pIn (pFr (p2 fMul (pIn (pC (.int 11))) (pArg 6))))))) (pIn (pFr (pCall sp__law_draw [] (pCons (pArg 0) (pCons (pIn (pC (.int 40))) pNil)))))))) pNil)))) (pArg 3)))))))
    (pDrop (pFz (pApp 1 (pFr (pLc [7] (pRng1 (pCons (pIn (pVar 3)) pNil)) (gtN 7) (pB (fIn false) (pArg 7) (pArg 5)) (pVar 7)))))))))
    (pRet (pDisp (fun ds => .ow false ds) (pCons (pIn (pVarC 1)) (pCons (pIn (pVar 3)) pNil))))))) pNext)
    (pSeq (pAsg 2 (p2 fMod (pIn (pFr (pCB gInt (pCons (pIn (pFr (p2 fAdd (pIn (pFr (pCall sp__law_draw [] (pCons (pArg 0) (pCons (pIn (pC (.int 8))) pNil))))) (pIn (pC (.int 5)))))) pNil)))) (pIn (pC (.int 8)))))
    (pSeq (pAsg 3 (p2 fMod (pIn (pFr (pCB gInt (pCons (pIn (pFr (p2 fAdd (pIn (pFr (pCall sp__law_draw [] (pCons (pArg 0) (pCons (pIn (pC (.int 8))) pNil))))) (pIn (pC (.int 4)))))) pNil)))) (pIn (pC (.int 8)))))
    (pSeq (pFor (pRng1 (pCons (pIn (pVar 2)) pNil)) (gtN 4) (pSeq (pAsg 8 (p2 fMod (pIn (pFr (pCB gInt (pCons (pIn (pFr (p2 fAdd (pIn (pFr (p2 fAdd (pIn (pFr (pCall sp__law_draw [] (pCons (pArg 0) (pCons (pIn (pFr (p2 fShl (pIn (pC (.int 1))) (pArg 3)))) pNil))))) (pIn (pC (.int 5)))))) (pIn (pFr (p2 fMul (pIn (pC (.int 6))) (pArg 4))))))) pNil)))) (pIn (pFr (p2 fShl (pIn (pC (.int 1))) (pArg 3))))))
    (pDrop (pFz (pApp 1 (pFr (pLc [7] (pRng1 (pCons (pIn (pVar 3)) pNil)) (gtN 7) (pTru (pIn (pFr (p2 fAnd (pIn (pFr (p2 fShr (pArg 8) (pArg 7)))) (pIn (pC (.int 1))))))) (pVar 7))))))))
    (pRet (pDisp (fun ds => .ow false ds) (pCons (pIn (pVarC 1)) (pCons (pIn (pVar 3)) pNil)))))))))
theorem d__law_table {P : Program} {w : World} {K : PySem.W.Frag} {mg : Str → Option Value} {base : Heap} {C_BadCount C_BadNumber C_BadTable C_ReelError : Addr} (T : Txt K mg C_BadCount C_BadNumber C_BadTable C_ReelError) {sp__law_draw : PSp} (c__law_draw : CalD P w K mg base 1 "_law_draw" sp__law_draw) {f : Addr} {cdv : Value} {A : Around} {outer : List PySem.Env} {s : Shared} {H : Hp} {E : XK} (hr : Room 1 (A.deeper (envOfC "_law_table" (defScope s__law_table) s.heap.objs.size f cdv))) :
    SSs (cxOf (L2.CX P w) P w K mg base N__law_table "_law_table" (defScope s__law_table) f cdv A outer s H E) (fun cls d _ H' => E cls d H') (defBody s__law_table) (b__law_table sp__law_draw) := by
  unfold b__law_table
  exact (ss_cons (ss_asg (i := 1) (so_lst sa_nil) sc__law_table.nd rfl (by first | exact Or.inl rfl | exact Or.inr rfl))
    (ss_cons (ss_if (st_cmp (op_eqD (hu64 hr)) opb_eq (sg_of (sf_of (so_cal c__law_draw hr (by decide) (takes_of rfl rfl rfl rfl) rfl (sa_cons (sg_var (pv 0)) (sa_cons (sg_of sf_int) sa_nil))))) (sg_of sf_int) (nomark _)) (ss_cons (ss_asg (i := 2) (so_bin op_sub opo_I0 (sg_of sf_int) (sg_of (sf_of (so_cal c__law_draw hr (by decide) (takes_of rfl rfl rfl rfl) rfl (sa_cons (sg_var (pv 0)) (sa_cons (sg_of sf_int) sa_nil)))))) sc__law_table.nd rfl (by first | exact Or.inl rfl | exact Or.inr rfl))
    (ss_cons (ss_asg (i := 3) (so_bin op_sub opo_I0 (sg_of sf_int) (sg_of (sf_of (so_cal c__law_draw hr (by decide) (takes_of rfl rfl rfl rfl) rfl (sa_cons (sg_var (pv 0)) (sa_cons (sg_of sf_int) sa_nil)))))) sc__law_table.nd rfl (by first | exact Or.inl rfl | exact Or.inr rfl))
    (ss_cons (ss_for (passes_of rfl) rfl (ssr_range1 rfl T.z_range (sa_cons (sg_of (sf_var (pv 2))) sa_nil)) (sgt_name (i := 4) sc__law_table.nd rfl (by first | exact Or.inl rfl | exact Or.inr rfl)) (ss_cons (ss_asg (i := 5) (so_lst sa_nil) sc__law_table.nd rfl (by first | exact Or.inl rfl | exact Or.inr rfl))
    (ss_cons (ss_for (passes_of rfl) rfl (ssr_range1 rfl T.z_range (sa_cons (sg_of (sf_of (so_bin op_mod opo_I (sg_of (sf_of (so_callTy call_int1 co_int rfl T.z_int PySem.Pv.boot_int (sa_cons (sg_of (sf_of (so_bin op_addA opo_add (sg_of (sf_of (so_cal c__law_draw hr (by decide) (takes_of rfl rfl rfl rfl) rfl (sa_cons (sg_var (pv 0)) (sa_cons (sg_of sf_int) sa_nil))))) (sg_of sf_int)))) sa_nil)))) (sg_of sf_int)))) sa_nil)) (sgt_name (i := 6) sc__law_table.nd rfl (by first | exact Or.inl rfl | exact Or.inr rfl)) (ss_one (ss_expr (so_of (sf_append (pv 5) (sf_of (so_bin op_mod opo_I (sg_of (sf_of (so_callTy call_int1 co_int rfl T.z_int PySem.Pv.boot_int (sa_cons (sg_of (sf_of (so_bin op_addA opo_add (sg_of (sf_of (so_bin op_addA opo_add (sg_of (sf_of (so_bin op_mulA opo_mul (sg_of sf_int) (sg_var (pv 4))))) (sg_of (sf_of (so_bin op_mulA opo_mul (sg_of sf_int) (sg_var (pv 6)))))))) (sg_of (sf_of (so_cal c__law_draw hr (by decide) (takes_of rfl rfl rfl rfl) rfl (sa_cons (sg_var (pv 0)) (sa_cons (sg_of sf_int) sa_nil)))))))) sa_nil)))) (sg_var (pv 3)))))))))
    (ss_one (ss_expr (so_of (sf_append (pv 1) (sf_of (so_lc (own := [(("one" : Str), 7)]) rfl sc__law_table.nd (ssr_range1 rfl T.z_range (sa_cons (sg_of (sf_var (pv 3))) sa_nil)) (blkOk_by (N := N__law_table) (sc := defScope s__law_table) (own := [(("one" : Str), 7)]) (by decide +kernel)) ⟨fun _ _ _ _ _ => (sgt_name (i := 7) sc__law_table.nd rfl (by first | exact Or.inl rfl | exact Or.inr rfl)), fun _ _ _ _ _ => (scs_one (st_cmp op_in_seq opb_in (sg_var (pv 7)) (sg_var (pv 5)) (by with_unfolding_all rfl))), fun _ _ _ _ _ => (sf_var (pv 7)), by decide⟩)))))))))
    (ss_one (ss_ret (so_lst (sa_cons (sg_of (sf_varC (pv 1))) (sa_cons (sg_of (sf_var (pv 3))) sa_nil)))))))) ss_nil)
    (ss_cons (ss_asg (i := 2) (so_bin op_mod opo_I (sg_of (sf_of (so_callTy call_int1 co_int rfl T.z_int PySem.Pv.boot_int (sa_cons (sg_of (sf_of (so_bin op_addA opo_add (sg_of (sf_of (so_cal c__law_draw hr (by decide) (takes_of rfl rfl rfl rfl) rfl (sa_cons (sg_var (pv 0)) (sa_cons (sg_of sf_int) sa_nil))))) (sg_of sf_int)))) sa_nil)))) (sg_of sf_int)) sc__law_table.nd rfl (by first | exact Or.inl rfl | exact Or.inr rfl))
    (ss_cons (ss_asg (i := 3) (so_bin op_mod opo_I (sg_of (sf_of (so_callTy call_int1 co_int rfl T.z_int PySem.Pv.boot_int (sa_cons (sg_of (sf_of (so_bin op_addA opo_add (sg_of (sf_of (so_cal c__law_draw hr (by decide) (takes_of rfl rfl rfl rfl) rfl (sa_cons (sg_var (pv 0)) (sa_cons (sg_of sf_int) sa_nil))))) (sg_of sf_int)))) sa_nil)))) (sg_of sf_int)) sc__law_table.nd rfl (by first | exact Or.inl rfl | exact Or.inr rfl))
    (ss_cons (ss_for (passes_of rfl) rfl (ssr_range1 rfl T.z_range (sa_cons (sg_of (sf_var (pv 2))) sa_nil)) (sgt_name (i := 4) sc__law_table.nd rfl (by first | exact Or.inl rfl | exact Or.inr rfl)) (ss_cons (ss_asg (i := 8) (so_bin op_mod opo_I (sg_of (sf_of (so_callTy call_int1 co_int rfl T.z_int PySem.Pv.boot_int (sa_cons (sg_of (sf_of (so_bin op_addA opo_add (sg_of (sf_of (so_bin op_addA opo_add (sg_of (sf_of (so_cal c__law_draw hr (by decide) (takes_of rfl rfl rfl rfl) rfl (sa_cons (sg_var (pv 0)) (sa_cons (sg_of (sf_of (so_bin op_shl opo_I (sg_of sf_int) (sg_var (pv 3))))) sa_nil))))) (sg_of sf_int)))) (sg_of (sf_of (so_bin op_mulA opo_mul (sg_of sf_int) (sg_var (pv 4)))))))) sa_nil)))) (sg_of (sf_of (so_bin op_shl opo_I (sg_of sf_int) (sg_var (pv 3)))))) sc__law_table.nd rfl (by first | exact Or.inl rfl | exact Or.inr rfl))
    (ss_one (ss_expr (so_of (sf_append (pv 1) (sf_of (so_lc (own := [(("one" : Str), 7)]) rfl sc__law_table.nd (ssr_range1 rfl T.z_range (sa_cons (sg_of (sf_var (pv 3))) sa_nil)) (blkOk_by (N := N__law_table) (sc := defScope s__law_table) (own := [(("one" : Str), 7)]) (by decide +kernel)) ⟨fun _ _ _ _ _ => (sgt_name (i := 7) sc__law_table.nd rfl (by first | exact Or.inl rfl | exact Or.inr rfl)), fun _ _ _ _ _ => (scs_one (st_tru (sg_of (sf_of (so_bin op_and opo_I0 (sg_of (sf_of (so_bin op_shr opo_I (sg_var (pv 8)) (sg_var (pv 7))))) (sg_of sf_int)))))), fun _ _ _ _ _ => (sf_var (pv 7)), by decide⟩))))))))
    (ss_one (ss_ret (so_lst (sa_cons (sg_of (sf_varC (pv 1))) (sa_cons (sg_of (sf_var (pv 3))) sa_nil))))))))))
abbrev s__law_long_table : Stmt := top 25
abbrev N__law_long_table : List Str := ["pool", "many", "shift", "rows", "spot", "due", "at", "place"]
theorem sc__law_long_table : FnScope N__law_long_table [("pool" : Str)] (defScope s__law_long_table) := ⟨rfl, rfl, rfl, by decide +kernel, rfl, by decide +kernel, by decide +kernel⟩
def b__law_long_table (sp__law_draw : PSp) : PSt := (pSeq (pAsg 1 (p2 fSub (pIn (pC (.int 128))) (pIn (pFr (pCall sp__law_draw [] (pCons (pArg 0) (pCons (pIn (pC (.int 127))) pNil)))))))
    (pSeq (pAsg 2 (pCall sp__law_draw [] (pCons (pArg 0) (pCons (pIn (pVar 1)) pNil))))
    (pSeq (pAsg 3 (pLc [4] (pRng1 (pCons (pIn (pVar 1)) pNil)) (gtN 4) pYes (pFr (pDisp (fun ds => .ow false ds) pNil))))
    (pSeq (pAsg 5 (pLc [4] (pRng1 (pCons (pIn (pVar 1)) pNil)) (gtN 4) pYes (pC (.int 0))))
    (pSeq (pFor (pRng1 (pCons (pIn (pVar 1)) pNil)) (gtN 6) (pSeq (pAsg 7 (p2 fMod (pIn (pFr (pCB gInt (pCons (pIn (pFr (p2 fAdd (pArg 6) (pArg 2)))) pNil)))) (pArg 1)))
    (pIf (pB fLt (pIn (pFr (p2 fAdd (pArg 6) (pIn (pC (.int 1)))))) (pArg 1)) (pSeq (pSetIx 3 (pArg 7) (pFr (pDisp (fun ds => .ow false ds) (pCons (pIn (pVar 6)) (pCons (pIn (pFr (p2 fAdd (pArg 6) (pIn (pC (.int 1)))))) pNil)))))
    (pSetIx 5 (pArg 7) (pFr (p2 fAdd (pArg 6) (pIn (pC (.int 1))))))) (pSetIx 3 (pArg 7) (pFr (pDisp (fun ds => .ow false ds) (pCons (pIn (pC (.int 0))) pNil)))))))
    (pRet (pDisp (fun ds => .ow false ds) (pCons (pIn (pVarC 3)) (pCons (pIn (pVar 5)) pNil)))))))))
theorem d__law_long_table {P : Program} {w : World} {K : PySem.W.Frag} {mg : Str → Option Value} {base : Heap} {C_BadCount C_BadNumber C_BadTable C_ReelError : Addr} (T : Txt K mg C_BadCount C_BadNumber C_BadTable C_ReelError) {sp__law_draw : PSp} (c__law_draw : CalD P w K mg base 1 "_law_draw" sp__law_draw) {f : Addr} {cdv : Value} {A : Around} {outer : List PySem.Env} {s : Shared} {H : Hp} {E : XK} (hr : Room 1 (A.deeper (envOfC "_law_long_table" (defScope s__law_long_table) s.heap.objs.size f cdv))) :
    SSs (cxOf (L2.CX P w) P w K mg base N__law_long_table "_law_long_table" (defScope s__law_long_table) f cdv A outer s H E) (fun cls d _ H' => E cls d H') (defBody s__law_long_table) (b__law_long_table sp__law_draw) := by
  unfold b__law_long_table
  exact (ss_cons (ss_asg (i := 1) (so_bin op_sub opo_I0 (sg_of sf_int) (sg_of (sf_of (so_cal c__law_draw hr (by decide) (takes_of rfl rfl rfl rfl) rfl (sa_cons (sg_var (pv 0)) (sa_cons (sg_of sf_int) sa_nil)))))) sc__law_long_table.nd rfl (by first | exact Or.inl rfl | exact Or.inr rfl))
    (ss_cons (ss_asg (i := 2) (so_cal c__law_draw hr (by decide) (takes_of rfl rfl rfl rfl) rfl (sa_cons (sg_var (pv 0)) (sa_cons (sg_of (sf_var (pv 1))) sa_nil))) sc__law_long_table.nd rfl (by first | exact Or.inl rfl | exact Or.inr rfl))
    (ss_cons (by first | exact ss_asgLc (i := 3) (own := [(("spot" : Str), 4)]) rfl sc__law_long_table.nd rfl rfl (sw_true rfl rfl rfl (by decide +kernel)) (ssr_range1 rfl T.z_range (sa_cons (sg_of (sf_var (pv 1))) sa_nil)) (blkOk_by (N := N__law_long_table) (sc := defScope s__law_long_table) (own := [(("spot" : Str), 4)]) (by decide +kernel)) ⟨fun _ _ _ _ _ => (sgt_name (i := 4) sc__law_long_table.nd rfl (by first | exact Or.inl rfl | exact Or.inr rfl)), fun _ _ _ _ _ => scs_nil, fun _ _ _ _ _ => (sf_of (so_lst sa_nil)), by decide⟩ | exact ss_asg (i := 3) (so_lc (own := [(("spot" : Str), 4)]) rfl sc__law_long_table.nd (ssr_range1 rfl T.z_range (sa_cons (sg_of (sf_var (pv 1))) sa_nil)) (blkOk_by (N := N__law_long_table) (sc := defScope s__law_long_table) (own := [(("spot" : Str), 4)]) (by decide +kernel)) ⟨fun _ _ _ _ _ => (sgt_name (i := 4) sc__law_long_table.nd rfl (by first | exact Or.inl rfl | exact Or.inr rfl)), fun _ _ _ _ _ => scs_nil, fun _ _ _ _ _ => (sf_of (so_lst sa_nil)), by decide⟩) sc__law_long_table.nd rfl (by first | exact Or.inl rfl | exact Or.inr rfl))
    (ss_cons (by first | exact ss_asgLc (i := 5) (own := [(("spot" : Str), 4)]) rfl sc__law_long_table.nd rfl rfl (sw_true rfl rfl rfl (by decide +kernel)) (ssr_range1 rfl T.z_range (sa_cons (sg_of (sf_var (pv 1))) sa_nil)) (blkOk_by (N := N__law_long_table) (sc := defScope s__law_long_table) (own := [(("spot" : Str), 4)]) (by decide +kernel)) ⟨fun _ _ _ _ _ => (sgt_name (i := 4) sc__law_long_table.nd rfl (by first | exact Or.inl rfl | exact Or.inr rfl)), fun _ _ _ _ _ => scs_nil, fun _ _ _ _ _ => sf_int, by decide⟩ | exact ss_asg (i := 5) (so_lc (own := [(("spot" : Str), 4)]) rfl sc__law_long_table.nd (ssr_range1 rfl T.z_range (sa_cons (sg_of (sf_var (pv 1))) sa_nil)) (blkOk_by (N := N__law_long_table) (sc := defScope s__law_long_table) (own := [(("spot" : Str), 4)]) (by decide +kernel)) ⟨fun _ _ _ _ _ => (sgt_name (i := 4) sc__law_long_table.nd rfl (by first | exact Or.inl rfl | exact Or.inr rfl)), fun _ _ _ _ _ => scs_nil, fun _ _ _ _ _ => sf_int, by decide⟩) sc__law_long_table.nd rfl (by first | exact Or.inl rfl | exact Or.inr rfl))
    (ss_cons (ss_for (passes_of rfl) rfl (ssr_range1 rfl T.z_range (sa_cons (sg_of (sf_var (pv 1))) sa_nil)) (sgt_name (i := 6) sc__law_long_table.nd rfl (by first | exact Or.inl rfl | exact Or.inr rfl)) (ss_cons (ss_asg (i := 7) (so_bin op_mod opo_I (sg_of (sf_of (so_callTy call_int1 co_int rfl T.z_int PySem.Pv.boot_int (sa_cons (sg_of (sf_of (so_bin op_addA opo_add (sg_var (pv 6)) (sg_var (pv 2))))) sa_nil)))) (sg_var (pv 1))) sc__law_long_table.nd rfl (by first | exact Or.inl rfl | exact Or.inr rfl))
    (ss_one (ss_if (st_cmp op_lt opb_CI (sg_of (sf_of (so_bin op_addA opo_add (sg_var (pv 6)) (sg_of sf_int)))) (sg_var (pv 1)) (nomark _)) (ss_cons (ss_setIx (sf_of (so_lst (sa_cons (sg_of (sf_var (pv 6))) (sa_cons (sg_of (sf_of (so_bin op_addA opo_add (sg_var (pv 6)) (sg_of sf_int)))) sa_nil)))) (pv 3) (sg_var (pv 7)))
    (ss_one (ss_setIx (sf_of (so_bin op_addA opo_add (sg_var (pv 6)) (sg_of sf_int))) (pv 5) (sg_var (pv 7))))) (ss_one (ss_setIx (sf_of (so_lst (sa_cons (sg_of sf_int) sa_nil))) (pv 3) (sg_var (pv 7))))))))
    (ss_one (ss_ret (so_lst (sa_cons (sg_of (sf_varC (pv 3))) (sa_cons (sg_of (sf_var (pv 5))) sa_nil))))))))))
abbrev s__law_refusal : Stmt := top 26
abbrev N__law_refusal : List Str := ["which", "rows", "columns", "full", "other", "wide", "odd"]
theorem sc__law_refusal : FnScope N__law_refusal [("which" : Str), ("rows" : Str), ("columns" : Str)] (defScope s__law_refusal) := ⟨rfl, rfl, rfl, by decide +kernel, rfl, by decide +kernel, by decide +kernel⟩
def b__law_refusal (sp_greatest_pairing sp_pairing_cover : PSp) (C_BadCount C_BadNumber C_BadTable C_ReelError : Addr) (tab_BadCount tab_BadNumber tab_BadTable : Addr → Option Bool) (tb : Addr → D → Option Bool) : PSt := (pSeq (pTry [⟨tab_BadCount, 3, fun a cls d => (pSeq (pAsg 4 (pCB (gIsX tb a cls d) (pCons (pIn (pVar 3)) (pCons (pIn (pFr (pDisp (fun ds => .fz (.tup ds)) (pCons (pIn (pC (.ref C_BadNumber))) (pCons (pIn (pC (.ref C_BadTable))) pNil))))) pNil))))
    (pRet (pDisp (fun ds => .ow false ds) (pCons (pIn (pC (.str "BadCount"))) (pCons (pIn (pXf a cls d C_BadCount "what" (pVar 3))) (pCons (pIn (pXf a cls d C_BadCount "many" (pVar 3))) (pCons (pIn (pVar 4)) (pCons (pIn (pFr (pCB (gIsX tb a cls d) (pCons (pIn (pVar 3)) (pCons (pIn (pC (.ref C_ReelError))) pNil))))) pNil))))))))⟩, ⟨tab_BadNumber, 5, fun a cls d => (pSeq (pAsg 4 (pCB (gIsX tb a cls d) (pCons (pIn (pVar 5)) (pCons (pIn (pFr (pDisp (fun ds => .fz (.tup ds)) (pCons (pIn (pC (.ref C_BadCount))) (pCons (pIn (pC (.ref C_BadTable))) pNil))))) pNil))))
    (pRet (pDisp (fun ds => .ow false ds) (pCons (pIn (pC (.str "BadNumber"))) (pCons (pIn (pXf a cls d C_BadNumber "what" (pVar 5))) (pCons (pIn (pXf a cls d C_BadNumber "number" (pVar 5))) (pCons (pIn (pVar 4)) (pCons (pIn (pFr (pCB (gIsX tb a cls d) (pCons (pIn (pVar 5)) (pCons (pIn (pC (.ref C_ReelError))) pNil))))) pNil))))))))⟩, ⟨tab_BadTable, 6, fun a cls d => (pSeq (pAsg 4 (pFz (pOrV (pFr (pCB (gIsX tb a cls d) (pCons (pIn (pVar 6)) (pCons (pIn (pFr (pDisp (fun ds => .fz (.tup ds)) (pCons (pIn (pC (.ref C_BadCount))) (pCons (pIn (pC (.ref C_BadNumber))) pNil))))) pNil)))) (pNotV (pFr (pCB (gIsX tb a cls d) (pCons (pIn (pVar 6)) (pCons (pIn (pC (.ty "ValueError"))) pNil))))))))
    (pRet (pDisp (fun ds => .ow false ds) (pCons (pIn (pC (.str "BadTable"))) (pCons (pIn (pC (.str ""))) (pCons (pIn (pXf a cls d C_BadTable "at" (pVar 6))) (pCons (pIn (pVar 4)) (pCons (pIn (pFr (pCB (gIsX tb a cls d) (pCons (pIn (pVar 6)) (pCons (pIn (pC (.ref C_ReelError))) pNil))))) pNil))))))))⟩] (pIf (pB (fEq false) (pArg 0) (pIn (pC (.int 0)))) (pDrop (pCall sp_greatest_pairing [] (pCons (pIn (pVar 1)) (pCons (pIn (pVar 2)) pNil)))) (pDrop (pCall sp_pairing_cover [] (pCons (pIn (pVar 1)) (pCons (pIn (pVar 2)) pNil))))))
    (pRet (pDisp (fun ds => .ow false ds) (pCons (pIn (pC (.str "told"))) (pCons (pIn (pC (.str ""))) (pCons (pIn (pC (.int 0))) (pCons (pIn (pC (.bl false))) (pCons (pIn (pC (.bl true))) pNil))))))))
theorem d__law_refusal {P : Program} {w : World} {K : PySem.W.Frag} {mg : Str → Option Value} {base : Heap} {C_BadCount C_BadNumber C_BadTable C_ReelError : Addr} (T : Txt K mg C_BadCount C_BadNumber C_BadTable C_ReelError) {sp_greatest_pairing sp_pairing_cover : PSp} (c_greatest_pairing : CalD P w K mg base 5 "greatest_pairing" sp_greatest_pairing) (c_pairing_cover : CalD P w K mg base 5 "pairing_cover" sp_pairing_cover) {tab_BadCount tab_BadNumber tab_BadTable : Addr → Option Bool} {tb : Addr → D → Option Bool} (ht_BadCount : ∀ C b, tab_BadCount C = some b → PySem.W.exmOne K (.ref C) (.ref C_BadCount) = some b) (hx_BadCount : ∀ C, tab_BadCount C = some true → ExcC K C) (hb_BadCount : ∀ C, tab_BadCount C = some true → TbOk K (.ref C) (tb C)) (ht_BadNumber : ∀ C b, tab_BadNumber C = some b → PySem.W.exmOne K (.ref C) (.ref C_BadNumber) = some b) (hx_BadNumber : ∀ C, tab_BadNumber C = some true → ExcC K C) (hb_BadNumber : ∀ C, tab_BadNumber C = some true → TbOk K (.ref C) (tb C)) (ht_BadTable : ∀ C b, tab_BadTable C = some b → PySem.W.exmOne K (.ref C) (.ref C_BadTable) = some b) (hx_BadTable : ∀ C, tab_BadTable C = some true → ExcC K C) (hb_BadTable : ∀ C, tab_BadTable C = some true → TbOk K (.ref C) (tb C)) {f : Addr} {cdv : Value} {A : Around} {outer : List PySem.Env} {s : Shared} {H : Hp} {E : XK} (hr : Room 5 (A.deeper (envOfC "_law_refusal" (defScope s__law_refusal) s.heap.objs.size f cdv))) :
    SSs (cxOf (L2.CX P w) P w K mg base N__law_refusal "_law_refusal" (defScope s__law_refusal) f cdv A outer s H E) (fun cls d _ H' => E cls d H') (defBody s__law_refusal) (b__law_refusal sp_greatest_pairing sp_pairing_cover C_BadCount C_BadNumber C_BadTable C_ReelError tab_BadCount tab_BadNumber tab_BadTable tb) := by
  unfold b__law_refusal
  exact (ss_cons (ss_try rfl rfl sc__law_refusal.nd (takes_of rfl rfl rfl rfl) (fun _ _ _ tk po => (ss_one (ss_if (st_cmp (op_eqD (hu64 hr)) opb_eq (sg_var (pv 0)) (sg_of sf_int) (nomark _)) (ss_one (ss_expr (so_cal c_greatest_pairing hr (by decide) tk rfl (sa_cons (sg_of (sf_var (pv 1))) (sa_cons (sg_of (sf_var (pv 2))) sa_nil))))) (ss_one (ss_expr (so_cal c_pairing_cover hr (by decide) tk rfl (sa_cons (sg_of (sf_var (pv 1))) (sa_cons (sg_of (sf_var (pv 2))) sa_nil))))))))
    (hds_cons (tab := tab_BadCount) (i := 3) (fun a cls d => (pSeq (pAsg 4 (pCB (gIsX tb a cls d) (pCons (pIn (pVar 3)) (pCons (pIn (pFr (pDisp (fun ds => .fz (.tup ds)) (pCons (pIn (pC (.ref C_BadNumber))) (pCons (pIn (pC (.ref C_BadTable))) pNil))))) pNil))))
    (pRet (pDisp (fun ds => .ow false ds) (pCons (pIn (pC (.str "BadCount"))) (pCons (pIn (pXf a cls d C_BadCount "what" (pVar 3))) (pCons (pIn (pXf a cls d C_BadCount "many" (pVar 3))) (pCons (pIn (pVar 4)) (pCons (pIn (pFr (pCB (gIsX tb a cls d) (pCons (pIn (pVar 3)) (pCons (pIn (pC (.ref C_ReelError))) pNil))))) pNil))))))))) ⟨rfl, by decide, .inl T.m_BadCount⟩ rfl rfl ht_BadCount (fun a oe Cc d pn hC hz hf => (ss_cons (ss_asg (i := 4) (so_callB (call_isX (X := cxOf (L2.CX P w) P w K mg base N__law_refusal "_law_refusal" (defScope s__law_refusal) f cdv A outer s H E) (a := a) (oe := oe) (pn := pn) (hx_BadCount Cc hC) rfl hz hf) (co_isX (hb_BadCount Cc hC)) rfl T.z_isinstance boot_isinstance (sa_cons (sg_of (sf_var (pv 3))) (sa_cons (sg_of (sf_of (so_tup (sa_cons (sg_of (sf_glR rfl T.m_BadNumber)) (sa_cons (sg_of (sf_glR rfl T.m_BadTable)) sa_nil))))) sa_nil))) sc__law_refusal.nd rfl (by first | exact Or.inl rfl | exact Or.inr rfl))
    (ss_one (ss_ret (so_lst (sa_cons (sg_of sf_str) (sa_cons (sg_of (sf_xf (X := cxOf (L2.CX P w) P w K mg base N__law_refusal "_law_refusal" (defScope s__law_refusal) f cdv A outer s H E) (a := a) (oe := oe) (pn := pn) T.x_BadCount T.a_BadCount_what hz hf (sf_var (pv 3)))) (sa_cons (sg_of (sf_xf (X := cxOf (L2.CX P w) P w K mg base N__law_refusal "_law_refusal" (defScope s__law_refusal) f cdv A outer s H E) (a := a) (oe := oe) (pn := pn) T.x_BadCount T.a_BadCount_many hz hf (sf_var (pv 3)))) (sa_cons (sg_of (sf_var (pv 4))) (sa_cons (sg_of (sf_of (so_callB (call_isX (X := cxOf (L2.CX P w) P w K mg base N__law_refusal "_law_refusal" (defScope s__law_refusal) f cdv A outer s H E) (a := a) (oe := oe) (pn := pn) (hx_BadCount Cc hC) rfl hz hf) (co_isX (hb_BadCount Cc hC)) rfl T.z_isinstance boot_isinstance (sa_cons (sg_of (sf_var (pv 3))) (sa_cons (sg_of (sf_glR rfl T.m_ReelError)) sa_nil))))) sa_nil))))))))))
    (hds_cons (tab := tab_BadNumber) (i := 5) (fun a cls d => (pSeq (pAsg 4 (pCB (gIsX tb a cls d) (pCons (pIn (pVar 5)) (pCons (pIn (pFr (pDisp (fun ds => .fz (.tup ds)) (pCons (pIn (pC (.ref C_BadCount))) (pCons (pIn (pC (.ref C_BadTable))) pNil))))) pNil))))
    (pRet (pDisp (fun ds => .ow false ds) (pCons (pIn (pC (.str "BadNumber"))) (pCons (pIn (pXf a cls d C_BadNumber "what" (pVar 5))) (pCons (pIn (pXf a cls d C_BadNumber "number" (pVar 5))) (pCons (pIn (pVar 4)) (pCons (pIn (pFr (pCB (gIsX tb a cls d) (pCons (pIn (pVar 5)) (pCons (pIn (pC (.ref C_ReelError))) pNil))))) pNil))))))))) ⟨rfl, by decide, .inl T.m_BadNumber⟩ rfl rfl ht_BadNumber (fun a oe Cc d pn hC hz hf => (ss_cons (ss_asg (i := 4) (so_callB (call_isX (X := cxOf (L2.CX P w) P w K mg base N__law_refusal "_law_refusal" (defScope s__law_refusal) f cdv A outer s H E) (a := a) (oe := oe) (pn := pn) (hx_BadNumber Cc hC) rfl hz hf) (co_isX (hb_BadNumber Cc hC)) rfl T.z_isinstance boot_isinstance (sa_cons (sg_of (sf_var (pv 5))) (sa_cons (sg_of (sf_of (so_tup (sa_cons (sg_of (sf_glR rfl T.m_BadCount)) (sa_cons (sg_of (sf_glR rfl T.m_BadTable)) sa_nil))))) sa_nil))) sc__law_refusal.nd rfl (by first | exact Or.inl rfl | exact Or.inr rfl))
    (ss_one (ss_ret (so_lst (sa_cons (sg_of sf_str) (sa_cons (sg_of (sf_xf (X := cxOf (L2.CX P w) P w K mg base N__law_refusal "_law_refusal" (defScope s__law_refusal) f cdv A outer s H E) (a := a) (oe := oe) (pn := pn) T.x_BadNumber T.a_BadNumber_what hz hf (sf_var (pv 5)))) (sa_cons (sg_of (sf_xf (X := cxOf (L2.CX P w) P w K mg base N__law_refusal "_law_refusal" (defScope s__law_refusal) f cdv A outer s H E) (a := a) (oe := oe) (pn := pn) T.x_BadNumber T.a_BadNumber_number hz hf (sf_var (pv 5)))) (sa_cons (sg_of (sf_var (pv 4))) (sa_cons (sg_of (sf_of (so_callB (call_isX (X := cxOf (L2.CX P w) P w K mg base N__law_refusal "_law_refusal" (defScope s__law_refusal) f cdv A outer s H E) (a := a) (oe := oe) (pn := pn) (hx_BadNumber Cc hC) rfl hz hf) (co_isX (hb_BadNumber Cc hC)) rfl T.z_isinstance boot_isinstance (sa_cons (sg_of (sf_var (pv 5))) (sa_cons (sg_of (sf_glR rfl T.m_ReelError)) sa_nil))))) sa_nil))))))))))
    (hds_cons (tab := tab_BadTable) (i := 6) (fun a cls d => (pSeq (pAsg 4 (pFz (pOrV (pFr (pCB (gIsX tb a cls d) (pCons (pIn (pVar 6)) (pCons (pIn (pFr (pDisp (fun ds => .fz (.tup ds)) (pCons (pIn (pC (.ref C_BadCount))) (pCons (pIn (pC (.ref C_BadNumber))) pNil))))) pNil)))) (pNotV (pFr (pCB (gIsX tb a cls d) (pCons (pIn (pVar 6)) (pCons (pIn (pC (.ty "ValueError"))) pNil))))))))
    (pRet (pDisp (fun ds => .ow false ds) (pCons (pIn (pC (.str "BadTable"))) (pCons (pIn (pC (.str ""))) (pCons (pIn (pXf a cls d C_BadTable "at" (pVar 6))) (pCons (pIn (pVar 4)) (pCons (pIn (pFr (pCB (gIsX tb a cls d) (pCons (pIn (pVar 6)) (pCons (pIn (pC (.ref C_ReelError))) pNil))))) pNil))))))))) ⟨rfl, by decide, .inl T.m_BadTable⟩ rfl rfl ht_BadTable (fun a oe Cc d pn hC hz hf => (ss_cons (ss_asg (i := 4) (so_of (sf_or (sf_of (so_callB (call_isX (X := cxOf (L2.CX P w) P w K mg base N__law_refusal "_law_refusal" (defScope s__law_refusal) f cdv A outer s H E) (a := a) (oe := oe) (pn := pn) (hx_BadTable Cc hC) rfl hz hf) (co_isX (hb_BadTable Cc hC)) rfl T.z_isinstance boot_isinstance (sa_cons (sg_of (sf_var (pv 6))) (sa_cons (sg_of (sf_of (so_tup (sa_cons (sg_of (sf_glR rfl T.m_BadCount)) (sa_cons (sg_of (sf_glR rfl T.m_BadNumber)) sa_nil))))) sa_nil)))) (sf_one (sf_not (sf_of (so_callB (call_isX (X := cxOf (L2.CX P w) P w K mg base N__law_refusal "_law_refusal" (defScope s__law_refusal) f cdv A outer s H E) (a := a) (oe := oe) (pn := pn) (hx_BadTable Cc hC) rfl hz hf) (co_isX (hb_BadTable Cc hC)) rfl T.z_isinstance boot_isinstance (sa_cons (sg_of (sf_var (pv 6))) (sa_cons (sg_of (sf_ty rfl T.z_ValueError PyProof.Rows.Boot.«ValueError»)) sa_nil)))))))) sc__law_refusal.nd rfl (by first | exact Or.inl rfl | exact Or.inr rfl))
    (ss_one (ss_ret (so_lst (sa_cons (sg_of sf_str) (sa_cons (sg_of sf_str) (sa_cons (sg_of (sf_xf (X := cxOf (L2.CX P w) P w K mg base N__law_refusal "_law_refusal" (defScope s__law_refusal) f cdv A outer s H E) (a := a) (oe := oe) (pn := pn) T.x_BadTable T.a_BadTable_at hz hf (sf_var (pv 6)))) (sa_cons (sg_of (sf_var (pv 4))) (sa_cons (sg_of (sf_of (so_callB (call_isX (X := cxOf (L2.CX P w) P w K mg base N__law_refusal "_law_refusal" (defScope s__law_refusal) f cdv A outer s H E) (a := a) (oe := oe) (pn := pn) (hx_BadTable Cc hC) rfl hz hf) (co_isX (hb_BadTable Cc hC)) rfl T.z_isinstance boot_isinstance (sa_cons (sg_of (sf_var (pv 6))) (sa_cons (sg_of (sf_glR rfl T.m_ReelError)) sa_nil))))) sa_nil))))))))))
    .nil))))
    (ss_one (ss_ret (so_lst (sa_cons (sg_of sf_str) (sa_cons (sg_of sf_str) (sa_cons (sg_of sf_int) (sa_cons (sg_of sf_bl) (sa_cons (sg_of sf_bl) sa_nil)))))))))
abbrev s__law_refuses : Stmt := top 27
abbrev N__law_refuses : List Str := ["rows", "columns", "kind", "what", "number", "which", "given", "row", "told"]
theorem sc__law_refuses : FnScope N__law_refuses [("rows" : Str), ("columns" : Str), ("kind" : Str), ("what" : Str), ("number" : Str)] (defScope s__law_refuses) := ⟨rfl, rfl, rfl, by decide +kernel, rfl, by decide +kernel, by decide +kernel⟩
def b__law_refuses (sp__law_is_int sp__law_refusal : PSp) : PSt := (pSeq (pFor (pRng1 (pCons (pIn (pC (.int 2))) pNil)) (gtN 5) (pSeq (pAsg 6 (pLc [7] (pSeqSrc (pVar 0)) (gtN 7) pYes (pFr (pCB gList (pCons (pArg 7) pNil)))))
    (pSeq (pAsg 8 (pCall sp__law_refusal [] (pCons (pIn (pVar 5)) (pCons (pIn (pVar 6)) (pCons (pIn (pVar 1)) pNil)))))
    (pSeq (pIf (pOr (pB (fEq true) (pArg 8) (pIn (pFr (pDisp (fun ds => .ow false ds) (pCons (pIn (pVar 2)) (pCons (pIn (pVar 3)) (pCons (pIn (pVar 4)) (pCons (pIn (pC (.bl false))) (pCons (pIn (pC (.bl true))) pNil))))))))) (pB (fEq true) (pArg 6) (pArg 0))) (pRet (pFz (pC (.bl false)))) pNext)
    (pIf (pNot (pVal (pFr (pCall sp__law_is_int [] (pCons (pIn (pFr (p2 fIx (pArg 8) (pIn (pC (.int 2)))))) pNil))))) (pRet (pFz (pC (.bl false)))) pNext)))))
    (pRet (pFz (pC (.bl true)))))
theorem d__law_refuses {P : Program} {w : World} {K : PySem.W.Frag} {mg : Str → Option Value} {base : Heap} {C_BadCount C_BadNumber C_BadTable C_ReelError : Addr} (T : Txt K mg C_BadCount C_BadNumber C_BadTable C_ReelError) {sp__law_is_int sp__law_refusal : PSp} (c__law_is_int : CalD P w K mg base 1 "_law_is_int" sp__law_is_int) (c__law_refusal : CalD P w K mg base 6 "_law_refusal" sp__law_refusal) {f : Addr} {cdv : Value} {A : Around} {outer : List PySem.Env} {s : Shared} {H : Hp} {E : XK} (hr : Room 6 (A.deeper (envOfC "_law_refuses" (defScope s__law_refuses) s.heap.objs.size f cdv))) :
    SSs (cxOf (L2.CX P w) P w K mg base N__law_refuses "_law_refuses" (defScope s__law_refuses) f cdv A outer s H E) (fun cls d _ H' => E cls d H') (defBody s__law_refuses) (b__law_refuses sp__law_is_int sp__law_refusal) := by
  unfold b__law_refuses
  exact (ss_cons (ss_for (passes_of rfl) rfl (ssr_range1 rfl T.z_range (sa_cons (sg_of sf_int) sa_nil)) (sgt_name (i := 5) sc__law_refuses.nd rfl (by first | exact Or.inl rfl | exact Or.inr rfl)) (ss_cons (by first | exact ss_asgLc (i := 6) (own := [(("row" : Str), 7)]) rfl sc__law_refuses.nd rfl rfl (sw_true rfl rfl rfl (by decide +kernel)) (ssr_seq (sf_var (pv 0))) (blkOk_by (N := N__law_refuses) (sc := defScope s__law_refuses) (own := [(("row" : Str), 7)]) (by decide +kernel)) ⟨fun _ _ _ _ _ => (sgt_name (i := 7) sc__law_refuses.nd rfl (by first | exact Or.inl rfl | exact Or.inr rfl)), fun _ _ _ _ _ => scs_nil, fun _ _ _ _ _ => (sf_of (so_callTy call_list_of co_list rfl T.z_list PySem.Pv.boot_list (sa_cons (sg_var (pv 7)) sa_nil))), by decide⟩ | exact ss_asg (i := 6) (so_lc (own := [(("row" : Str), 7)]) rfl sc__law_refuses.nd (ssr_seq (sf_var (pv 0))) (blkOk_by (N := N__law_refuses) (sc := defScope s__law_refuses) (own := [(("row" : Str), 7)]) (by decide +kernel)) ⟨fun _ _ _ _ _ => (sgt_name (i := 7) sc__law_refuses.nd rfl (by first | exact Or.inl rfl | exact Or.inr rfl)), fun _ _ _ _ _ => scs_nil, fun _ _ _ _ _ => (sf_of (so_callTy call_list_of co_list rfl T.z_list PySem.Pv.boot_list (sa_cons (sg_var (pv 7)) sa_nil))), by decide⟩) sc__law_refuses.nd rfl (by first | exact Or.inl rfl | exact Or.inr rfl))
    (ss_cons (ss_asg (i := 8) (so_cal c__law_refusal hr (by decide) (takes_of rfl rfl rfl rfl) rfl (sa_cons (sg_of (sf_var (pv 5))) (sa_cons (sg_of (sf_var (pv 6))) (sa_cons (sg_of (sf_var (pv 1))) sa_nil)))) sc__law_refuses.nd rfl (by first | exact Or.inl rfl | exact Or.inr rfl))
    (ss_cons (ss_if (st_w (sw_or (st_cmp (op_neD (hu64 hr)) opb_ne (sg_var (pv 8)) (sg_of (sf_of (so_lst (sa_cons (sg_of (sf_var (pv 2))) (sa_cons (sg_of (sf_var (pv 3))) (sa_cons (sg_of (sf_var (pv 4))) (sa_cons (sg_of sf_bl) (sa_cons (sg_of sf_bl) sa_nil)))))))) (nomark _)) (sw_or1 (st_cmp (op_neD (hu64 hr)) opb_ne (sg_var (pv 6)) (sg_var (pv 0)) (nomark _))))) (ss_one (ss_ret (so_of sf_bl))) ss_nil)
    (ss_one (ss_if (st_not (st_val (sf_of (so_cal c__law_is_int hr (by decide) (takes_of rfl rfl rfl rfl) rfl (sa_cons (sg_of (sf_of (so_ix ix_seq opo_ix (sg_var (pv 8)) (sg_of sf_int) fun _ _ => rfl))) sa_nil))))) (ss_one (ss_ret (so_of sf_bl))) ss_nil))))))
    (ss_one (ss_ret (so_of sf_bl))))
abbrev s__law_wrong_rows : Stmt := top 28
abbrev N__law_wrong_rows : List Str := ["pool", "good", "place", "row", "wrong", "turn", "rows"]
theorem sc__law_wrong_rows : FnScope N__law_wrong_rows [("pool" : Str)] (defScope s__law_wrong_rows) := ⟨rfl, rfl, rfl, by decide +kernel, rfl, by decide +kernel, by decide +kernel⟩
def b__law_wrong_rows (sp__law_draw sp__law_meets sp__law_refuses : PSp) : PSt := (pSeq (pAsg 1 (pDisp (fun ds => .ow false ds) (pCons (pIn (pFr (pDisp (fun ds => .ow false ds) (pCons (pIn (pC (.int 1))) (pCons (pIn (pC (.int 3))) pNil))))) (pCons (pIn (pFr (pDisp (fun ds => .ow false ds) (pCons (pIn (pC (.int 0))) (pCons (pIn (pC (.int 2))) (pCons (pIn (pC (.int 4))) pNil)))))) (pCons (pIn (pFr (pDisp (fun ds => .ow false ds) pNil))) (pCons (pIn (pFr (pDisp (fun ds => .ow false ds) (pCons (pIn (pC (.int 0))) (pCons (pIn (pC (.int 1))) (pCons (pIn (pC (.int 2))) (pCons (pIn (pC (.int 3))) (pCons (pIn (pC (.int 4))) pNil)))))))) pNil))))))
    (pSeq (pAsg 2 (pCall sp__law_draw [] (pCons (pArg 0) (pCons (pIn (pC (.int 4))) pNil))))
    (pSeq (pIf (pNot (pVal (pFr (pCall sp__law_meets [] (pCons (pIn (pFr (pLc [3] (pSeqSrc (pVar 1)) (gtN 3) pYes (pFr (pCB gList (pCons (pArg 3) pNil)))))) (pCons (pIn (pVar 1)) (pCons (pIn (pC (.int 5))) pNil))))))) (pRet (pFz (pC (.bl false)))) pNext)
    (pSeq (pAsg 4 (pDisp (fun ds => .ow false ds) (pCons (pIn (pFr (pDisp (fun ds => .ow false ds) (pCons (pIn (pC (.int 1))) (pCons (pIn (pC (.int 1))) (pCons (pIn (pC (.int 3))) pNil)))))) (pCons (pIn (pFr (pDisp (fun ds => .ow false ds) (pCons (pIn (pC (.int 0))) (pCons (pIn (pC (.int 3))) (pCons (pIn (pC (.int 2))) pNil)))))) (pCons (pIn (pFr (pDisp (fun ds => .ow false ds) (pCons (pIn (pC (.int 2))) (pCons (pIn (pC (.int 4))) (pCons (pIn (pC (.int 5))) pNil)))))) (pCons (pIn (pFr (pDisp (fun ds => .ow false ds) (pCons (pIn (pNeg (pC (.int 1)))) (pCons (pIn (pC (.int 0))) (pCons (pIn (pC (.int 4))) pNil)))))) (pCons (pIn (pFr (pDisp (fun ds => .ow false ds) (pCons (pIn (pC (.int 4))) (pCons (pIn (pC (.int 0))) pNil))))) (pCons (pIn (pFr (pDisp (fun ds => .ow false ds) (pCons (pIn (pC (.int 0))) (pCons (pIn (pC (.int 2))) (pCons (pIn (pFr (p2 fPow (pIn (pC (.int 10))) (pIn (pC (.int 12)))))) pNil)))))) (pCons (pIn (pFr (pDisp (fun ds => .ow false ds) (pCons (pIn (pC (.int 0))) (pCons (pIn (pC (.int 3))) (pCons (pIn (pC (.int 4))) (pCons (pIn (pC (.int 4))) pNil))))))) pNil)))))))))
    (pSeq (pFor (pRng1 (pCons (pIn (pFr (pCB gLen (pCons (pArg 4) pNil)))) pNil)) (gtN 5) (pSeq (pAsg 6 (pLc [3] (pSeqSrc (pVar 1)) (gtN 3) pYes (pFr (pCB gList (pCons (pArg 3) pNil)))))
    (pSeq (pIf (pB (fEq false) (pIn (pFr (p2 fMod (pIn (pFr (pCB gInt (pCons (pIn (pFr (p2 fAdd (pArg 5) (pArg 2)))) pNil)))) (pIn (pC (.int 2)))))) (pIn (pC (.int 1)))) (pSetIx 6 (pIn (pC (.int 3))) (pFr (pDisp (fun ds => .ow false ds) (pCons (pIn (pC (.int 2))) (pCons (pIn (pC (.int 2))) pNil))))) pNext)
    (pSeq (pSetIx 6 (pArg 2) (pFr (pCB gList (pCons (pIn (pFr (p2 fIx (pArg 4) (pArg 5)))) pNil))))
    (pIf (pNot (pVal (pFr (pCall sp__law_refuses [] (pCons (pIn (pVar 6)) (pCons (pIn (pC (.int 5))) (pCons (pIn (pC (.str "BadTable"))) (pCons (pIn (pC (.str ""))) (pCons (pIn (pVar 2)) pNil))))))))) (pRet (pFz (pC (.bl false)))) pNext)))))
    (pRet (pFz (pC (.bl true)))))))))
theorem d__law_wrong_rows {P : Program} {w : World} {K : PySem.W.Frag} {mg : Str → Option Value} {base : Heap} {C_BadCount C_BadNumber C_BadTable C_ReelError : Addr} (T : Txt K mg C_BadCount C_BadNumber C_BadTable C_ReelError) {sp__law_draw sp__law_meets sp__law_refuses : PSp} (c__law_draw : CalD P w K mg base 1 "_law_draw" sp__law_draw) (c__law_meets : CalD P w K mg base 6 "_law_meets" sp__law_meets) (c__law_refuses : CalD P w K mg base 7 "_law_refuses" sp__law_refuses) {f : Addr} {cdv : Value} {A : Around} {outer : List PySem.Env} {s : Shared} {H : Hp} {E : XK} (hr : Room 7 (A.deeper (envOfC "_law_wrong_rows" (defScope s__law_wrong_rows) s.heap.objs.size f cdv))) :
    SSs (cxOf (L2.CX P w) P w K mg base N__law_wrong_rows "_law_wrong_rows" (defScope s__law_wrong_rows) f cdv A outer s H E) (fun cls d _ H' => E cls d H') (defBody s__law_wrong_rows) (b__law_wrong_rows sp__law_draw sp__law_meets sp__law_refuses) := by
  unfold b__law_wrong_rows
  exact (ss_cons (ss_asg (i := 1) (so_lst (sa_cons (sg_of (sf_of (so_lst (sa_cons (sg_of sf_int) (sa_cons (sg_of sf_int) sa_nil))))) (sa_cons (sg_of (sf_of (so_lst (sa_cons (sg_of sf_int) (sa_cons (sg_of sf_int) (sa_cons (sg_of sf_int) sa_nil)))))) (sa_cons (sg_of (sf_of (so_lst sa_nil))) (sa_cons (sg_of (sf_of (so_lst (sa_cons (sg_of sf_int) (sa_cons (sg_of sf_int) (sa_cons (sg_of sf_int) (sa_cons (sg_of sf_int) (sa_cons (sg_of sf_int) sa_nil)))))))) sa_nil))))) sc__law_wrong_rows.nd rfl (by first | exact Or.inl rfl | exact Or.inr rfl))
    (ss_cons (ss_asg (i := 2) (so_cal c__law_draw hr (by decide) (takes_of rfl rfl rfl rfl) rfl (sa_cons (sg_var (pv 0)) (sa_cons (sg_of sf_int) sa_nil))) sc__law_wrong_rows.nd rfl (by first | exact Or.inl rfl | exact Or.inr rfl))
    (ss_cons (ss_if (st_not (st_val (sf_of (so_cal c__law_meets hr (by decide) (takes_of rfl rfl rfl rfl) rfl (sa_cons (sg_of (sf_of (so_lc (own := [(("row" : Str), 3)]) rfl sc__law_wrong_rows.nd (ssr_seq (sf_var (pv 1))) (blkOk_by (N := N__law_wrong_rows) (sc := defScope s__law_wrong_rows) (own := [(("row" : Str), 3)]) (by decide +kernel)) ⟨fun _ _ _ _ _ => (sgt_name (i := 3) sc__law_wrong_rows.nd rfl (by first | exact Or.inl rfl | exact Or.inr rfl)), fun _ _ _ _ _ => scs_nil, fun _ _ _ _ _ => (sf_of (so_callTy call_list_of co_list rfl T.z_list PySem.Pv.boot_list (sa_cons (sg_var (pv 3)) sa_nil))), by decide⟩))) (sa_cons (sg_of (sf_var (pv 1))) (sa_cons (sg_of sf_int) sa_nil))))))) (ss_one (ss_ret (so_of sf_bl))) ss_nil)
    (ss_cons (ss_asg (i := 4) (so_lst (sa_cons (sg_of (sf_of (so_lst (sa_cons (sg_of sf_int) (sa_cons (sg_of sf_int) (sa_cons (sg_of sf_int) sa_nil)))))) (sa_cons (sg_of (sf_of (so_lst (sa_cons (sg_of sf_int) (sa_cons (sg_of sf_int) (sa_cons (sg_of sf_int) sa_nil)))))) (sa_cons (sg_of (sf_of (so_lst (sa_cons (sg_of sf_int) (sa_cons (sg_of sf_int) (sa_cons (sg_of sf_int) sa_nil)))))) (sa_cons (sg_of (sf_of (so_lst (sa_cons (sg_of (sf_neg sf_int)) (sa_cons (sg_of sf_int) (sa_cons (sg_of sf_int) sa_nil)))))) (sa_cons (sg_of (sf_of (so_lst (sa_cons (sg_of sf_int) (sa_cons (sg_of sf_int) sa_nil))))) (sa_cons (sg_of (sf_of (so_lst (sa_cons (sg_of sf_int) (sa_cons (sg_of sf_int) (sa_cons (sg_of (sf_of (so_bin op_pow opo_I (sg_of sf_int) (sg_of sf_int)))) sa_nil)))))) (sa_cons (sg_of (sf_of (so_lst (sa_cons (sg_of sf_int) (sa_cons (sg_of sf_int) (sa_cons (sg_of sf_int) (sa_cons (sg_of sf_int) sa_nil))))))) sa_nil)))))))) sc__law_wrong_rows.nd rfl (by first | exact Or.inl rfl | exact Or.inr rfl))
    (ss_cons (ss_for (passes_of rfl) rfl (ssr_range1 rfl T.z_range (sa_cons (sg_of (sf_of (so_callB call_lenA co_len rfl T.z_len boot_len (sa_cons (sg_var (pv 4)) sa_nil)))) sa_nil)) (sgt_name (i := 5) sc__law_wrong_rows.nd rfl (by first | exact Or.inl rfl | exact Or.inr rfl)) (ss_cons (by first | exact ss_asgLc (i := 6) (own := [(("row" : Str), 3)]) rfl sc__law_wrong_rows.nd rfl rfl (sw_true rfl rfl rfl (by decide +kernel)) (ssr_seq (sf_var (pv 1))) (blkOk_by (N := N__law_wrong_rows) (sc := defScope s__law_wrong_rows) (own := [(("row" : Str), 3)]) (by decide +kernel)) ⟨fun _ _ _ _ _ => (sgt_name (i := 3) sc__law_wrong_rows.nd rfl (by first | exact Or.inl rfl | exact Or.inr rfl)), fun _ _ _ _ _ => scs_nil, fun _ _ _ _ _ => (sf_of (so_callTy call_list_of co_list rfl T.z_list PySem.Pv.boot_list (sa_cons (sg_var (pv 3)) sa_nil))), by decide⟩ | exact ss_asg (i := 6) (so_lc (own := [(("row" : Str), 3)]) rfl sc__law_wrong_rows.nd (ssr_seq (sf_var (pv 1))) (blkOk_by (N := N__law_wrong_rows) (sc := defScope s__law_wrong_rows) (own := [(("row" : Str), 3)]) (by decide +kernel)) ⟨fun _ _ _ _ _ => (sgt_name (i := 3) sc__law_wrong_rows.nd rfl (by first | exact Or.inl rfl | exact Or.inr rfl)), fun _ _ _ _ _ => scs_nil, fun _ _ _ _ _ => (sf_of (so_callTy call_list_of co_list rfl T.z_list PySem.Pv.boot_list (sa_cons (sg_var (pv 3)) sa_nil))), by decide⟩) sc__law_wrong_rows.nd rfl (by first | exact Or.inl rfl | exact Or.inr rfl))
    (ss_cons (ss_if (st_cmp (op_eqD (hu64 hr)) opb_eq (sg_of (sf_of (so_bin op_mod opo_I (sg_of (sf_of (so_callTy call_int1 co_int rfl T.z_int PySem.Pv.boot_int (sa_cons (sg_of (sf_of (so_bin op_addA opo_add (sg_var (pv 5)) (sg_var (pv 2))))) sa_nil)))) (sg_of sf_int)))) (sg_of sf_int) (nomark _)) (ss_one (ss_setIx (sf_of (so_lst (sa_cons (sg_of sf_int) (sa_cons (sg_of sf_int) sa_nil)))) (pv 6) (sg_of sf_int))) ss_nil)
    (ss_cons (ss_setIx (sf_of (so_callTy call_list_of co_list rfl T.z_list PySem.Pv.boot_list (sa_cons (sg_of (sf_of (so_ix ix_seq opo_ix (sg_var (pv 4)) (sg_var (pv 5)) fun _ _ => rfl))) sa_nil))) (pv 6) (sg_var (pv 2)))
    (ss_one (ss_if (st_not (st_val (sf_of (so_cal c__law_refuses hr (by decide) (takes_of rfl rfl rfl rfl) rfl (sa_cons (sg_of (sf_var (pv 6))) (sa_cons (sg_of sf_int) (sa_cons (sg_of sf_str) (sa_cons (sg_of sf_str) (sa_cons (sg_of (sf_var (pv 2))) sa_nil))))))))) (ss_one (ss_ret (so_of sf_bl))) ss_nil))))))
    (ss_one (ss_ret (so_of sf_bl))))))))
abbrev s__law_out_of_range : Stmt := top 29
abbrev N__law_out_of_range : List Str := ["pool", "above", "below", "crowd", "spot", "columns", "rows"]
theorem sc__law_out_of_range : FnScope N__law_out_of_range [("pool" : Str)] (defScope s__law_out_of_range) := ⟨rfl, rfl, rfl, by decide +kernel, rfl, by decide +kernel, by decide +kernel⟩
def b__law_out_of_range (sp__law_draw sp__law_refuses : PSp) : PSt := (pSeq (pAsg 1 (p2 fAdd (pIn (pC (.int 129))) (pIn (pFr (pCall sp__law_draw [] (pCons (pArg 0) (pCons (pIn (pFr (p2 fSub (pIn (pFr (p2 fPow (pIn (pC (.int 10))) (pIn (pC (.int 12)))))) (pIn (pC (.int 129)))))) pNil)))))))
    (pSeq (pAsg 2 (p2 fSub (pIn (pNeg (pC (.int 1)))) (pIn (pFr (pCall sp__law_draw [] (pCons (pArg 0) (pCons (pIn (pFr (p2 fPow (pIn (pC (.int 10))) (pIn (pC (.int 12)))))) pNil)))))))
    (pSeq (pAsg 3 (pLc [4] (pRng1 (pCons (pIn (pFr (p2 fAdd (pIn (pC (.int 129))) (pIn (pFr (pCall sp__law_draw [] (pCons (pArg 0) (pCons (pIn (pC (.int 9))) pNil)))))))) pNil)) (gtN 4) pYes (pFr (pDisp (fun ds => .ow false ds) (pCons (pIn (pC (.int 7))) pNil)))))
    (pSeq (pFor (pSeqSrc (pFr (pDisp (fun ds => .ow false ds) (pCons (pIn (pC (.int 9))) (pCons (pIn (pVar 1)) (pCons (pIn (pVar 2)) pNil)))))) (gtN 5) (pIf (pNot (pVal (pFr (pCall sp__law_refuses [] (pCons (pIn (pVar 3)) (pCons (pIn (pVar 5)) (pCons (pIn (pC (.str "BadCount"))) (pCons (pIn (pC (.str "rows"))) (pCons (pIn (pFr (pCB gLen (pCons (pArg 3) pNil)))) pNil))))))))) (pRet (pFz (pC (.bl false)))) pNext))
    (pSeq (pFor (pSeqSrc (pFr (pDisp (fun ds => .ow false ds) (pCons (pIn (pVar 1)) (pCons (pIn (pVar 2)) pNil))))) (gtN 5) (pFor (pSeqSrc (pFr (pDisp (fun ds => .ow false ds) (pCons (pIn (pFr (pDisp (fun ds => .ow false ds) pNil))) (pCons (pIn (pFr (pDisp (fun ds => .ow false ds) (pCons (pIn (pFr (pDisp (fun ds => .ow false ds) (pCons (pIn (pC (.int 7))) pNil)))) pNil)))) (pCons (pIn (pFr (pDisp (fun ds => .ow false ds) (pCons (pIn (pFr (pDisp (fun ds => .ow false ds) pNil))) (pCons (pIn (pFr (pDisp (fun ds => .ow false ds) (pCons (pIn (pC (.int 2))) (pCons (pIn (pC (.int 1))) pNil))))) pNil))))) pNil)))))) (gtN 6) (pIf (pNot (pVal (pFr (pCall sp__law_refuses [] (pCons (pIn (pVar 6)) (pCons (pIn (pVar 5)) (pCons (pIn (pC (.str "BadNumber"))) (pCons (pIn (pC (.str "columns"))) (pCons (pIn (pVar 5)) pNil))))))))) (pRet (pFz (pC (.bl false)))) pNext)))
    (pRet (pFz (pC (.bl true)))))))))
theorem d__law_out_of_range {P : Program} {w : World} {K : PySem.W.Frag} {mg : Str → Option Value} {base : Heap} {C_BadCount C_BadNumber C_BadTable C_ReelError : Addr} (T : Txt K mg C_BadCount C_BadNumber C_BadTable C_ReelError) {sp__law_draw sp__law_refuses : PSp} (c__law_draw : CalD P w K mg base 1 "_law_draw" sp__law_draw) (c__law_refuses : CalD P w K mg base 7 "_law_refuses" sp__law_refuses) {f : Addr} {cdv : Value} {A : Around} {outer : List PySem.Env} {s : Shared} {H : Hp} {E : XK} (hr : Room 7 (A.deeper (envOfC "_law_out_of_range" (defScope s__law_out_of_range) s.heap.objs.size f cdv))) :
    SSs (cxOf (L2.CX P w) P w K mg base N__law_out_of_range "_law_out_of_range" (defScope s__law_out_of_range) f cdv A outer s H E) (fun cls d _ H' => E cls d H') (defBody s__law_out_of_range) (b__law_out_of_range sp__law_draw sp__law_refuses) := by
  unfold b__law_out_of_range
  exact (ss_cons (ss_asg (i := 1) (so_bin op_addA opo_add (sg_of sf_int) (sg_of (sf_of (so_cal c__law_draw hr (by decide) (takes_of rfl rfl rfl rfl) rfl (sa_cons (sg_var (pv 0)) (sa_cons (sg_of (sf_of (so_bin op_sub opo_I0 (sg_of (sf_of (so_bin op_pow opo_I (sg_of sf_int) (sg_of sf_int)))) (sg_of sf_int)))) sa_nil)))))) sc__law_out_of_range.nd rfl (by first | exact Or.inl rfl | exact Or.inr rfl))
    (ss_cons (ss_asg (i := 2) (so_bin op_sub opo_I0 (sg_of (sf_neg sf_int)) (sg_of (sf_of (so_cal c__law_draw hr (by decide) (takes_of rfl rfl rfl rfl) rfl (sa_cons (sg_var (pv 0)) (sa_cons (sg_of (sf_of (so_bin op_pow opo_I (sg_of sf_int) (sg_of sf_int)))) sa_nil)))))) sc__law_out_of_range.nd rfl (by first | exact Or.inl rfl | exact Or.inr rfl))
    (ss_cons (by first | exact ss_asgLc (i := 3) (own := [(("spot" : Str), 4)]) rfl sc__law_out_of_range.nd rfl rfl (sw_true rfl rfl rfl (by decide +kernel)) (ssr_range1 rfl T.z_range (sa_cons (sg_of (sf_of (so_bin op_addA opo_add (sg_of sf_int) (sg_of (sf_of (so_cal c__law_draw hr (by decide) (takes_of rfl rfl rfl rfl) rfl (sa_cons (sg_var (pv 0)) (sa_cons (sg_of sf_int) sa_nil)))))))) sa_nil)) (blkOk_by (N := N__law_out_of_range) (sc := defScope s__law_out_of_range) (own := [(("spot" : Str), 4)]) (by decide +kernel)) ⟨fun _ _ _ _ _ => (sgt_name (i := 4) sc__law_out_of_range.nd rfl (by first | exact Or.inl rfl | exact Or.inr rfl)), fun _ _ _ _ _ => scs_nil, fun _ _ _ _ _ => (sf_of (so_lst (sa_cons (sg_of sf_int) sa_nil))), by decide⟩ | exact ss_asg (i := 3) (so_lc (own := [(("spot" : Str), 4)]) rfl sc__law_out_of_range.nd (ssr_range1 rfl T.z_range (sa_cons (sg_of (sf_of (so_bin op_addA opo_add (sg_of sf_int) (sg_of (sf_of (so_cal c__law_draw hr (by decide) (takes_of rfl rfl rfl rfl) rfl (sa_cons (sg_var (pv 0)) (sa_cons (sg_of sf_int) sa_nil)))))))) sa_nil)) (blkOk_by (N := N__law_out_of_range) (sc := defScope s__law_out_of_range) (own := [(("spot" : Str), 4)]) (by decide +kernel)) ⟨fun _ _ _ _ _ => (sgt_name (i := 4) sc__law_out_of_range.nd rfl (by first | exact Or.inl rfl | exact Or.inr rfl)), fun _ _ _ _ _ => scs_nil, fun _ _ _ _ _ => (sf_of (so_lst (sa_cons (sg_of sf_int) sa_nil))), by decide⟩) sc__law_out_of_range.nd rfl (by first | exact Or.inl rfl | exact Or.inr rfl))
    (ss_cons (ss_for (passes_of rfl) rfl (ssr_seq (sf_of (so_lst (sa_cons (sg_of sf_int) (sa_cons (sg_of (sf_var (pv 1))) (sa_cons (sg_of (sf_var (pv 2))) sa_nil)))))) (sgt_name (i := 5) sc__law_out_of_range.nd rfl (by first | exact Or.inl rfl | exact Or.inr rfl)) (ss_one (ss_if (st_not (st_val (sf_of (so_cal c__law_refuses hr (by decide) (takes_of rfl rfl rfl rfl) rfl (sa_cons (sg_of (sf_var (pv 3))) (sa_cons (sg_of (sf_var (pv 5))) (sa_cons (sg_of sf_str) (sa_cons (sg_of sf_str) (sa_cons (sg_of (sf_of (so_callB call_lenA co_len rfl T.z_len boot_len (sa_cons (sg_var (pv 3)) sa_nil)))) sa_nil))))))))) (ss_one (ss_ret (so_of sf_bl))) ss_nil)))
    (ss_cons (ss_for (passes_of rfl) rfl (ssr_seq (sf_of (so_lst (sa_cons (sg_of (sf_var (pv 1))) (sa_cons (sg_of (sf_var (pv 2))) sa_nil))))) (sgt_name (i := 5) sc__law_out_of_range.nd rfl (by first | exact Or.inl rfl | exact Or.inr rfl)) (ss_one (ss_for (passes_of rfl) rfl (ssr_seq (sf_of (so_lst (sa_cons (sg_of (sf_of (so_lst sa_nil))) (sa_cons (sg_of (sf_of (so_lst (sa_cons (sg_of (sf_of (so_lst (sa_cons (sg_of sf_int) sa_nil)))) sa_nil)))) (sa_cons (sg_of (sf_of (so_lst (sa_cons (sg_of (sf_of (so_lst sa_nil))) (sa_cons (sg_of (sf_of (so_lst (sa_cons (sg_of sf_int) (sa_cons (sg_of sf_int) sa_nil))))) sa_nil))))) sa_nil)))))) (sgt_name (i := 6) sc__law_out_of_range.nd rfl (by first | exact Or.inl rfl | exact Or.inr rfl)) (ss_one (ss_if (st_not (st_val (sf_of (so_cal c__law_refuses hr (by decide) (takes_of rfl rfl rfl rfl) rfl (sa_cons (sg_of (sf_var (pv 6))) (sa_cons (sg_of (sf_var (pv 5))) (sa_cons (sg_of sf_str) (sa_cons (sg_of sf_str) (sa_cons (sg_of (sf_var (pv 5))) sa_nil))))))))) (ss_one (ss_ret (so_of sf_bl))) ss_nil)))))
    (ss_one (ss_ret (so_of sf_bl))))))))
abbrev s_law : Stmt := top 30
abbrev N_law : List Str := ["script", "cells", "pool", "cell", "table", "rows", "columns", "row", "given", "place", "nothing", "many", "told"]
theorem sc_law : FnScope N_law [("script" : Str)] (defScope s_law) := ⟨rfl, rfl, rfl, by decide +kernel, rfl, by decide +kernel, by decide +kernel⟩
def b_law (sp__law_draw sp__law_long_table sp__law_meets sp__law_out_of_range sp__law_refuses sp__law_size_of_cover sp__law_size_of_pairing sp__law_table sp__law_wrong_rows sp_greatest_pairing sp_pairing_cover : PSp) : PSt := (pSeq (pAsg 1 (pCut (pArg 0) pNoPt (pPt (pC (.int 63)))))
    (pSeq (pAsg 2 (pLc [3] (pSeqSrc (pVar 1)) (gtN 3) pYes (pFr (p2 fMod (pIn (pFr (pCB gInt (pCons (pIn (pFr (pCB gAbs (pCons (pArg 3) pNil)))) pNil)))) (pIn (pFr (p2 fPow (pIn (pC (.int 10))) (pIn (pC (.int 60))))))))))
    (pSeq (pAsg 4 (pCall sp__law_table [] (pCons (pArg 2) pNil)))
    (pSeq (pAsg 5 (pClaim (pFr (p2 fIx (pArg 4) (pIn (pC (.int 0)))))))
    (pSeq (pAsg 6 (p2 fIx (pArg 4) (pIn (pC (.int 1)))))
    (pSeq (pIf (pNot (pVal (pLend (pFr (pCall sp__law_meets [] (pCons (pIn (pFr (pCB gTuple (pCons (pIn (pFr (pLc [7] (pSeqSrc (pVar 5)) (gtN 7) pYes (pFr (pCB gTuple (pCons (pArg 7) pNil)))))) pNil)))) (pCons (pIn (pVar 5)) (pCons (pIn (pVar 6)) pNil)))))))) (pRet (pFz (pC (.bl false)))) pNext)
    (pSeq (pAsg 8 (pLcV [7] 5 id (gtN 7) pYes (pCe (pCB gList (pCons (pArg 7) pNil)))))
    (pSeq (pIf (pNot (pVal (pLend (pFr (pCall sp__law_meets [] (pCons (pIn (pVar 8)) (pCons (pIn (pVar 5)) (pCons (pIn (pVar 6)) pNil)))))))) (pRet (pFz (pC (.bl false)))) pNext)
    (pSeq (pIf (pB fGt (pIn (pFr (pCB gLen (pCons (pArg 5) pNil)))) (pIn (pC (.int 0)))) (pSeq (pAsg 9 (pCall sp__law_draw [] (pCons (pArg 2) (pCons (pIn (pFr (pCB gLen (pCons (pArg 5) pNil)))) pNil))))
    (pSeq (pDrop (pFz (pClearX (pFr (p2 fIx (pArg 8) (pArg 9))))))
    (pSeq (pSetIx 5 (pArg 9) (pFr (pDisp (fun ds => .ow false ds) pNil)))
    (pIf (pNot (pVal (pLend (pFr (pCall sp__law_meets [] (pCons (pIn (pVar 8)) (pCons (pIn (pVar 5)) (pCons (pIn (pVar 6)) pNil)))))))) (pRet (pFz (pC (.bl false)))) pNext)))) pNext)
    (pSeq (pIf (pOr (pNot (pVal (pFr (pCall sp__law_wrong_rows [] (pCons (pArg 2) pNil))))) (pNot (pVal (pFr (pCall sp__law_out_of_range [] (pCons (pArg 2) pNil)))))) (pRet (pFz (pC (.bl false)))) pNext)
    (pSeq (pAsg 10 (pCall sp__law_draw [] (pCons (pArg 2) (pCons (pIn (pC (.int 129))) pNil))))
    (pSeq (pIf (pOr (pB (fEq true) (pIn (pFr (pCall sp_greatest_pairing [] (pCons (pIn (pFr (pDisp (fun ds => .ow false ds) pNil))) (pCons (pIn (pVar 10)) pNil))))) (pIn (pFr (pDisp (fun ds => .fz (.tup ds)) pNil)))) (pB (fEq true) (pIn (pFr (pCall sp_pairing_cover [] (pCons (pIn (pFr (pDisp (fun ds => .fz (.tup ds)) pNil))) (pCons (pIn (pVar 10)) pNil))))) (pIn (pFr (pDisp (fun ds => .fz (.tup ds)) (pCons (pIn (pFr (pDisp (fun ds => .fz (.tup ds)) pNil))) (pCons (pIn (pFr (pDisp (fun ds => .fz (.tup ds)) pNil))) pNil))))))) (pRet (pFz (pC (.bl false)))) pNext)
    (pSeq (pAsg 4 (pCall sp__law_long_table [] (pCons (pArg 2) pNil)))
    (pSeq (pAsg 5 (pClaim (pFr (p2 fIx (pArg 4) (pIn (pC (.int 0)))))))
    (pSeq (pAsg 11 (pCB gLen (pCons (pArg 5) pNil)))
    (pSeq (pAsg 12 (pCall sp_greatest_pairing [] (pCons (pIn (pFr (pLcV [7] 5 id (gtN 7) pYes (pFr (pCB gList (pCons (pArg 7) pNil)))))) (pCons (pIn (pVar 11)) pNil))))
    (pSeq (pIf (pOr (pB (fEq true) (pIn (pLend (pFr (pCall sp__law_size_of_pairing [] (pCons (pIn (pVar 12)) (pCons (pIn (pVar 5)) pNil)))))) (pArg 11)) (pB (fEq true) (pIn (pFr (pCB gList (pCons (pArg 12) pNil)))) (pIn (pFr (p2 fIx (pArg 4) (pIn (pC (.int 1)))))))) (pRet (pFz (pC (.bl false)))) pNext)
    (pSeq (pAsg 12 (pCall sp_pairing_cover [] (pCons (pIn (pFr (pLcV [7] 5 id (gtN 7) pYes (pFr (pCB gList (pCons (pArg 7) pNil)))))) (pCons (pIn (pVar 11)) pNil))))
    (pSeq (pIf (pB (fEq true) (pIn (pLend (pFr (pCall sp__law_size_of_cover [] (pCons (pIn (pVar 12)) (pCons (pIn (pVar 5)) (pCons (pIn (pVar 11)) pNil))))))) (pArg 11)) (pRet (pFz (pC (.bl false)))) pNext)
    (pSeq (pSetIx 5 (pIn (pFr (p2 fSub (pArg 11) (pIn (pC (.int 1)))))) (pFr (pDisp (fun ds => .ow false ds) (pCons (pIn (pVar 11)) pNil))))
    (pRet (pCall sp__law_refuses [] (pCons (pIn (pVar 5)) (pCons (pIn (pVar 11)) (pCons (pIn (pC (.str "BadTable"))) (pCons (pIn (pC (.str ""))) (pCons (pIn (pFr (p2 fSub (pArg 11) (pIn (pC (.int 1)))))) pNil)))))))))))))))))))))))))))
theorem d_law {P : Program} {w : World} {K : PySem.W.Frag} {mg : Str → Option Value} {base : Heap} {C_BadCount C_BadNumber C_BadTable C_ReelError : Addr} (T : Txt K mg C_BadCount C_BadNumber C_BadTable C_ReelError) {sp__law_draw sp__law_long_table sp__law_meets sp__law_out_of_range sp__law_refuses sp__law_size_of_cover sp__law_size_of_pairing sp__law_table sp__law_wrong_rows sp_greatest_pairing sp_pairing_cover : PSp} (c__law_draw : CalD P w K mg base 1 "_law_draw" sp__law_draw) (c__law_long_table : CalD P w K mg base 2 "_law_long_table" sp__law_long_table) (c__law_meets : CalD P w K mg base 6 "_law_meets" sp__law_meets) (c__law_out_of_range : CalD P w K mg base 8 "_law_out_of_range" sp__law_out_of_range) (c__law_refuses : CalD P w K mg base 7 "_law_refuses" sp__law_refuses) (c__law_size_of_cover : CalD P w K mg base 2 "_law_size_of_cover" sp__law_size_of_cover) (c__law_size_of_pairing : CalD P w K mg base 2 "_law_size_of_pairing" sp__law_size_of_pairing) (c__law_table : CalD P w K mg base 2 "_law_table" sp__law_table) (c__law_wrong_rows : CalD P w K mg base 8 "_law_wrong_rows" sp__law_wrong_rows) (c_greatest_pairing : CalD P w K mg base 5 "greatest_pairing" sp_greatest_pairing) (c_pairing_cover : CalD P w K mg base 5 "pairing_cover" sp_pairing_cover) {f : Addr} {cdv : Value} {A : Around} {outer : List PySem.Env} {s : Shared} {H : Hp} {E : XK} (hr : Room 8 (A.deeper (envOfC "law" (defScope s_law) s.heap.objs.size f cdv))) :
    SSs (cxOf (L2.CX P w) P w K mg base N_law "law" (defScope s_law) f cdv A outer s H E) (fun cls d _ H' => E cls d H') (defBody s_law) (b_law sp__law_draw sp__law_long_table sp__law_meets sp__law_out_of_range sp__law_refuses sp__law_size_of_cover sp__law_size_of_pairing sp__law_table sp__law_wrong_rows sp_greatest_pairing sp_pairing_cover) := by
  unfold b_law
  exact (ss_cons (ss_asg (i := 1) (so_cut (sg_var (pv 0)) spo_none (spo_some sf_int)) sc_law.nd rfl (by first | exact Or.inl rfl | exact Or.inr rfl))
    (ss_cons (by first | exact ss_asgLc (i := 2) (own := [(("cell" : Str), 3)]) rfl sc_law.nd rfl rfl (sw_true rfl rfl rfl (by decide +kernel)) (ssr_seq (sf_var (pv 1))) (blkOk_by (N := N_law) (sc := defScope s_law) (own := [(("cell" : Str), 3)]) (by decide +kernel)) ⟨fun _ _ _ _ _ => (sgt_name (i := 3) sc_law.nd rfl (by first | exact Or.inl rfl | exact Or.inr rfl)), fun _ _ _ _ _ => scs_nil, fun _ _ _ _ _ => (sf_of (so_bin op_mod opo_I (sg_of (sf_of (so_callTy call_int1 co_int rfl T.z_int PySem.Pv.boot_int (sa_cons (sg_of (sf_of (so_callB call_abs co_abs rfl T.z_abs boot_abs (sa_cons (sg_var (pv 3)) sa_nil)))) sa_nil)))) (sg_of (sf_of (so_bin op_pow opo_I (sg_of sf_int) (sg_of sf_int)))))), by decide⟩ | exact ss_asg (i := 2) (so_lc (own := [(("cell" : Str), 3)]) rfl sc_law.nd (ssr_seq (sf_var (pv 1))) (blkOk_by (N := N_law) (sc := defScope s_law) (own := [(("cell" : Str), 3)]) (by decide +kernel)) ⟨fun _ _ _ _ _ => (sgt_name (i := 3) sc_law.nd rfl (by first | exact Or.inl rfl | exact Or.inr rfl)), fun _ _ _ _ _ => scs_nil, fun _ _ _ _ _ => (sf_of (so_bin op_mod opo_I (sg_of (sf_of (so_callTy call_int1 co_int rfl T.z_int PySem.Pv.boot_int (sa_cons (sg_of (sf_of (so_callB call_abs co_abs rfl T.z_abs boot_abs (sa_cons (sg_var (pv 3)) sa_nil)))) sa_nil)))) (sg_of (sf_of (so_bin op_pow opo_I (sg_of sf_int) (sg_of sf_int)))))), by decide⟩) sc_law.nd rfl (by first | exact Or.inl rfl | exact Or.inr rfl))
    (ss_cons (ss_asg (i := 4) (so_cal c__law_table hr (by decide) (takes_of rfl rfl rfl rfl) rfl (sa_cons (sg_var (pv 2)) sa_nil)) sc_law.nd rfl (by first | exact Or.inl rfl | exact Or.inr rfl))
    (ss_cons (ss_asg (i := 5) (so_claim (sf_of (so_ix ix_seq opo_ix (sg_var (pv 4)) (sg_of sf_int) fun _ _ => rfl))) sc_law.nd rfl (by first | exact Or.inl rfl | exact Or.inr rfl))
    (ss_cons (ss_asg (i := 6) (so_ix ix_seq opo_ix (sg_var (pv 4)) (sg_of sf_int) fun _ _ => rfl) sc_law.nd rfl (by first | exact Or.inl rfl | exact Or.inr rfl))
    (ss_cons (ss_if (st_not (st_val (sf_lend (sf_of (so_cal c__law_meets hr (by decide) (takes_of rfl rfl rfl rfl) rfl (sa_cons (sg_of (sf_of (so_callTy call_tuple_of co_tuple rfl T.z_tuple PySem.Pv.boot_tuple (sa_cons (sg_of (sf_of (so_lc (own := [(("row" : Str), 7)]) rfl sc_law.nd (ssr_seq (sf_var (pv 5))) (blkOk_by (N := N_law) (sc := defScope s_law) (own := [(("row" : Str), 7)]) (by decide +kernel)) ⟨fun _ _ _ _ _ => (sgt_name (i := 7) sc_law.nd rfl (by first | exact Or.inl rfl | exact Or.inr rfl)), fun _ _ _ _ _ => scs_nil, fun _ _ _ _ _ => (sf_of (so_callTy call_tuple_of co_tuple rfl T.z_tuple PySem.Pv.boot_tuple (sa_cons (sg_var (pv 7)) sa_nil))), by decide⟩))) sa_nil)))) (sa_cons (sg_of (sf_var (pv 5))) (sa_cons (sg_of (sf_var (pv 6))) sa_nil)))))))) (ss_one (ss_ret (so_of sf_bl))) ss_nil)
    (ss_cons (by first | exact ss_asgLcV (i := 8) (own := [(("row" : Str), 7)]) rfl sc_law.nd rfl rfl (sw_true rfl rfl rfl (by decide +kernel)) (svr_list (pv 5)) (blkOk_by (N := N_law) (sc := defScope s_law) (own := [(("row" : Str), 7)]) (by decide +kernel)) ⟨fun _ _ _ _ _ => (sgt_name (i := 7) sc_law.nd rfl (by first | exact Or.inl rfl | exact Or.inr rfl)), fun _ _ _ _ _ => scs_nil, fun _ _ _ _ _ => (sf_ce (so_callTy call_list_of co_list rfl T.z_list PySem.Pv.boot_list (sa_cons (sg_var (pv 7)) sa_nil))), by decide⟩ | exact ss_asg (i := 8) (so_lcV (own := [(("row" : Str), 7)]) rfl sc_law.nd (svr_list (pv 5)) (blkOk_by (N := N_law) (sc := defScope s_law) (own := [(("row" : Str), 7)]) (by decide +kernel)) ⟨fun _ _ _ _ _ => (sgt_name (i := 7) sc_law.nd rfl (by first | exact Or.inl rfl | exact Or.inr rfl)), fun _ _ _ _ _ => scs_nil, fun _ _ _ _ _ => (sf_ce (so_callTy call_list_of co_list rfl T.z_list PySem.Pv.boot_list (sa_cons (sg_var (pv 7)) sa_nil))), by decide⟩) sc_law.nd rfl (by first | exact Or.inl rfl | exact Or.inr rfl))
    (ss_cons (ss_if (st_not (st_val (sf_lend (sf_of (so_cal c__law_meets hr (by decide) (takes_of rfl rfl rfl rfl) rfl (sa_cons (sg_of (sf_var (pv 8))) (sa_cons (sg_of (sf_var (pv 5))) (sa_cons (sg_of (sf_var (pv 6))) sa_nil)))))))) (ss_one (ss_ret (so_of sf_bl))) ss_nil)
    (ss_cons (ss_if (st_cmp op_gt opb_CI (sg_of (sf_of (so_callB call_lenA co_len rfl T.z_len boot_len (sa_cons (sg_var (pv 5)) sa_nil)))) (sg_of sf_int) (nomark _)) (ss_cons (ss_asg (i := 9) (so_cal c__law_draw hr (by decide) (takes_of rfl rfl rfl rfl) rfl (sa_cons (sg_var (pv 2)) (sa_cons (sg_of (sf_of (so_callB call_lenA co_len rfl T.z_len boot_len (sa_cons (sg_var (pv 5)) sa_nil)))) sa_nil))) sc_law.nd rfl (by first | exact Or.inl rfl | exact Or.inr rfl))
    (ss_cons (ss_expr (so_of (sf_clearX (sf_of (so_ix ix_seq opo_ix (sg_var (pv 8)) (sg_var (pv 9)) fun _ _ => rfl)))))
    (ss_cons (ss_setIx (sf_of (so_lst sa_nil)) (pv 5) (sg_var (pv 9)))
    (ss_one (ss_if (st_not (st_val (sf_lend (sf_of (so_cal c__law_meets hr (by decide) (takes_of rfl rfl rfl rfl) rfl (sa_cons (sg_of (sf_var (pv 8))) (sa_cons (sg_of (sf_var (pv 5))) (sa_cons (sg_of (sf_var (pv 6))) sa_nil)))))))) (ss_one (ss_ret (so_of sf_bl))) ss_nil))))) ss_nil)
    (ss_cons (ss_if (st_w (sw_or (st_not (st_val (sf_of (so_cal c__law_wrong_rows hr (by decide) (takes_of rfl rfl rfl rfl) rfl (sa_cons (sg_var (pv 2)) sa_nil))))) (sw_or1 (st_not (st_val (sf_of (so_cal c__law_out_of_range hr (by decide) (takes_of rfl rfl rfl rfl) rfl (sa_cons (sg_var (pv 2)) sa_nil)))))))) (ss_one (ss_ret (so_of sf_bl))) ss_nil)
    (ss_cons (ss_asg (i := 10) (so_cal c__law_draw hr (by decide) (takes_of rfl rfl rfl rfl) rfl (sa_cons (sg_var (pv 2)) (sa_cons (sg_of sf_int) sa_nil))) sc_law.nd rfl (by first | exact Or.inl rfl | exact Or.inr rfl))
    (ss_cons (ss_if (st_w (sw_or (st_cmp (op_neD (hu64 hr)) opb_ne (sg_of (sf_of (so_cal c_greatest_pairing hr (by decide) (takes_of rfl rfl rfl rfl) rfl (sa_cons (sg_of (sf_of (so_lst sa_nil))) (sa_cons (sg_of (sf_var (pv 10))) sa_nil))))) (sg_of (sf_of (so_tup sa_nil))) (nomark _)) (sw_or1 (st_cmp (op_neD (hu64 hr)) opb_ne (sg_of (sf_of (so_cal c_pairing_cover hr (by decide) (takes_of rfl rfl rfl rfl) rfl (sa_cons (sg_of (sf_of (so_tup sa_nil))) (sa_cons (sg_of (sf_var (pv 10))) sa_nil))))) (sg_of (sf_of (so_tup (sa_cons (sg_of (sf_of (so_tup sa_nil))) (sa_cons (sg_of (sf_of (so_tup sa_nil))) sa_nil))))) (nomark _))))) (ss_one (ss_ret (so_of sf_bl))) ss_nil)
    (ss_cons (ss_asg (i := 4) (so_cal c__law_long_table hr (by decide) (takes_of rfl rfl rfl rfl) rfl (sa_cons (sg_var (pv 2)) sa_nil)) sc_law.nd rfl (by first | exact Or.inl rfl | exact Or.inr rfl))
    (ss_cons (ss_asg (i := 5) (so_claim (sf_of (so_ix ix_seq opo_ix (sg_var (pv 4)) (sg_of sf_int) fun _ _ => rfl))) sc_law.nd rfl (by first | exact Or.inl rfl | exact Or.inr rfl))
    (ss_cons (ss_asg (i := 11) (so_callB call_lenA co_len rfl T.z_len boot_len (sa_cons (sg_var (pv 5)) sa_nil)) sc_law.nd rfl (by first | exact Or.inl rfl | exact Or.inr rfl))
    (ss_cons (ss_asg (i := 12) (so_cal c_greatest_pairing hr (by decide) (takes_of rfl rfl rfl rfl) rfl (sa_cons (sg_of (sf_of (so_lcV (own := [(("row" : Str), 7)]) rfl sc_law.nd (svr_list (pv 5)) (blkOk_by (N := N_law) (sc := defScope s_law) (own := [(("row" : Str), 7)]) (by decide +kernel)) ⟨fun _ _ _ _ _ => (sgt_name (i := 7) sc_law.nd rfl (by first | exact Or.inl rfl | exact Or.inr rfl)), fun _ _ _ _ _ => scs_nil, fun _ _ _ _ _ => (sf_of (so_callTy call_list_of co_list rfl T.z_list PySem.Pv.boot_list (sa_cons (sg_var (pv 7)) sa_nil))), by decide⟩))) (sa_cons (sg_of (sf_var (pv 11))) sa_nil))) sc_law.nd rfl (by first | exact Or.inl rfl | exact Or.inr rfl))
    (ss_cons (ss_if (st_w (sw_or (st_cmp (op_neD (hu64 hr)) opb_ne (sg_of (sf_lend (sf_of (so_cal c__law_size_of_pairing hr (by decide) (takes_of rfl rfl rfl rfl) rfl (sa_cons (sg_of (sf_var (pv 12))) (sa_cons (sg_of (sf_var (pv 5))) sa_nil)))))) (sg_var (pv 11)) (nomark _)) (sw_or1 (st_cmp (op_neD (hu64 hr)) opb_ne (sg_of (sf_of (so_callTy call_list_of co_list rfl T.z_list PySem.Pv.boot_list (sa_cons (sg_var (pv 12)) sa_nil)))) (sg_of (sf_of (so_ix ix_seq opo_ix (sg_var (pv 4)) (sg_of sf_int) fun _ _ => rfl))) (nomark _))))) (ss_one (ss_ret (so_of sf_bl))) ss_nil)
    (ss_cons (ss_asg (i := 12) (so_cal c_pairing_cover hr (by decide) (takes_of rfl rfl rfl rfl) rfl (sa_cons (sg_of (sf_of (so_lcV (own := [(("row" : Str), 7)]) rfl sc_law.nd (svr_list (pv 5)) (blkOk_by (N := N_law) (sc := defScope s_law) (own := [(("row" : Str), 7)]) (by decide +kernel)) ⟨fun _ _ _ _ _ => (sgt_name (i := 7) sc_law.nd rfl (by first | exact Or.inl rfl | exact Or.inr rfl)), fun _ _ _ _ _ => scs_nil, fun _ _ _ _ _ => (sf_of (so_callTy call_list_of co_list rfl T.z_list PySem.Pv.boot_list (sa_cons (sg_var (pv 7)) sa_nil))), by decide⟩))) (sa_cons (sg_of (sf_var (pv 11))) sa_nil))) sc_law.nd rfl (by first | exact Or.inl rfl | exact Or.inr rfl))
    (ss_cons (ss_if (st_cmp (op_neD (hu64 hr)) opb_ne (sg_of (sf_lend (sf_of (so_cal c__law_size_of_cover hr (by decide) (takes_of rfl rfl rfl rfl) rfl (sa_cons (sg_of (sf_var (pv 12))) (sa_cons (sg_of (sf_var (pv 5))) (sa_cons (sg_of (sf_var (pv 11))) sa_nil))))))) (sg_var (pv 11)) (nomark _)) (ss_one (ss_ret (so_of sf_bl))) ss_nil)
    (ss_cons (ss_setIx (sf_of (so_lst (sa_cons (sg_of (sf_var (pv 11))) sa_nil))) (pv 5) (sg_of (sf_of (so_bin op_sub opo_I0 (sg_var (pv 11)) (sg_of sf_int)))))
    (ss_one (ss_ret (so_cal c__law_refuses hr (by decide) (takes_of rfl rfl rfl rfl) rfl (sa_cons (sg_of (sf_var (pv 5))) (sa_cons (sg_of (sf_var (pv 11))) (sa_cons (sg_of sf_str) (sa_cons (sg_of sf_str) (sa_cons (sg_of (sf_of (so_bin op_sub opo_I0 (sg_var (pv 11)) (sg_of sf_int)))) sa_nil))))))))))))))))))))))))))))
end K12
set_option Elab.async false
set_option linter.all false
set_option maxRecDepth 100000
set_option maxHeartbeats 4000000
namespace K12
open PySem PySem.Spec PyProof.Rows L2 PW
/-! ### check_number, check_count -/
structure ACn where
  what : Str
  n : Int
  lo : Int
  hi : Int
  hw : what.length ≤ 1000
  hn : n.natAbs.log2 < 1920
def preCn (a : ACn) (args : List O) : Prop := args = [.fz (.str a.what), .fz (.int a.n), .fz (.int a.lo), .fz (.int a.hi)]
def postCn (a : ACn) (r : O) (o : List O) : Prop := r = .fz .non ∧ o = [.un, .un, .un, .un] ∧ a.lo ≤ a.n ∧ a.n ≤ a.hi
def excCn (C : Addr) (f : Str) (a : ACn) (x : Er) (o : List O) : Prop := x = ⟨C, [(f, .int a.n), ("what", .str a.what)]⟩ ∧ o = [.un, .un, .un, .un] ∧ (a.n < a.lo ∨ a.hi < a.n)
abbrev spCn (C : Addr) (f : Str) : PSp := mkSp preCn postCn (excCn C f)
theorem p_check_number {C : Addr} {a : ACn} {Z : PEnds} (h1 : a.lo ≤ a.n → a.n ≤ a.hi → Z.nx [.fz (.str a.what), .fz (.int a.n), .fz (.int a.lo), .fz (.int a.hi)])
    (h2 : (a.n < a.lo ∨ a.hi < a.n) → Z.ex ⟨C, [("number", .int a.n), ("what", .str a.what)]⟩ [.fz (.str a.what), .fz (.int a.n), .fz (.int a.lo), .fz (.int a.hi)]) :
    b_check_number C Z [.fz (.str a.what), .fz (.int a.n), .fz (.int a.lo), .fz (.int a.hi)] := by
  unfold b_check_number
  simp only [pSeq, pNext, pIf, pAsg, pRet, pRetN, pDrop, pFor, pForV, pAsgG, pAug, pSetIx, pBrk, pCnt, pFz, pFr, pIn, pVar, pArg, pMv, pC, pCons, pNil, p2, pB, pBl, pCB, ress, res, rv_non, rv_bl, rv_int, rv_str, rv_ty, rv_lst, rv_tup, rv_rls, rv_xr, rv_nc, noCe, stO, true_and, and_true, Bool.not_false, Bool.not_true, rv_oD, isNon_oD, gtN, gtsCons, gtsNil, pNot, pOr, pAnd, pVal, pTru, pNeg, pNotV, pAndV, pOrV, pIfE, pDisp, allInl, pCut, pNoPt, pPt, pSeqSrc, pEnum, enSrc, pRng1, rOf1, pRng2, rOf2, owAt, pApp, pPopAt, pPop, pClear, pLc, pLcV, pYes, noOw, wipeE, restE, rst, pRaise, resL, pCall, argsOf, argO, refIx, wbC, wb, wb1, outsOf, outP, List.getElem?_cons_zero, List.getElem?_cons_succ, List.getElem?_nil, List.set_cons_zero, List.set_cons_succ, List.length_cons, List.length_nil, List.cons_append, List.nil_append, List.append_nil, List.drop_succ_cons, List.drop_zero, List.drop_nil, List.replicate_zero, List.replicate_succ, List.getD_cons_zero, List.getD_cons_succ, Nat.reduceSub, Nat.reduceAdd, Nat.sub_self, if_true, if_false, Bool.false_eq_true, q_frz1, q_frz2, q_stR1, q_stR2, q_free1, q_free2, q_free3, q_isN1, q_isN2, q_fIsN, q_fCI, q_fI, q_fI0, q_add1, q_add2, q_add3, q_mul1, q_mul2, q_isBl, q_isInt, q_seq1, q_seq2, q_seq3, q_len1, q_len2, q_len3, q_int1, q_abs, q_two, q_list1, q_list2, q_tuple1, q_tuple2, q_tru1, q_tru2, q_rs1, q_rs2, q_cut1, q_cut2, q_cut3, q_gtT]
  have hr : ∀ d ∈ [D.str a.what, D.int a.n], OkD d := by
    intro d hd
    rcases List.mem_cons.mp hd with rfl | hd
    · exact a.hw
    · rw [List.mem_singleton] at hd; subst hd; exact a.hn
  by_cases c1 : a.n < a.lo
  · rw [if_pos (by simpa using c1)]
    exact ⟨_, rfl, rfl, hr, h2 (.inl c1)⟩
  · rw [if_neg (by simpa using c1)]
    by_cases c2 : a.hi < a.n
    · rw [if_pos (by simpa using c2)]
      exact ⟨_, rfl, rfl, hr, h2 (.inr c2)⟩
    · rw [if_neg (by simpa using c2)]
      exact h1 (by omega) (by omega)
theorem p_check_count {C : Addr} {a : ACn} {Z : PEnds} (h1 : a.lo ≤ a.n → a.n ≤ a.hi → Z.nx [.fz (.str a.what), .fz (.int a.n), .fz (.int a.lo), .fz (.int a.hi)])
    (h2 : (a.n < a.lo ∨ a.hi < a.n) → Z.ex ⟨C, [("many", .int a.n), ("what", .str a.what)]⟩ [.fz (.str a.what), .fz (.int a.n), .fz (.int a.lo), .fz (.int a.hi)]) :
    b_check_count C Z [.fz (.str a.what), .fz (.int a.n), .fz (.int a.lo), .fz (.int a.hi)] := by
  unfold b_check_count
  simp only [pSeq, pNext, pIf, pAsg, pRet, pRetN, pDrop, pFor, pForV, pAsgG, pAug, pSetIx, pBrk, pCnt, pFz, pFr, pIn, pVar, pArg, pMv, pC, pCons, pNil, p2, pB, pBl, pCB, ress, res, rv_non, rv_bl, rv_int, rv_str, rv_ty, rv_lst, rv_tup, rv_rls, rv_xr, rv_nc, noCe, stO, true_and, and_true, Bool.not_false, Bool.not_true, rv_oD, isNon_oD, gtN, gtsCons, gtsNil, pNot, pOr, pAnd, pVal, pTru, pNeg, pNotV, pAndV, pOrV, pIfE, pDisp, allInl, pCut, pNoPt, pPt, pSeqSrc, pEnum, enSrc, pRng1, rOf1, pRng2, rOf2, owAt, pApp, pPopAt, pPop, pClear, pLc, pLcV, pYes, noOw, wipeE, restE, rst, pRaise, resL, pCall, argsOf, argO, refIx, wbC, wb, wb1, outsOf, outP, List.getElem?_cons_zero, List.getElem?_cons_succ, List.getElem?_nil, List.set_cons_zero, List.set_cons_succ, List.length_cons, List.length_nil, List.cons_append, List.nil_append, List.append_nil, List.drop_succ_cons, List.drop_zero, List.drop_nil, List.replicate_zero, List.replicate_succ, List.getD_cons_zero, List.getD_cons_succ, Nat.reduceSub, Nat.reduceAdd, Nat.sub_self, if_true, if_false, Bool.false_eq_true, q_frz1, q_frz2, q_stR1, q_stR2, q_free1, q_free2, q_free3, q_isN1, q_isN2, q_fIsN, q_fCI, q_fI, q_fI0, q_add1, q_add2, q_add3, q_mul1, q_mul2, q_isBl, q_isInt, q_seq1, q_seq2, q_seq3, q_len1, q_len2, q_len3, q_int1, q_abs, q_two, q_list1, q_list2, q_tuple1, q_tuple2, q_tru1, q_tru2, q_rs1, q_rs2, q_cut1, q_cut2, q_cut3, q_gtT]
  have hr : ∀ d ∈ [D.str a.what, D.int a.n], OkD d := by
    intro d hd
    rcases List.mem_cons.mp hd with rfl | hd
    · exact a.hw
    · rw [List.mem_singleton] at hd; subst hd; exact a.hn
  by_cases c1 : a.n < a.lo
  · rw [if_pos (by simpa using c1)]
    exact ⟨_, rfl, rfl, hr, h2 (.inl c1)⟩
  · rw [if_neg (by simpa using c1)]
    by_cases c2 : a.hi < a.n
    · rw [if_pos (by simpa using c2)]
      exact ⟨_, rfl, rfl, hr, h2 (.inr c2)⟩
    · rw [if_neg (by simpa using c2)]
      exact h1 (by omega) (by omega)
section
variable {P : Program} {w : World} {K : PySem.W.Frag} {mg : Str → Option Value} {base : Heap} {C_BadCount C_BadNumber C_BadTable C_ReelError : Addr} {f : Addr} {fd : FuncData}
theorem ok_check_number (T : Txt K mg C_BadCount C_BadNumber C_BadTable C_ReelError) (E_BadNumber : ErrD P w K mg base "BadNumber" C_BadNumber ["what", "number"]) (Fn : Fun K "check_number" "check_number" s_check_number f fd) :
    FnOk P w K mg base (L2.CX P w) 3 f fd [("what" : Str), ("number" : Str), ("low" : Str), ("high" : Str)] (spM K (spCn C_BadNumber "number")) :=
  Fn.M sc_check_number (fun a args h => by rw [show args = _ from h]; rfl) (fun cdv A outer s H E hr => d_check_number T E_BadNumber hr) (fun a args h => by
    rw [show args = _ from h]
    exact p_check_number (fun c1 c2 => ⟨rfl, rfl, c1, c2⟩) (fun c => ⟨rfl, rfl, c⟩))
theorem ok_check_count (T : Txt K mg C_BadCount C_BadNumber C_BadTable C_ReelError) (E_BadCount : ErrD P w K mg base "BadCount" C_BadCount ["what", "many"]) (Fn : Fun K "check_count" "check_count" s_check_count f fd) :
    FnOk P w K mg base (L2.CX P w) 3 f fd [("what" : Str), ("many" : Str), ("low" : Str), ("high" : Str)] (spM K (spCn C_BadCount "many")) :=
  Fn.M sc_check_count (fun a args h => by rw [show args = _ from h]; rfl) (fun cdv A outer s H E hr => d_check_count T E_BadCount hr) (fun a args h => by
    rw [show args = _ from h]
    exact p_check_count (fun c1 c2 => ⟨rfl, rfl, c1, c2⟩) (fun c => ⟨rfl, rfl, c⟩))
end
/-! ### _law_is_int -/
def isIntD : D → Bool
  | .int _ => true
  | _ => false
/-- what isinstance is told of -/
def kindD : D → Prop
  | .non => True
  | .bl _ => True
  | .int _ => True
  | .str _ => True
  | .lst _ => True
  | .tup _ => True
  | _ => False
abbrev spIsInt : PSp := mkSp (fun (d : {d : D // kindD d}) args => args = [.fz d.1]) (fun d r o => r = .fz (.bl (isIntD d.1)) ∧ o = [.un]) noEx
theorem p__law_is_int {d : D} (hd : kindD d) {Z : PEnds} (h : Z.rt (.fz (.bl (isIntD d))) [.fz d]) : b__law_is_int Z [.fz d] := by
  unfold b__law_is_int
  simp only [pSeq, pNext, pIf, pAsg, pRet, pRetN, pDrop, pFor, pForV, pAsgG, pAug, pSetIx, pBrk, pCnt, pFz, pFr, pIn, pVar, pArg, pMv, pC, pCons, pNil, p2, pB, pBl, pCB, ress, res, rv_non, rv_bl, rv_int, rv_str, rv_ty, rv_lst, rv_tup, rv_rls, rv_xr, rv_nc, noCe, stO, true_and, and_true, Bool.not_false, Bool.not_true, rv_oD, isNon_oD, gtN, gtsCons, gtsNil, pNot, pOr, pAnd, pVal, pTru, pNeg, pNotV, pAndV, pOrV, pIfE, pDisp, allInl, pCut, pNoPt, pPt, pSeqSrc, pEnum, enSrc, pRng1, rOf1, pRng2, rOf2, owAt, pApp, pPopAt, pPop, pClear, pLc, pLcV, pYes, noOw, wipeE, restE, rst, pRaise, resL, pCall, argsOf, argO, refIx, wbC, wb, wb1, outsOf, outP, List.getElem?_cons_zero, List.getElem?_cons_succ, List.getElem?_nil, List.set_cons_zero, List.set_cons_succ, List.length_cons, List.length_nil, List.cons_append, List.nil_append, List.append_nil, List.drop_succ_cons, List.drop_zero, List.drop_nil, List.replicate_zero, List.replicate_succ, List.getD_cons_zero, List.getD_cons_succ, Nat.reduceSub, Nat.reduceAdd, Nat.sub_self, if_true, if_false, Bool.false_eq_true, q_frz1, q_frz2, q_stR1, q_stR2, q_free1, q_free2, q_free3, q_isN1, q_isN2, q_fIsN, q_fCI, q_fI, q_fI0, q_add1, q_add2, q_add3, q_mul1, q_mul2, q_isBl, q_isInt, q_seq1, q_seq2, q_seq3, q_len1, q_len2, q_len3, q_int1, q_abs, q_two, q_list1, q_list2, q_tuple1, q_tuple2, q_tru1, q_tru2, q_rs1, q_rs2, q_cut1, q_cut2, q_cut3, q_gtT]
  cases d <;> first
    | exact hd.elim
    | (simp only [pSeq, pNext, pIf, pAsg, pRet, pRetN, pDrop, pFor, pForV, pAsgG, pAug, pSetIx, pBrk, pCnt, pFz, pFr, pIn, pVar, pArg, pMv, pC, pCons, pNil, p2, pB, pBl, pCB, ress, res, rv_non, rv_bl, rv_int, rv_str, rv_ty, rv_lst, rv_tup, rv_rls, rv_xr, rv_nc, noCe, stO, true_and, and_true, Bool.not_false, Bool.not_true, rv_oD, isNon_oD, gtN, gtsCons, gtsNil, pNot, pOr, pAnd, pVal, pTru, pNeg, pNotV, pAndV, pOrV, pIfE, pDisp, allInl, pCut, pNoPt, pPt, pSeqSrc, pEnum, enSrc, pRng1, rOf1, pRng2, rOf2, owAt, pApp, pPopAt, pPop, pClear, pLc, pLcV, pYes, noOw, wipeE, restE, rst, pRaise, resL, pCall, argsOf, argO, refIx, wbC, wb, wb1, outsOf, outP, List.getElem?_cons_zero, List.getElem?_cons_succ, List.getElem?_nil, List.set_cons_zero, List.set_cons_succ, List.length_cons, List.length_nil, List.cons_append, List.nil_append, List.append_nil, List.drop_succ_cons, List.drop_zero, List.drop_nil, List.replicate_zero, List.replicate_succ, List.getD_cons_zero, List.getD_cons_succ, Nat.reduceSub, Nat.reduceAdd, Nat.sub_self, if_true, if_false, Bool.false_eq_true, q_frz1, q_frz2, q_stR1, q_stR2, q_free1, q_free2, q_free3, q_isN1, q_isN2, q_fIsN, q_fCI, q_fI, q_fI0, q_add1, q_add2, q_add3, q_mul1, q_mul2, q_isBl, q_isInt, q_seq1, q_seq2, q_seq3, q_len1, q_len2, q_len3, q_int1, q_abs, q_two, q_list1, q_list2, q_tuple1, q_tuple2, q_tru1, q_tru2, q_rs1, q_rs2, q_cut1, q_cut2, q_cut3, q_gtT, gIsi, tyD]
       refine ⟨_, rfl, ?_⟩
       simp [isi]
       exact h)
    | (simp only [pSeq, pNext, pIf, pAsg, pRet, pRetN, pDrop, pFor, pForV, pAsgG, pAug, pSetIx, pBrk, pCnt, pFz, pFr, pIn, pVar, pArg, pMv, pC, pCons, pNil, p2, pB, pBl, pCB, ress, res, rv_non, rv_bl, rv_int, rv_str, rv_ty, rv_lst, rv_tup, rv_rls, rv_xr, rv_nc, noCe, stO, true_and, and_true, Bool.not_false, Bool.not_true, rv_oD, isNon_oD, gtN, gtsCons, gtsNil, pNot, pOr, pAnd, pVal, pTru, pNeg, pNotV, pAndV, pOrV, pIfE, pDisp, allInl, pCut, pNoPt, pPt, pSeqSrc, pEnum, enSrc, pRng1, rOf1, pRng2, rOf2, owAt, pApp, pPopAt, pPop, pClear, pLc, pLcV, pYes, noOw, wipeE, restE, rst, pRaise, resL, pCall, argsOf, argO, refIx, wbC, wb, wb1, outsOf, outP, List.getElem?_cons_zero, List.getElem?_cons_succ, List.getElem?_nil, List.set_cons_zero, List.set_cons_succ, List.length_cons, List.length_nil, List.cons_append, List.nil_append, List.append_nil, List.drop_succ_cons, List.drop_zero, List.drop_nil, List.replicate_zero, List.replicate_succ, List.getD_cons_zero, List.getD_cons_succ, Nat.reduceSub, Nat.reduceAdd, Nat.sub_self, if_true, if_false, Bool.false_eq_true, q_frz1, q_frz2, q_stR1, q_stR2, q_free1, q_free2, q_free3, q_isN1, q_isN2, q_fIsN, q_fCI, q_fI, q_fI0, q_add1, q_add2, q_add3, q_mul1, q_mul2, q_isBl, q_isInt, q_seq1, q_seq2, q_seq3, q_len1, q_len2, q_len3, q_int1, q_abs, q_two, q_list1, q_list2, q_tuple1, q_tuple2, q_tru1, q_tru2, q_rs1, q_rs2, q_cut1, q_cut2, q_cut3, q_gtT, gIsi, tyD]
       refine ⟨_, rfl, ?_⟩
       simp [isi]
       refine ⟨_, rfl, ?_⟩
       simp
       exact h)
end K12
set_option Elab.async false
set_option linter.all false
set_option maxRecDepth 100000
set_option maxHeartbeats 4000000
namespace K12
open PySem PySem.Spec PyProof.Rows L2 PW
/-! ### _law_draw -/
def PoolOk (ns : List Int) : Prop := ns.length ≤ 63 ∧ ∀ n ∈ ns, 0 ≤ n
theorem p__law_draw {ns : List Int} {m : Int} (hm : CDivW 0 m) (hp : PoolOk ns) {Z : PEnds}
    (h : ∀ (v : Int) (ns' : List Int) (o : O), 0 ≤ v → v < m → PoolOk ns' → Z.rt (.fz (.int v)) [.ow true (ns'.map .int), .fz (.int m), o]) : b__law_draw Z [.ow true (ns.map .int), .fz (.int m), .un] := by
  have hm0 : 0 < m := hm.1
  unfold b__law_draw
  simp only [pSeq, pNext, pIf, pAsg, pRet, pRetN, pDrop, pFor, pForV, pAsgG, pAug, pSetIx, pBrk, pCnt, pFz, pFr, pIn, pVar, pArg, pMv, pC, pCons, pNil, p2, pB, pBl, pCB, ress, res, rv_non, rv_bl, rv_int, rv_str, rv_ty, rv_lst, rv_tup, rv_rls, rv_xr, rv_nc, noCe, stO, true_and, and_true, Bool.not_false, Bool.not_true, rv_oD, isNon_oD, gtN, gtsCons, gtsNil, pNot, pOr, pAnd, pVal, pTru, pNeg, pNotV, pAndV, pOrV, pIfE, pDisp, allInl, pCut, pNoPt, pPt, pSeqSrc, pEnum, enSrc, pRng1, rOf1, pRng2, rOf2, owAt, pApp, pPopAt, pPop, pClear, pLc, pLcV, pYes, noOw, wipeE, restE, rst, pRaise, resL, pCall, argsOf, argO, refIx, wbC, wb, wb1, outsOf, outP, List.getElem?_cons_zero, List.getElem?_cons_succ, List.getElem?_nil, List.set_cons_zero, List.set_cons_succ, List.length_cons, List.length_nil, List.cons_append, List.nil_append, List.append_nil, List.drop_succ_cons, List.drop_zero, List.drop_nil, List.replicate_zero, List.replicate_succ, List.getD_cons_zero, List.getD_cons_succ, Nat.reduceSub, Nat.reduceAdd, Nat.sub_self, if_true, if_false, Bool.false_eq_true, q_frz1, q_frz2, q_stR1, q_stR2, q_free1, q_free2, q_free3, q_isN1, q_isN2, q_fIsN, q_fCI, q_fI, q_fI0, q_add1, q_add2, q_add3, q_mul1, q_mul2, q_isBl, q_isInt, q_seq1, q_seq2, q_seq3, q_len1, q_len2, q_len3, q_int1, q_abs, q_two, q_list1, q_list2, q_tuple1, q_tuple2, q_tru1, q_tru2, q_rs1, q_rs2, q_cut1, q_cut2, q_cut3, q_gtT, fEq_nil1, fEq_int]
  cases ns with
  | nil =>
    simp only [decide_true, if_true, List.map_nil]
    exact ⟨Nat.zero_le _, h 0 [] _ (Int.le_refl 0) hm0 hp⟩
  | cons n ns =>
    have hn : 0 ≤ n := hp.2 n (by simp)
    have e0 : ∀ (x : D) (xs : List D) (Q : O → Prop), fIx (.lst (x :: xs)) (.int 0) Q ↔ Q (.fz x) := fun x xs Q => fIx_seq (d := .lst (x :: xs)) rfl (i := 0) rfl
    have i0 : ∀ k : Nat, ixN (k + 1) 0 = some 0 := fun k => by simp [ixN]
    have z1 : decide (n :: ns = []) = false := by simp
    simp only [z1, List.map_cons, fIx, e0, pSeq, pNext, pIf, pAsg, pRet, pRetN, pDrop, pFor, pForV, pAsgG, pAug, pSetIx, pBrk, pCnt, pFz, pFr, pIn, pVar, pArg, pMv, pC, pCons, pNil, p2, pB, pBl, pCB, ress, res, rv_non, rv_bl, rv_int, rv_str, rv_ty, rv_lst, rv_tup, rv_rls, rv_xr, rv_nc, noCe, stO, true_and, and_true, Bool.not_false, Bool.not_true, rv_oD, isNon_oD, gtN, gtsCons, gtsNil, pNot, pOr, pAnd, pVal, pTru, pNeg, pNotV, pAndV, pOrV, pIfE, pDisp, allInl, pCut, pNoPt, pPt, pSeqSrc, pEnum, enSrc, pRng1, rOf1, pRng2, rOf2, owAt, pApp, pPopAt, pPop, pClear, pLc, pLcV, pYes, noOw, wipeE, restE, rst, pRaise, resL, pCall, argsOf, argO, refIx, wbC, wb, wb1, outsOf, outP, List.getElem?_cons_zero, List.getElem?_cons_succ, List.getElem?_nil, List.set_cons_zero, List.set_cons_succ, List.length_cons, List.length_nil, List.cons_append, List.nil_append, List.append_nil, List.drop_succ_cons, List.drop_zero, List.drop_nil, List.replicate_zero, List.replicate_succ, List.getD_cons_zero, List.getD_cons_succ, Nat.reduceSub, Nat.reduceAdd, Nat.sub_self, if_true, if_false, Bool.false_eq_true, q_frz1, q_frz2, q_stR1, q_stR2, q_free1, q_free2, q_free3, q_isN1, q_isN2, q_fIsN, q_fCI, q_fI, q_fI0, q_add1, q_add2, q_add3, q_mul1, q_mul2, q_isBl, q_isInt, q_seq1, q_seq2, q_seq3, q_len1, q_len2, q_len3, q_int1, q_abs, q_two, q_list1, q_list2, q_tuple1, q_tuple2, q_tru1, q_tru2, q_rs1, q_rs2, q_cut1, q_cut2, q_cut3, q_gtT, i0, Option.some.injEq, exists_eq_left', L2.atI, Option.bind_some]
    refine ⟨Nat.zero_le _, ⟨hm0, hm.2⟩, fEq_int.mpr ?_⟩
    have hq : 0 ≤ n / m := Int.ediv_nonneg hn (Int.le_of_lt hm0)
    have hr0 := Int.emod_nonneg n (Int.ne_of_gt hm0)
    have hr1 := Int.emod_lt_of_pos n hm0
    have tail : PoolOk ns := ⟨by have := hp.1; simp at this; omega, fun x hx => hp.2 x (List.mem_cons_of_mem _ hx)⟩
    by_cases c : n / m = 0
    · rw [c]
      simp only [Bool.false_eq_true, if_false, beq_self_eq_true, if_true]
      refine ⟨⟨by decide, by decide⟩, 0, _, rfl, rfl, hm0, ?_⟩
      exact h _ ns _ hr0 hr1 tail
    · have c' : (n / m == 0) = false := by simpa using c
      simp only [c', Bool.false_eq_true, if_false]
      refine ⟨hm0, ?_⟩
      exact h _ (n / m :: ns) _ hr0 hr1 ⟨hp.1, fun x hx => by
        rcases List.mem_cons.mp hx with rfl | hx
        · exact hq
        · exact tail.2 x hx⟩
/-- the promise of _law_draw -/
structure ADr where
  ns : List Int
  m : Int
  hm : CDivW 0 m
  hp : PoolOk ns
def postDr (a : ADr) (r : O) (o : List O) : Prop := ∃ v ns', 0 ≤ v ∧ v < a.m ∧ PoolOk ns' ∧ r = .fz (.int v) ∧ o = [.ow true (ns'.map .int), .un]
abbrev spDr : PSp := mkSp (fun (a : ADr) args => args = [.ow true (a.ns.map .int), .fz (.int a.m)]) postDr noEx
section
variable {P : Program} {w : World} {K : PySem.W.Frag} {mg : Str → Option Value} {base : Heap} {C_BadCount C_BadNumber C_BadTable C_ReelError : Addr} {f : Addr} {fd : FuncData}
theorem ok__law_draw (T : Txt K mg C_BadCount C_BadNumber C_BadTable C_ReelError) (Fn : Fun K "_law_draw" "_law_draw" s__law_draw f fd) : FnOk P w K mg base (L2.CX P w) 1 f fd [("pool" : Str), ("many" : Str)] (spM K spDr) :=
  Fn.M sc__law_draw (fun a args h => by rw [show args = _ from h]; rfl) (fun cdv A outer s H E hr => d__law_draw T hr) (fun a args h => by
    rw [show args = _ from h]
    exact p__law_draw a.hm a.hp fun v ns' o h1 h2 h3 => ⟨v, ns', h1, h2, h3, rfl, rfl⟩)
theorem ok__law_is_int (T : Txt K mg C_BadCount C_BadNumber C_BadTable C_ReelError) (Fn : Fun K "_law_is_int" "_law_is_int" s__law_is_int f fd) : FnOk P w K mg base (L2.CX P w) 1 f fd [("told" : Str)] (spM K spIsInt) :=
  Fn.M sc__law_is_int (fun a args h => by rw [show args = _ from h]; rfl) (fun cdv A outer s H E hr => d__law_is_int T hr) (fun a args h => by
    rw [show args = _ from h]
    exact p__law_is_int a.2 ⟨rfl, rfl⟩)
end
end K12
set_option Elab.async false
set_option linter.all false
set_option maxRecDepth 100000
set_option maxHeartbeats 4000000
namespace K12
open PySem PySem.Spec PyProof.Rows L2 PW
/-! ### _turn_way -/
/-- a row of partners is turned along the way -/
def turn (came : List (Option Nat)) : Nat → List (Option Nat) → List (Option Nat) → Option Nat → Option (List (Option Nat) × List (Option Nat))
  | _, P, O, none => some (P, O)
  | 0, _, _, some _ => none
  | k + 1, P, O, some c => match came[c]? with
    | some (some r) => match P[r]? with
      | some b => if c < O.length then turn came k (P.set r (some c)) (O.set c (some r)) b else none
      | none => none
    | _ => none
theorem p__turn_way {came P O P' O' : List (Option Nat)} {last k : Nat} (h : turn came k P O (some last) = some (P', O')) {Z : PEnds}
    (q : ∀ o4 o5 o6, Z.nx [.ow true (oL P'), .ow true (oL O'), .fz (.lst (oL came)), .fz (.int last), o4, o5, o6]) :
    b__turn_way Z [.ow true (oL P), .ow true (oL O), .fz (.lst (oL came)), .fz (.int last), .un, .un, .un] := by
  unfold b__turn_way
  simp only [pSeq, pNext, pIf, pAsg, pRet, pRetN, pDrop, pFor, pForV, pAsgG, pAug, pSetIx, pBrk, pCnt, pFz, pFr, pIn, pVar, pArg, pMv, pC, pCons, pNil, p2, pB, pBl, pCB, ress, res, rv_non, rv_bl, rv_int, rv_str, rv_ty, rv_lst, rv_tup, rv_rls, rv_xr, rv_nc, noCe, stO, true_and, and_true, Bool.not_false, Bool.not_true, rv_oD, isNon_oD, gtN, gtsCons, gtsNil, pNot, pOr, pAnd, pVal, pTru, pNeg, pNotV, pAndV, pOrV, pIfE, pDisp, allInl, pCut, pNoPt, pPt, pSeqSrc, pEnum, enSrc, pRng1, rOf1, pRng2, rOf2, owAt, pApp, pPopAt, pPop, pClear, pLc, pLcV, pYes, noOw, wipeE, restE, rst, pRaise, resL, pCall, argsOf, argO, refIx, wbC, wb, wb1, outsOf, outP, List.getElem?_cons_zero, List.getElem?_cons_succ, List.getElem?_nil, List.set_cons_zero, List.set_cons_succ, List.length_cons, List.length_nil, List.cons_append, List.nil_append, List.append_nil, List.drop_succ_cons, List.drop_zero, List.drop_nil, List.replicate_zero, List.replicate_succ, List.getD_cons_zero, List.getD_cons_succ, Nat.reduceSub, Nat.reduceAdd, Nat.sub_self, if_true, if_false, Bool.false_eq_true, q_frz1, q_frz2, q_stR1, q_stR2, q_free1, q_free2, q_free3, q_isN1, q_isN2, q_fIsN, q_fCI, q_fI, q_fI0, q_add1, q_add2, q_add3, q_mul1, q_mul2, q_isBl, q_isInt, q_seq1, q_seq2, q_seq3, q_len1, q_len2, q_len3, q_int1, q_abs, q_two, q_list1, q_list2, q_tuple1, q_tuple2, q_tru1, q_tru2, q_rs1, q_rs2, q_cut1, q_cut2, q_cut3, q_gtT]
  refine ⟨fun m e => ∃ P1 O1 col o5 o6, e = [.ow true (oL P1), .ow true (oL O1), .fz (.lst (oL came)), .fz (.int last), .fz (oD col), o5, o6] ∧ freeO o5 ∧ freeO o6 ∧ turn came m P1 O1 col = some (P', O'), ⟨k, P, O, some last, .un, .un, rfl, trivial, trivial, h⟩, ?_⟩
  rintro m e ⟨P1, O1, col, o5, o6, rfl, h5, h6, ht⟩
  simp only [pSeq, pNext, pIf, pAsg, pRet, pRetN, pDrop, pFor, pForV, pAsgG, pAug, pSetIx, pBrk, pCnt, pFz, pFr, pIn, pVar, pArg, pMv, pC, pCons, pNil, p2, pB, pBl, pCB, ress, res, rv_non, rv_bl, rv_int, rv_str, rv_ty, rv_lst, rv_tup, rv_rls, rv_xr, rv_nc, noCe, stO, true_and, and_true, Bool.not_false, Bool.not_true, rv_oD, isNon_oD, gtN, gtsCons, gtsNil, pNot, pOr, pAnd, pVal, pTru, pNeg, pNotV, pAndV, pOrV, pIfE, pDisp, allInl, pCut, pNoPt, pPt, pSeqSrc, pEnum, enSrc, pRng1, rOf1, pRng2, rOf2, owAt, pApp, pPopAt, pPop, pClear, pLc, pLcV, pYes, noOw, wipeE, restE, rst, pRaise, resL, pCall, argsOf, argO, refIx, wbC, wb, wb1, outsOf, outP, List.getElem?_cons_zero, List.getElem?_cons_succ, List.getElem?_nil, List.set_cons_zero, List.set_cons_succ, List.length_cons, List.length_nil, List.cons_append, List.nil_append, List.append_nil, List.drop_succ_cons, List.drop_zero, List.drop_nil, List.replicate_zero, List.replicate_succ, List.getD_cons_zero, List.getD_cons_succ, Nat.reduceSub, Nat.reduceAdd, Nat.sub_self, if_true, if_false, Bool.false_eq_true, q_frz1, q_frz2, q_stR1, q_stR2, q_free1, q_free2, q_free3, q_isN1, q_isN2, q_fIsN, q_fCI, q_fI, q_fI0, q_add1, q_add2, q_add3, q_mul1, q_mul2, q_isBl, q_isInt, q_seq1, q_seq2, q_seq3, q_len1, q_len2, q_len3, q_int1, q_abs, q_two, q_list1, q_list2, q_tuple1, q_tuple2, q_tru1, q_tru2, q_rs1, q_rs2, q_cut1, q_cut2, q_cut3, q_gtT, h5, h6]
  cases col with
  | none =>
    simp only [Option.isNone_none, Bool.not_true, Bool.false_eq_true, if_false]
    cases m <;> (unfold turn at ht; cases ht; exact q _ _ _)
  | some c =>
    simp only [Option.isNone_some, Bool.not_false, if_true]
    cases m with
    | zero => cases ht
    | succ m =>
      unfold turn at ht
      cases hc : came[c]? with
      | none => rw [hc] at ht; cases ht
      | some r' =>
        cases r' with
        | none => rw [hc] at ht; cases ht
        | some r =>
          rw [hc] at ht
          dsimp only at ht
          cases hb : P1[r]? with
          | none => rw [hb] at ht; cases ht
          | some b =>
            rw [hb] at ht
            dsimp only at ht
            split at ht
            · rename_i hlt
              have lr : r < P1.length := (List.getElem?_eq_some_iff.mp hb).1
              simp only [oD_some]
              rw [fIx_oL hc]
              simp only [pSeq, pNext, pIf, pAsg, pRet, pRetN, pDrop, pFor, pForV, pAsgG, pAug, pSetIx, pBrk, pCnt, pFz, pFr, pIn, pVar, pArg, pMv, pC, pCons, pNil, p2, pB, pBl, pCB, ress, res, rv_non, rv_bl, rv_int, rv_str, rv_ty, rv_lst, rv_tup, rv_rls, rv_xr, rv_nc, noCe, stO, true_and, and_true, Bool.not_false, Bool.not_true, rv_oD, isNon_oD, gtN, gtsCons, gtsNil, pNot, pOr, pAnd, pVal, pTru, pNeg, pNotV, pAndV, pOrV, pIfE, pDisp, allInl, pCut, pNoPt, pPt, pSeqSrc, pEnum, enSrc, pRng1, rOf1, pRng2, rOf2, owAt, pApp, pPopAt, pPop, pClear, pLc, pLcV, pYes, noOw, wipeE, restE, rst, pRaise, resL, pCall, argsOf, argO, refIx, wbC, wb, wb1, outsOf, outP, List.getElem?_cons_zero, List.getElem?_cons_succ, List.getElem?_nil, List.set_cons_zero, List.set_cons_succ, List.length_cons, List.length_nil, List.cons_append, List.nil_append, List.append_nil, List.drop_succ_cons, List.drop_zero, List.drop_nil, List.replicate_zero, List.replicate_succ, List.getD_cons_zero, List.getD_cons_succ, Nat.reduceSub, Nat.reduceAdd, Nat.sub_self, if_true, if_false, Bool.false_eq_true, q_frz1, q_frz2, q_stR1, q_stR2, q_free1, q_free2, q_free3, q_isN1, q_isN2, q_fIsN, q_fCI, q_fI, q_fI0, q_add1, q_add2, q_add3, q_mul1, q_mul2, q_isBl, q_isInt, q_seq1, q_seq2, q_seq3, q_len1, q_len2, q_len3, q_int1, q_abs, q_two, q_list1, q_list2, q_tuple1, q_tuple2, q_tru1, q_tru2, q_rs1, q_rs2, q_cut1, q_cut2, q_cut3, q_gtT, oD_some, h6]
              rw [fIx_oL hb]
              simp only [pSeq, pNext, pIf, pAsg, pRet, pRetN, pDrop, pFor, pForV, pAsgG, pAug, pSetIx, pBrk, pCnt, pFz, pFr, pIn, pVar, pArg, pMv, pC, pCons, pNil, p2, pB, pBl, pCB, ress, res, rv_non, rv_bl, rv_int, rv_str, rv_ty, rv_lst, rv_tup, rv_rls, rv_xr, rv_nc, noCe, stO, true_and, and_true, Bool.not_false, Bool.not_true, rv_oD, isNon_oD, gtN, gtsCons, gtsNil, pNot, pOr, pAnd, pVal, pTru, pNeg, pNotV, pAndV, pOrV, pIfE, pDisp, allInl, pCut, pNoPt, pPt, pSeqSrc, pEnum, enSrc, pRng1, rOf1, pRng2, rOf2, owAt, pApp, pPopAt, pPop, pClear, pLc, pLcV, pYes, noOw, wipeE, restE, rst, pRaise, resL, pCall, argsOf, argO, refIx, wbC, wb, wb1, outsOf, outP, List.getElem?_cons_zero, List.getElem?_cons_succ, List.getElem?_nil, List.set_cons_zero, List.set_cons_succ, List.length_cons, List.length_nil, List.cons_append, List.nil_append, List.append_nil, List.drop_succ_cons, List.drop_zero, List.drop_nil, List.replicate_zero, List.replicate_succ, List.getD_cons_zero, List.getD_cons_succ, Nat.reduceSub, Nat.reduceAdd, Nat.sub_self, if_true, if_false, Bool.false_eq_true, q_frz1, q_frz2, q_stR1, q_stR2, q_free1, q_free2, q_free3, q_isN1, q_isN2, q_fIsN, q_fCI, q_fI, q_fI0, q_add1, q_add2, q_add3, q_mul1, q_mul2, q_isBl, q_isInt, q_seq1, q_seq2, q_seq3, q_len1, q_len2, q_len3, q_int1, q_abs, q_two, q_list1, q_list2, q_tuple1, q_tuple2, q_tru1, q_tru2, q_rs1, q_rs2, q_cut1, q_cut2, q_cut3, q_gtT, oD_some]
              refine ⟨r, ixN_nat (by simpa using lr), c, ixN_nat (by simpa using hlt), m, Nat.lt_succ_self _, _, _, b, .fz (.int (r : Int)), .fz (oD b), ?_, trivial, trivial, ht⟩
              rw [← oD_some (c := c), ← oD_some (c := r), oL_set, oL_set]
            · cases ht
end K12
set_option Elab.async false
set_option linter.all false
namespace K12
/-! ### matchings -/
structure Mat (R : List (List Nat)) (m : Nat) (P O : List (Option Nat)) : Prop where
  lp : P.length = R.length
  lo : O.length = m
  po : ∀ (r c : Nat), P[r]? = some (some c) → O[c]? = some (some r)
  op : ∀ (r c : Nat), O[c]? = some (some r) → P[r]? = some (some c)
  ad : ∀ (r c : Nat), P[r]? = some (some c) → ∃ row, R[r]? = some row ∧ c ∈ row
def Closed (R : List (List Nat)) (O : List (Option Nat)) (S : Nat → Prop) : Prop := ∀ (r : Nat) (row : List Nat) (c : Nat), S r → R[r]? = some row → c ∈ row → ∃ r', S r' ∧ O[c]? = some (some r')
structure Way (R : List (List Nat)) (P came : List (Option Nat)) (start : Nat) (rank : Nat → Nat) : Prop where
  ad : ∀ (c r : Nat), came[c]? = some (some r) → ∃ row, R[r]? = some row ∧ c ∈ row
  bk : ∀ (c r : Nat), came[c]? = some (some r) → (P[r]? = some none ∧ r = start) ∨ ∃ b r2 : Nat, P[r]? = some (some b) ∧ came[b]? = some (some r2) ∧ rank r2 < rank r
theorem gset {α : Type} {l : List α} {i j : Nat} {a : α} (h : i < l.length) : (l.set i a)[j]? = if i = j then some a else l[j]? := by
  rw [List.getElem?_set]
  by_cases z : i = j
  · subst z; simp [h]
  · simp [z]
theorem turn_go {R : List (List Nat)} {m : Nat} {P O came : List (Option Nat)} {start : Nat} {rank : Nat → Nat} (M : Mat R m P O) (Wy : Way R P came start rank) :
    ∀ (n : Nat) (P1 O1 : List (Option Nat)) (c r : Nat), rank r = n → P1.length = R.length → O1.length = m → c < m → came[c]? = some (some r) → (∀ r' : Nat, rank r' ≤ rank r → P1[r']? = P[r']?) →
      (∀ r' c' : Nat, P1[r']? = some (some c') → c' ≠ c ∧ O1[c']? = some (some r')) → (∀ r' c' : Nat, c' ≠ c → O1[c']? = some (some r') → P1[r']? = some (some c')) →
      (∀ r' c' : Nat, P1[r']? = some (some c') → ∃ row, R[r']? = some row ∧ c' ∈ row) →
      (∀ S, Closed R O S → (∀ r', S r' → O[c]? ≠ some (some r')) ∧ ∀ c' r' : Nat, S r' → O[c']? = some (some r') → O1[c']? = some (some r')) → (∀ r' : Nat, P1[r']? = some none ↔ P[r']? = some none) →
      ∃ k P' O', turn came k P1 O1 (some c) = some (P', O') ∧ Mat R m P' O' ∧ (∀ S, Closed R O S → Closed R O' S) ∧ (∀ r' : Nat, r' ≠ start → (P'[r']? = some none ↔ P[r']? = some none)) ∧ P'[start]? ≠ some none := by
  intro n
  induction n using Nat.strongRecOn with
  | _ n ih =>
    intro P1 O1 c r hn l1 l2 hc hcame same po op ad cl un
    obtain ⟨row, hrow, hcr⟩ := Wy.ad c r hcame
    have hr : r < P1.length := by rw [l1]; exact (List.getElem?_eq_some_iff.mp hrow).1
    have hcl : c < O1.length := by omega
    have notS : ∀ S, Closed R O S → ¬ S r := fun S hS hSr => by
      obtain ⟨r', h1, h2⟩ := hS r row c hSr hrow hcr
      exact (cl S hS).1 r' h1 h2
    rcases Wy.bk c r hcame with ⟨h1, rfl⟩ | ⟨b, r2, h1, h2, h3⟩
    · have hP1 : P1[r]? = some none := by rw [same r (Nat.le_refl _)]; exact h1
      refine ⟨1, P1.set r (some c), O1.set c (some r), ?_, ⟨by simp [l1], by simp [l2], fun r' c' h => ?_, fun r' c' h => ?_, fun r' c' h => ?_⟩, fun S hS r1 row1 c' hs hr1 hc' => ?_, fun r' hne => ?_, ?_⟩
      · simp [turn, hcame, hP1, hcl]
      · rw [gset hr] at h
        rw [gset hcl]
        by_cases z : r = r'
        · subst z
          rw [if_pos rfl] at h; cases h
          rw [if_pos rfl]
        · rw [if_neg z] at h
          obtain ⟨q1, q2⟩ := po r' c' h
          rw [if_neg (Ne.symm q1)]; exact q2
      · rw [gset hcl] at h
        rw [gset hr]
        by_cases z : c = c'
        · subst z
          rw [if_pos rfl] at h; cases h
          rw [if_pos rfl]
        · rw [if_neg z] at h
          have q := op r' c' (Ne.symm z) h
          have : r ≠ r' := fun e => by subst e; rw [hP1] at q; cases q
          rw [if_neg this]; exact q
      · rw [gset hr] at h
        by_cases z : r = r'
        · subst z
          rw [if_pos rfl] at h; cases h
          exact ⟨row, hrow, hcr⟩
        · rw [if_neg z] at h; exact ad r' c' h
      · obtain ⟨r', q1, q2⟩ := hS r1 row1 c' hs hr1 hc'
        have : c ≠ c' := fun e => by subst e; exact (cl S hS).1 r' q1 q2
        exact ⟨r', q1, by rw [gset hcl, if_neg this]; exact (cl S hS).2 c' r' q1 q2⟩
      · rw [gset hr, if_neg (Ne.symm hne)]; exact un r'
      · rw [gset hr, if_pos rfl]; simp
    · have hP1 : P1[r]? = some (some b) := by rw [same r (Nat.le_refl _)]; exact h1
      obtain ⟨hbc, hOb⟩ := po r b hP1
      have hb : b < m := by rw [← l2]; exact (List.getElem?_eq_some_iff.mp hOb).1
      have conv : (∃ k P' O', turn came k (P1.set r (some c)) (O1.set c (some r)) (some b) = some (P', O') ∧ Mat R m P' O' ∧ (∀ S, Closed R O S → Closed R O' S) ∧ (∀ r' : Nat, r' ≠ start → (P'[r']? = some none ↔ P[r']? = some none)) ∧ P'[start]? ≠ some none) → (∃ k P' O', turn came k P1 O1 (some c) = some (P', O') ∧ Mat R m P' O' ∧ (∀ S, Closed R O S → Closed R O' S) ∧ (∀ r' : Nat, r' ≠ start → (P'[r']? = some none ↔ P[r']? = some none)) ∧ P'[start]? ≠ some none) := by
        rintro ⟨k, P', O', t1, t2⟩
        exact ⟨k + 1, P', O', by simpa [turn, hcame, hP1, hcl] using t1, t2⟩
      refine conv (ih (rank r2) (by omega) (P1.set r (some c)) (O1.set c (some r)) b r2 rfl (by simp [l1]) (by simp [l2]) hb h2 (fun r' h => ?_) (fun r' c' h => ?_) (fun r' c' hne h => ?_) (fun r' c' h => ?_) (fun S hS => ⟨fun r' hs e => ?_, fun c' r' hs e => ?_⟩) (fun r' => ?_))
      · have : r ≠ r' := fun e => by subst e; omega
        rw [gset hr, if_neg this]; exact same r' (by omega)
      · rw [gset hr] at h
        rw [gset hcl]
        by_cases z : r = r'
        · subst z
          rw [if_pos rfl] at h; cases h
          exact ⟨Ne.symm hbc, by rw [if_pos rfl]⟩
        · rw [if_neg z] at h
          obtain ⟨q1, q2⟩ := po r' c' h
          refine ⟨fun e => ?_, by rw [if_neg (Ne.symm q1)]; exact q2⟩
          subst e
          rw [hOb] at q2; cases q2; exact z rfl
      · rw [gset hcl] at h
        rw [gset hr]
        by_cases z : c = c'
        · subst z
          rw [if_pos rfl] at h; cases h
          rw [if_pos rfl]
        · rw [if_neg z] at h
          have q := op r' c' (Ne.symm z) h
          have : r ≠ r' := fun e => by subst e; rw [hP1] at q; cases q; exact hne rfl
          rw [if_neg this]; exact q
      · rw [gset hr] at h
        by_cases z : r = r'
        · subst z
          rw [if_pos rfl] at h; cases h
          exact ⟨row, hrow, hcr⟩
        · rw [if_neg z] at h; exact ad r' c' h
      · rw [M.po r b h1] at e; cases e; exact notS S hS hs
      · have : c ≠ c' := fun e' => by subst e'; exact (cl S hS).1 r' hs e
        rw [gset hcl, if_neg this]; exact (cl S hS).2 c' r' hs e
      · rw [gset hr]
        by_cases z : r = r'
        · subst z
          rw [if_pos rfl, h1]; simp
        · rw [if_neg z]; exact un r'
theorem turn_ok {R : List (List Nat)} {m : Nat} {P O came : List (Option Nat)} {start : Nat} {rank : Nat → Nat} (M : Mat R m P O) (Wy : Way R P came start rank) {c r : Nat} (hc : c < m) (h0 : O[c]? = some none) (hcame : came[c]? = some (some r)) :
    ∃ k P' O', turn came k P O (some c) = some (P', O') ∧ Mat R m P' O' ∧ (∀ S, Closed R O S → Closed R O' S) ∧ (∀ r' : Nat, r' ≠ start → (P'[r']? = some none ↔ P[r']? = some none)) ∧ P'[start]? ≠ some none :=
  turn_go M Wy _ P O c r rfl M.lp M.lo hc hcame (fun _ _ => rfl) (fun r' c' h => ⟨(fun e => by subst e; rw [M.po r' _ h] at h0; cases h0), M.po r' c' h⟩) (fun r' c' _ h => M.op r' c' h) (fun r' c' h => M.ad r' c' h)
    (fun S hS => ⟨(fun r' _ e => by rw [h0] at e; cases e), fun c' r' _ e => e⟩) (fun _ => Iff.rfl)
end K12
set_option Elab.async false
set_option linter.all false
set_option maxRecDepth 100000
set_option maxHeartbeats 4000000
namespace K12
open PySem PySem.Spec PyProof.Rows L2 PW
/-! ### tables by data -/
abbrev nL (l : List Nat) : List D := l.map fun (n : Nat) => D.int (n : Int)
theorem nL_get {l : List Nat} {i x : Nat} (h : l[i]? = some x) : (nL l)[i]? = some (.int (x : Int)) := by rw [List.getElem?_map, h]; rfl
theorem fIx_nL {l : List Nat} {i x : Nat} (h : l[i]? = some x) {Q : PW.O → Prop} : fIx (.lst (nL l)) (.int (i : Int)) Q ↔ Q (.fz (.int (x : Int))) := fIx_seq rfl (nL_get h)
structure TabD (d : D) (R : List (List Nat)) : Prop where
  ex : ∃ xs, seqOf d = some xs ∧ xs.length = R.length ∧ ∀ (r : Nat) (row : List Nat), R[r]? = some row → ∃ x, xs[r]? = some x ∧ seqOf x = some (nL row)
/-- the entries are columns -/
def Ent (R : List (List Nat)) (m : Nat) : Prop := ∀ (r : Nat) (row : List Nat), R[r]? = some row → ∀ c ∈ row, c < m
structure Bfs (R : List (List Nat)) (m : Nat) (P O : List (Option Nat)) (start : Nat) (came : List (Option Nat)) (q : List Nat) (a : Nat) : Prop where
  lc : came.length = m
  q0 : q[0]? = some start
  qlt : ∀ r ∈ q, r < R.length
  al : a ≤ q.length
  own : ∀ (j r : Nat), 0 < j → q[j]? = some r → ∃ b r2 j2 : Nat, P[r]? = some (some b) ∧ came[b]? = some (some r2) ∧ q[j2]? = some r2 ∧ j2 < j
  cm : ∀ (c r : Nat), came[c]? = some (some r) → (∃ row, R[r]? = some row ∧ c ∈ row) ∧ r ∈ q
  ow : ∀ (c r : Nat), came[c]? = some (some r) → ∃ r' : Nat, O[c]? = some (some r') ∧ r' ∈ q
  dn : ∀ (j r : Nat) (row : List Nat) (c : Nat), j < a → q[j]? = some r → R[r]? = some row → c ∈ row → ∃ x, came[c]? = some (some x)
def cnt (l : List (Option Nat)) : Nat := l.countP Option.isNone
theorem cnt_set {l : List (Option Nat)} {c r : Nat} (h : l[c]? = some none) : cnt (l.set c (some r)) + 1 = cnt l := by
  unfold cnt
  induction l generalizing c with
  | nil => simp at h
  | cons x l ih =>
    cases c with
    | zero => simp at h; subst h; simp
    | succ c =>
      have := ih (c := c) (by simpa using h)
      simp only [List.set_cons_succ, List.countP_cons]
      omega
/-- one column is reached -/
theorem Bfs.reach {R : List (List Nat)} {m : Nat} {P O came : List (Option Nat)} {start a : Nat} {q : List Nat} (B : Bfs R m P O start came q a) (M : Mat R m P O) {c r r' : Nat} {row : List Nat} (hr : R[r]? = some row) (hc : c ∈ row) (hq : ∃ j, j ≤ a ∧ q[j]? = some r)
    (hn : came[c]? = some none) (ho : O[c]? = some (some r')) : Bfs R m P O start (came.set c (some r)) (q ++ [r']) a := by
  have hlt : c < came.length := (List.getElem?_eq_some_iff.mp hn).1
  obtain ⟨j, hj, hqj⟩ := hq
  have hjl : j < q.length := (List.getElem?_eq_some_iff.mp hqj).1
  have app : ∀ {i x : Nat}, q[i]? = some x → (q ++ [r'])[i]? = some x := fun {i x} h => by rw [List.getElem?_append_left (List.getElem?_eq_some_iff.mp h).1]; exact h
  have cs : ∀ {b x : Nat}, came[b]? = some (some x) → (came.set c (some r))[b]? = some (some x) := fun {b x} h => by
    rw [gset hlt]
    by_cases z : c = b
    · subst z; rw [hn] at h; cases h
    · rw [if_neg z]; exact h
  have q0l : 0 < q.length := (List.getElem?_eq_some_iff.mp B.q0).1
  have al := B.al
  refine ⟨by rw [List.length_set]; exact B.lc, app B.q0, fun x hx => ?_, by rw [List.length_append]; omega, fun i x hi h => ?_, fun b x h => ?_, fun b x h => ?_, fun i x row' b hi h h2 h3 => ?_⟩
  · rcases List.mem_append.mp hx with z | z
    · exact B.qlt x z
    · rw [List.mem_singleton] at z; subst z
      rw [← M.lp]; exact (List.getElem?_eq_some_iff.mp (M.op x c ho)).1
  · by_cases hi2 : i < q.length
    · rw [List.getElem?_append_left hi2] at h
      obtain ⟨b, r2, j2, h1, h2, h3, h4⟩ := B.own i x hi h
      exact ⟨b, r2, j2, h1, cs h2, app h3, h4⟩
    · rw [List.getElem?_append_right (by omega)] at h
      have : i - q.length = 0 := by
        have := (List.getElem?_eq_some_iff.mp h).1
        simp at this; omega
      rw [this] at h
      simp at h
      subst h
      exact ⟨c, r, j, M.op _ c ho, by rw [gset hlt, if_pos rfl], app hqj, by omega⟩
  · rw [gset hlt] at h
    by_cases z : c = b
    · subst z
      rw [if_pos rfl] at h; cases h
      exact ⟨⟨row, hr, hc⟩, List.mem_append_left _ (List.mem_of_getElem? hqj)⟩
    · rw [if_neg z] at h
      obtain ⟨h1, h2⟩ := B.cm b x h
      exact ⟨h1, List.mem_append_left _ h2⟩
  · rw [gset hlt] at h
    by_cases z : c = b
    · subst z
      exact ⟨r', ho, by simp⟩
    · rw [if_neg z] at h
      obtain ⟨y, h1, h2⟩ := B.ow b x h
      exact ⟨y, h1, List.mem_append_left _ h2⟩
  · by_cases hi2 : i < q.length
    · rw [List.getElem?_append_left hi2] at h
      obtain ⟨y, hy⟩ := B.dn i x row' b hi h h2 h3
      exact ⟨y, cs hy⟩
    · -- behind the queue's old end: a is within
      exfalso
      omega
/-- how the ranks lie -/
theorem idx_first {l : List Nat} {x i : Nat} (h : l[i]? = some x) : l.idxOf x ≤ i ∧ l[l.idxOf x]? = some x := by
  induction l generalizing i with
  | nil => simp at h
  | cons y l ih =>
    by_cases z : y = x
    · subst z
      simp [List.idxOf_cons_self]
    · have e : (y :: l).idxOf x = l.idxOf x + 1 := by rw [List.idxOf_cons, show (y == x) = false from by simpa using z]; rfl
      rw [e]
      cases i with
      | zero => simp at h; exact absurd h z
      | succ i =>
        obtain ⟨h1, h2⟩ := ih (i := i) (by simpa using h)
        exact ⟨by omega, by simpa using h2⟩
theorem Bfs.way {R : List (List Nat)} {m : Nat} {P O came : List (Option Nat)} {start a : Nat} {q : List Nat} (B : Bfs R m P O start came q a) (h0 : P[start]? = some none) : Way R P came start (q.idxOf ·) := by
  refine ⟨fun c r h => (B.cm c r h).1, fun c r h => ?_⟩
  obtain ⟨i, hi⟩ := List.mem_iff_getElem?.mp (B.cm c r h).2
  obtain ⟨h1, h2⟩ := idx_first hi
  by_cases z : q.idxOf r = 0
  · rw [z, B.q0] at h2
    cases h2
    exact .inl ⟨h0, rfl⟩
  · obtain ⟨b, r2, j2, k1, k2, k3, k4⟩ := B.own _ r (by omega) h2
    exact .inr ⟨b, r2, k1, k2, Nat.lt_of_le_of_lt (idx_first k3).1 k4⟩
/-- the column that is free ends a way -/
theorem Bfs.last {R : List (List Nat)} {m : Nat} {P O came : List (Option Nat)} {start a : Nat} {q : List Nat} (B : Bfs R m P O start came q a) (h0 : P[start]? = some none) {c r : Nat} {row : List Nat} (hr : R[r]? = some row) (hc : c ∈ row) (hq : r ∈ q) (hn : came[c]? = some none) : Way R P (came.set c (some r)) start (q.idxOf ·) := by
  have hlt : c < came.length := (List.getElem?_eq_some_iff.mp hn).1
  have W := B.way h0
  have cs : ∀ {b x : Nat}, came[b]? = some (some x) → (came.set c (some r))[b]? = some (some x) := fun {b x} h => by
    rw [gset hlt]
    by_cases z : c = b
    · subst z; rw [hn] at h; cases h
    · rw [if_neg z]; exact h
  refine ⟨fun b x h => ?_, fun b x h => ?_⟩
  · rw [gset hlt] at h
    by_cases z : c = b
    · subst z; rw [if_pos rfl] at h; cases h; exact ⟨row, hr, hc⟩
    · rw [if_neg z] at h; exact W.ad b x h
  · rw [gset hlt] at h
    by_cases z : c = b
    · subst z; rw [if_pos rfl] at h; cases h
      obtain ⟨i, hi⟩ := List.mem_iff_getElem?.mp hq
      obtain ⟨h1, h2⟩ := idx_first hi
      by_cases z : q.idxOf r = 0
      · rw [z, B.q0] at h2
        cases h2
        exact .inl ⟨h0, rfl⟩
      · obtain ⟨b, r2, j2, k1, k2, k3, k4⟩ := B.own _ r (by omega) h2
        exact .inr ⟨b, r2, k1, cs k2, Nat.lt_of_le_of_lt (idx_first k3).1 k4⟩
    · rw [if_neg z] at h
      rcases W.bk b x h with k | ⟨b', r2, k1, k2, k3⟩
      · exact .inl k
      · exact .inr ⟨b', r2, k1, cs k2, k3⟩
end K12
set_option Elab.async false
set_option linter.all false
set_option maxRecDepth 100000
set_option maxHeartbeats 4000000
namespace K12
open PySem PySem.Spec PyProof.Rows L2 PW
/-! ### _turn_way's promise -/
structure ATw where
  came : List (Option Nat)
  P : List (Option Nat)
  O : List (Option Nat)
  P' : List (Option Nat)
  O' : List (Option Nat)
  last : Nat
  k : Nat
  h : turn came k P O (some last) = some (P', O')
abbrev spTw : PSp := mkSp (fun (a : ATw) args => args = [.ow true (oL a.P), .ow true (oL a.O), .fz (.lst (oL a.came)), .fz (.int (a.last : Int))]) (fun a r o => r = .fz .non ∧ o = [.ow true (oL a.P'), .ow true (oL a.O'), .un, .un]) noEx
theorem rep_flat {α : Type} {n : Nat} {x : α} : (List.replicate n [x]).flatten = List.replicate n x := by
  induction n with
  | zero => rfl
  | succ n ih => rw [List.replicate_succ, List.flatten_cons, ih]; rfl
/-! ### _pair_row -/
theorem p__pair_row {d : D} {R : List (List Nat)} {m start : Nat} {P O : List (Option Nat)} (hd : TabD d R) (he : Ent R m) (M : Mat R m P O) (h0 : P[start]? = some none) (hsz : R.length ≤ 1000 ∧ m ≤ 1000) {Z : PEnds}
    (q : ∀ P' O' o4 o5 o6 o7 o8, Mat R m P' O' → (∀ S, Closed R O S → Closed R O' S) → (∀ r' : Nat, r' ≠ start → (P'[r']? = some none ↔ P[r']? = some none)) → (P'[start]? = some none → ∃ S, S start ∧ Closed R O' S) →
      (Z.nx [.fz d, .ow true (oL P'), .ow true (oL O'), .fz (.int (start : Int)), o4, o5, o6, o7, o8] ∧ Z.rt (.fz .non) [.fz d, .ow true (oL P'), .ow true (oL O'), .fz (.int (start : Int)), o4, o5, o6, o7, o8])) :
    b__pair_row spTw Z [.fz d, .ow true (oL P), .ow true (oL O), .fz (.int (start : Int)), .un, .un, .un, .un, .un] := by
  obtain ⟨xs, hxs, hlen, hrow⟩ := hd.ex
  have hrv : ∀ e, rv e d = d := fun e => seq_ne hxs
  have hs : start < R.length := by rw [← M.lp]; exact (List.getElem?_eq_some_iff.mp h0).1
  unfold b__pair_row
  simp only [pSeq, pNext, pIf, pAsg, pRet, pRetN, pDrop, pFor, pForV, pAsgG, pAug, pSetIx, pBrk, pCnt, pFz, pFr, pIn, pVar, pArg, pMv, pC, pCons, pNil, p2, pB, pBl, pCB, ress, res, rv_non, rv_bl, rv_int, rv_str, rv_ty, rv_lst, rv_tup, rv_rls, rv_xr, rv_nc, noCe, stO, true_and, and_true, Bool.not_false, Bool.not_true, rv_oD, isNon_oD, gtN, gtsCons, gtsNil, pNot, pOr, pAnd, pVal, pTru, pNeg, pNotV, pAndV, pOrV, pIfE, pDisp, allInl, pCut, pNoPt, pPt, pSeqSrc, pEnum, enSrc, pRng1, rOf1, pRng2, rOf2, owAt, pApp, pPopAt, pPop, pClear, pLc, pLcV, pYes, noOw, wipeE, restE, rst, pRaise, resL, pCall, argsOf, argO, refIx, wbC, wb, wb1, outsOf, outP, List.getElem?_cons_zero, List.getElem?_cons_succ, List.getElem?_nil, List.set_cons_zero, List.set_cons_succ, List.length_cons, List.length_nil, List.cons_append, List.nil_append, List.append_nil, List.drop_succ_cons, List.drop_zero, List.drop_nil, List.replicate_zero, List.replicate_succ, List.getD_cons_zero, List.getD_cons_succ, Nat.reduceSub, Nat.reduceAdd, Nat.sub_self, if_true, if_false, Bool.false_eq_true, q_frz1, q_frz2, q_stR1, q_stR2, q_free1, q_free2, q_free3, q_isN1, q_isN2, q_fIsN, q_fCI, q_fI, q_fI0, q_add1, q_add2, q_add3, q_mul1, q_mul2, q_isBl, q_isInt, q_seq1, q_seq2, q_seq3, q_len1, q_len2, q_len3, q_int1, q_abs, q_two, q_list1, q_list2, q_tuple1, q_tuple2, q_tru1, q_tru2, q_rs1, q_rs2, q_cut1, q_cut2, q_cut3, q_gtT, hrv]
  refine ⟨Nat.succ_le_of_lt (by decide), ⟨by omega, by simp [M.lo]; omega, by simp [M.lo, sizeLine_eq]; omega⟩, by simp [sizeLine_eq], ?_⟩
  have hlO : ((oL O).length : Int).toNat = m := by simp [M.lo]
  rw [hlO, rep_flat]
  have hms : (List.replicate m D.non) = oL (List.replicate m none) := by simp [oL, oD_none]
  rw [hms]
  refine ⟨fun μ e => ∃ (came : List (Option Nat)) (qq : List Nat) (a : Nat) (o7 o8 : PW.O), e = [.fz d, .ow true (oL P), .ow true (oL O), .fz (.int (start : Int)), .ow false (oL came), .ow false (nL qq), .fz (.int (a : Int)), o7, o8] ∧ freeO o7 ∧ freeO o8 ∧
    Bfs R m P O start came qq a ∧ cnt came + qq.length = m + 1 ∧ μ = cnt came + (qq.length - a), ⟨_, List.replicate m none, [start], 0, .un, .un, rfl, trivial, trivial, ?_, by simp [cnt, List.countP_replicate], rfl⟩, ?_⟩
  · have rn : ∀ (c r : Nat), (List.replicate m (none : Option Nat))[c]? ≠ some (some r) := fun c r h => by
      rw [List.getElem?_replicate] at h
      split at h <;> cases h
    exact ⟨by simp, rfl, fun r hr => by rw [List.mem_singleton] at hr; subst hr; exact hs, Nat.zero_le _, fun j r hj h => by
      cases j with
      | zero => omega
      | succ j => simp at h, fun c r h => absurd h (rn c r), fun c r h => absurd h (rn c r), fun j r row c hj => absurd hj (Nat.not_lt_zero _)⟩
  rintro μ e ⟨came, qq, a, o7, o8, rfl, h7, h8, B, hsum, rfl⟩
  simp only [pSeq, pNext, pIf, pAsg, pRet, pRetN, pDrop, pFor, pForV, pAsgG, pAug, pSetIx, pBrk, pCnt, pFz, pFr, pIn, pVar, pArg, pMv, pC, pCons, pNil, p2, pB, pBl, pCB, ress, res, rv_non, rv_bl, rv_int, rv_str, rv_ty, rv_lst, rv_tup, rv_rls, rv_xr, rv_nc, noCe, stO, true_and, and_true, Bool.not_false, Bool.not_true, rv_oD, isNon_oD, gtN, gtsCons, gtsNil, pNot, pOr, pAnd, pVal, pTru, pNeg, pNotV, pAndV, pOrV, pIfE, pDisp, allInl, pCut, pNoPt, pPt, pSeqSrc, pEnum, enSrc, pRng1, rOf1, pRng2, rOf2, owAt, pApp, pPopAt, pPop, pClear, pLc, pLcV, pYes, noOw, wipeE, restE, rst, pRaise, resL, pCall, argsOf, argO, refIx, wbC, wb, wb1, outsOf, outP, List.getElem?_cons_zero, List.getElem?_cons_succ, List.getElem?_nil, List.set_cons_zero, List.set_cons_succ, List.length_cons, List.length_nil, List.cons_append, List.nil_append, List.append_nil, List.drop_succ_cons, List.drop_zero, List.drop_nil, List.replicate_zero, List.replicate_succ, List.getD_cons_zero, List.getD_cons_succ, Nat.reduceSub, Nat.reduceAdd, Nat.sub_self, if_true, if_false, Bool.false_eq_true, q_frz1, q_frz2, q_stR1, q_stR2, q_free1, q_free2, q_free3, q_isN1, q_isN2, q_fIsN, q_fCI, q_fI, q_fI0, q_add1, q_add2, q_add3, q_mul1, q_mul2, q_isBl, q_isInt, q_seq1, q_seq2, q_seq3, q_len1, q_len2, q_len3, q_int1, q_abs, q_two, q_list1, q_list2, q_tuple1, q_tuple2, q_tru1, q_tru2, q_rs1, q_rs2, q_cut1, q_cut2, q_cut3, q_gtT, hrv, h7, h8]
  by_cases ha : a < qq.length
  · rw [if_pos (by simpa using ha)]
    obtain ⟨r, hra⟩ : ∃ r, qq[a]? = some r := ⟨_, List.getElem?_eq_getElem ha⟩
    have hrl : r < R.length := B.qlt r (List.mem_of_getElem? hra)
    obtain ⟨row, hR⟩ : ∃ row, R[r]? = some row := ⟨_, List.getElem?_eq_getElem hrl⟩
    obtain ⟨x, hx, hx2⟩ := hrow r row hR
    rw [fIx_nL hra]
    simp only [pSeq, pNext, pIf, pAsg, pRet, pRetN, pDrop, pFor, pForV, pAsgG, pAug, pSetIx, pBrk, pCnt, pFz, pFr, pIn, pVar, pArg, pMv, pC, pCons, pNil, p2, pB, pBl, pCB, ress, res, rv_non, rv_bl, rv_int, rv_str, rv_ty, rv_lst, rv_tup, rv_rls, rv_xr, rv_nc, noCe, stO, true_and, and_true, Bool.not_false, Bool.not_true, rv_oD, isNon_oD, gtN, gtsCons, gtsNil, pNot, pOr, pAnd, pVal, pTru, pNeg, pNotV, pAndV, pOrV, pIfE, pDisp, allInl, pCut, pNoPt, pPt, pSeqSrc, pEnum, enSrc, pRng1, rOf1, pRng2, rOf2, owAt, pApp, pPopAt, pPop, pClear, pLc, pLcV, pYes, noOw, wipeE, restE, rst, pRaise, resL, pCall, argsOf, argO, refIx, wbC, wb, wb1, outsOf, outP, List.getElem?_cons_zero, List.getElem?_cons_succ, List.getElem?_nil, List.set_cons_zero, List.set_cons_succ, List.length_cons, List.length_nil, List.cons_append, List.nil_append, List.append_nil, List.drop_succ_cons, List.drop_zero, List.drop_nil, List.replicate_zero, List.replicate_succ, List.getD_cons_zero, List.getD_cons_succ, Nat.reduceSub, Nat.reduceAdd, Nat.sub_self, if_true, if_false, Bool.false_eq_true, q_frz1, q_frz2, q_stR1, q_stR2, q_free1, q_free2, q_free3, q_isN1, q_isN2, q_fIsN, q_fCI, q_fI, q_fI0, q_add1, q_add2, q_add3, q_mul1, q_mul2, q_isBl, q_isInt, q_seq1, q_seq2, q_seq3, q_len1, q_len2, q_len3, q_int1, q_abs, q_two, q_list1, q_list2, q_tuple1, q_tuple2, q_tru1, q_tru2, q_rs1, q_rs2, q_cut1, q_cut2, q_cut3, q_gtT, hrv, h7, h8]
    rw [fIx_seq hxs hx]
    simp only [pSeq, pNext, pIf, pAsg, pRet, pRetN, pDrop, pFor, pForV, pAsgG, pAug, pSetIx, pBrk, pCnt, pFz, pFr, pIn, pVar, pArg, pMv, pC, pCons, pNil, p2, pB, pBl, pCB, ress, res, rv_non, rv_bl, rv_int, rv_str, rv_ty, rv_lst, rv_tup, rv_rls, rv_xr, rv_nc, noCe, stO, true_and, and_true, Bool.not_false, Bool.not_true, rv_oD, isNon_oD, gtN, gtsCons, gtsNil, pNot, pOr, pAnd, pVal, pTru, pNeg, pNotV, pAndV, pOrV, pIfE, pDisp, allInl, pCut, pNoPt, pPt, pSeqSrc, pEnum, enSrc, pRng1, rOf1, pRng2, rOf2, owAt, pApp, pPopAt, pPop, pClear, pLc, pLcV, pYes, noOw, wipeE, restE, rst, pRaise, resL, pCall, argsOf, argO, refIx, wbC, wb, wb1, outsOf, outP, List.getElem?_cons_zero, List.getElem?_cons_succ, List.getElem?_nil, List.set_cons_zero, List.set_cons_succ, List.length_cons, List.length_nil, List.cons_append, List.nil_append, List.append_nil, List.drop_succ_cons, List.drop_zero, List.drop_nil, List.replicate_zero, List.replicate_succ, List.getD_cons_zero, List.getD_cons_succ, Nat.reduceSub, Nat.reduceAdd, Nat.sub_self, if_true, if_false, Bool.false_eq_true, q_frz1, q_frz2, q_stR1, q_stR2, q_free1, q_free2, q_free3, q_isN1, q_isN2, q_fIsN, q_fCI, q_fI, q_fI0, q_add1, q_add2, q_add3, q_mul1, q_mul2, q_isBl, q_isInt, q_seq1, q_seq2, q_seq3, q_len1, q_len2, q_len3, q_int1, q_abs, q_two, q_list1, q_list2, q_tuple1, q_tuple2, q_tru1, q_tru2, q_rs1, q_rs2, q_cut1, q_cut2, q_cut3, q_gtT]
    rw [seqD_seq hx2]
    refine forGo_inv (fun i e => ∃ (cm2 : List (Option Nat)) (q2 : List Nat) (o8' : PW.O), e = [.fz d, .ow true (oL P), .ow true (oL O), .fz (.int (start : Int)), .ow false (oL cm2), .ow false (nL q2), .fz (.int ((a : Int) + 1)), .fz (.int (r : Int)), o8'] ∧ freeO o8' ∧
      Bfs R m P O start cm2 q2 a ∧ q2[a]? = some r ∧ (∀ j c : Nat, j < i → row[j]? = some c → ∃ y, cm2[c]? = some (some y)) ∧ cnt cm2 + (q2.length - (a + 1)) + 1 = cnt came + (qq.length - a)) (fun _ _ _ _ => trivial) ?_ ?_ ⟨came, qq, o8, rfl, h8, B, hra, fun j c hj => absurd hj (Nat.not_lt_zero _), by omega⟩
    · rintro i dd e Rk hdd ⟨cm2, q2, o8', rfl, h8', B2, hq2, hdone, hcnt⟩ hRk
      have ha2 : a < q2.length := (List.getElem?_eq_some_iff.mp hq2).1
      obtain ⟨c, hc, rfl⟩ : ∃ c : Nat, row[i]? = some c ∧ dd = .int (c : Int) := by
        rw [List.getElem?_map] at hdd
        cases z : row[i]? with
        | none => rw [z] at hdd; cases hdd
        | some c => rw [z] at hdd; cases hdd; exact ⟨c, rfl, rfl⟩
      have hcm : c ∈ row := List.mem_of_getElem? hc
      have hcl : c < m := he r row hR c hcm
      obtain ⟨y, hy⟩ : ∃ y, cm2[c]? = some y := ⟨_, List.getElem?_eq_getElem (by rw [B2.lc]; exact hcl)⟩
      obtain ⟨z, hz⟩ : ∃ z, O[c]? = some z := ⟨_, List.getElem?_eq_getElem (by rw [M.lo]; exact hcl)⟩
      simp only [pSeq, pNext, pIf, pAsg, pRet, pRetN, pDrop, pFor, pForV, pAsgG, pAug, pSetIx, pBrk, pCnt, pFz, pFr, pIn, pVar, pArg, pMv, pC, pCons, pNil, p2, pB, pBl, pCB, ress, res, rv_non, rv_bl, rv_int, rv_str, rv_ty, rv_lst, rv_tup, rv_rls, rv_xr, rv_nc, noCe, stO, true_and, and_true, Bool.not_false, Bool.not_true, rv_oD, isNon_oD, gtN, gtsCons, gtsNil, pNot, pOr, pAnd, pVal, pTru, pNeg, pNotV, pAndV, pOrV, pIfE, pDisp, allInl, pCut, pNoPt, pPt, pSeqSrc, pEnum, enSrc, pRng1, rOf1, pRng2, rOf2, owAt, pApp, pPopAt, pPop, pClear, pLc, pLcV, pYes, noOw, wipeE, restE, rst, pRaise, resL, pCall, argsOf, argO, refIx, wbC, wb, wb1, outsOf, outP, List.getElem?_cons_zero, List.getElem?_cons_succ, List.getElem?_nil, List.set_cons_zero, List.set_cons_succ, List.length_cons, List.length_nil, List.cons_append, List.nil_append, List.append_nil, List.drop_succ_cons, List.drop_zero, List.drop_nil, List.replicate_zero, List.replicate_succ, List.getD_cons_zero, List.getD_cons_succ, Nat.reduceSub, Nat.reduceAdd, Nat.sub_self, if_true, if_false, Bool.false_eq_true, q_frz1, q_frz2, q_stR1, q_stR2, q_free1, q_free2, q_free3, q_isN1, q_isN2, q_fIsN, q_fCI, q_fI, q_fI0, q_add1, q_add2, q_add3, q_mul1, q_mul2, q_isBl, q_isInt, q_seq1, q_seq2, q_seq3, q_len1, q_len2, q_len3, q_int1, q_abs, q_two, q_list1, q_list2, q_tuple1, q_tuple2, q_tru1, q_tru2, q_rs1, q_rs2, q_cut1, q_cut2, q_cut3, q_gtT, hrv, h8']
      rw [fIx_oL hy]
      simp only [pSeq, pNext, pIf, pAsg, pRet, pRetN, pDrop, pFor, pForV, pAsgG, pAug, pSetIx, pBrk, pCnt, pFz, pFr, pIn, pVar, pArg, pMv, pC, pCons, pNil, p2, pB, pBl, pCB, ress, res, rv_non, rv_bl, rv_int, rv_str, rv_ty, rv_lst, rv_tup, rv_rls, rv_xr, rv_nc, noCe, stO, true_and, and_true, Bool.not_false, Bool.not_true, rv_oD, isNon_oD, gtN, gtsCons, gtsNil, pNot, pOr, pAnd, pVal, pTru, pNeg, pNotV, pAndV, pOrV, pIfE, pDisp, allInl, pCut, pNoPt, pPt, pSeqSrc, pEnum, enSrc, pRng1, rOf1, pRng2, rOf2, owAt, pApp, pPopAt, pPop, pClear, pLc, pLcV, pYes, noOw, wipeE, restE, rst, pRaise, resL, pCall, argsOf, argO, refIx, wbC, wb, wb1, outsOf, outP, List.getElem?_cons_zero, List.getElem?_cons_succ, List.getElem?_nil, List.set_cons_zero, List.set_cons_succ, List.length_cons, List.length_nil, List.cons_append, List.nil_append, List.append_nil, List.drop_succ_cons, List.drop_zero, List.drop_nil, List.replicate_zero, List.replicate_succ, List.getD_cons_zero, List.getD_cons_succ, Nat.reduceSub, Nat.reduceAdd, Nat.sub_self, if_true, if_false, Bool.false_eq_true, q_frz1, q_frz2, q_stR1, q_stR2, q_free1, q_free2, q_free3, q_isN1, q_isN2, q_fIsN, q_fCI, q_fI, q_fI0, q_add1, q_add2, q_add3, q_mul1, q_mul2, q_isBl, q_isInt, q_seq1, q_seq2, q_seq3, q_len1, q_len2, q_len3, q_int1, q_abs, q_two, q_list1, q_list2, q_tuple1, q_tuple2, q_tru1, q_tru2, q_rs1, q_rs2, q_cut1, q_cut2, q_cut3, q_gtT]
      have dn2 : ∀ (l : List (Option Nat)), (∀ b x : Nat, cm2[b]? = some (some x) → ∃ x', l[b]? = some (some x')) → (∃ x', l[c]? = some (some x')) → ∀ j c' : Nat, j < i + 1 → row[j]? = some c' → ∃ y, l[c']? = some (some y) := fun l hl hlc j c' hj hjc => by
        by_cases e : j = i
        · subst e; rw [hc] at hjc; cases hjc; exact hlc
        · obtain ⟨x, hx⟩ := hdone j c' (by omega) hjc
          exact hl c' x hx
      cases y with
      | some y =>
        simp only [Option.isNone_some, Bool.false_eq_true, if_false]
        exact hRk _ ⟨cm2, q2, _, rfl, trivial, B2, hq2, dn2 cm2 (fun b x h => ⟨x, h⟩) ⟨y, hy⟩, hcnt⟩
      | none =>
        simp only [Option.isNone_none, if_true]
        refine ⟨c, ixN_nat (by simpa [B2.lc] using hcl), ?_⟩
        rw [fIx_oL hz]
        simp only [pSeq, pNext, pIf, pAsg, pRet, pRetN, pDrop, pFor, pForV, pAsgG, pAug, pSetIx, pBrk, pCnt, pFz, pFr, pIn, pVar, pArg, pMv, pC, pCons, pNil, p2, pB, pBl, pCB, ress, res, rv_non, rv_bl, rv_int, rv_str, rv_ty, rv_lst, rv_tup, rv_rls, rv_xr, rv_nc, noCe, stO, true_and, and_true, Bool.not_false, Bool.not_true, rv_oD, isNon_oD, gtN, gtsCons, gtsNil, pNot, pOr, pAnd, pVal, pTru, pNeg, pNotV, pAndV, pOrV, pIfE, pDisp, allInl, pCut, pNoPt, pPt, pSeqSrc, pEnum, enSrc, pRng1, rOf1, pRng2, rOf2, owAt, pApp, pPopAt, pPop, pClear, pLc, pLcV, pYes, noOw, wipeE, restE, rst, pRaise, resL, pCall, argsOf, argO, refIx, wbC, wb, wb1, outsOf, outP, List.getElem?_cons_zero, List.getElem?_cons_succ, List.getElem?_nil, List.set_cons_zero, List.set_cons_succ, List.length_cons, List.length_nil, List.cons_append, List.nil_append, List.append_nil, List.drop_succ_cons, List.drop_zero, List.drop_nil, List.replicate_zero, List.replicate_succ, List.getD_cons_zero, List.getD_cons_succ, Nat.reduceSub, Nat.reduceAdd, Nat.sub_self, if_true, if_false, Bool.false_eq_true, q_frz1, q_frz2, q_stR1, q_stR2, q_free1, q_free2, q_free3, q_isN1, q_isN2, q_fIsN, q_fCI, q_fI, q_fI0, q_add1, q_add2, q_add3, q_mul1, q_mul2, q_isBl, q_isInt, q_seq1, q_seq2, q_seq3, q_len1, q_len2, q_len3, q_int1, q_abs, q_two, q_list1, q_list2, q_tuple1, q_tuple2, q_tru1, q_tru2, q_rs1, q_rs2, q_cut1, q_cut2, q_cut3, q_gtT]
        have hset : (oL cm2).set c (D.int (r : Int)) = oL (cm2.set c (some r)) := by rw [← oD_some (c := r), oL_set]
        rw [hset]
        cases z with
        | none =>
          simp only [Option.isNone_none, if_true]
          obtain ⟨k, P', O', t1, t2, t3, t4, t5⟩ := turn_ok (came := cm2.set c (some r)) M (B2.last h0 hR hcm (List.mem_of_getElem? hq2) hy) hcl hz (by rw [gset (by rw [B2.lc]; exact hcl), if_pos rfl])
          refine callGo_mk _ (⟨cm2.set c (some r), P, O, P', O', c, k, t1⟩ : ATw) rfl (by simp [refIx]) rfl ?_ (fun _ _ h => h.elim)
          rintro ro outs ⟨rfl, rfl⟩
          simp only [pSeq, pNext, pIf, pAsg, pRet, pRetN, pDrop, pFor, pForV, pAsgG, pAug, pSetIx, pBrk, pCnt, pFz, pFr, pIn, pVar, pArg, pMv, pC, pCons, pNil, p2, pB, pBl, pCB, ress, res, rv_non, rv_bl, rv_int, rv_str, rv_ty, rv_lst, rv_tup, rv_rls, rv_xr, rv_nc, noCe, stO, true_and, and_true, Bool.not_false, Bool.not_true, rv_oD, isNon_oD, gtN, gtsCons, gtsNil, pNot, pOr, pAnd, pVal, pTru, pNeg, pNotV, pAndV, pOrV, pIfE, pDisp, allInl, pCut, pNoPt, pPt, pSeqSrc, pEnum, enSrc, pRng1, rOf1, pRng2, rOf2, owAt, pApp, pPopAt, pPop, pClear, pLc, pLcV, pYes, noOw, wipeE, restE, rst, pRaise, resL, pCall, argsOf, argO, refIx, wbC, wb, wb1, outsOf, outP, List.getElem?_cons_zero, List.getElem?_cons_succ, List.getElem?_nil, List.set_cons_zero, List.set_cons_succ, List.length_cons, List.length_nil, List.cons_append, List.nil_append, List.append_nil, List.drop_succ_cons, List.drop_zero, List.drop_nil, List.replicate_zero, List.replicate_succ, List.getD_cons_zero, List.getD_cons_succ, Nat.reduceSub, Nat.reduceAdd, Nat.sub_self, if_true, if_false, Bool.false_eq_true, q_frz1, q_frz2, q_stR1, q_stR2, q_free1, q_free2, q_free3, q_isN1, q_isN2, q_fIsN, q_fCI, q_fI, q_fI0, q_add1, q_add2, q_add3, q_mul1, q_mul2, q_isBl, q_isInt, q_seq1, q_seq2, q_seq3, q_len1, q_len2, q_len3, q_int1, q_abs, q_two, q_list1, q_list2, q_tuple1, q_tuple2, q_tru1, q_tru2, q_rs1, q_rs2, q_cut1, q_cut2, q_cut3, q_gtT]
          exact (q P' O' _ _ _ _ _ t2 t3 t4 (fun h => absurd h t5)).2
        | some r' =>
          simp only [Option.isNone_some, Bool.false_eq_true, if_false]
          rw [fIx_oL hz]
          simp only [pSeq, pNext, pIf, pAsg, pRet, pRetN, pDrop, pFor, pForV, pAsgG, pAug, pSetIx, pBrk, pCnt, pFz, pFr, pIn, pVar, pArg, pMv, pC, pCons, pNil, p2, pB, pBl, pCB, ress, res, rv_non, rv_bl, rv_int, rv_str, rv_ty, rv_lst, rv_tup, rv_rls, rv_xr, rv_nc, noCe, stO, true_and, and_true, Bool.not_false, Bool.not_true, rv_oD, isNon_oD, gtN, gtsCons, gtsNil, pNot, pOr, pAnd, pVal, pTru, pNeg, pNotV, pAndV, pOrV, pIfE, pDisp, allInl, pCut, pNoPt, pPt, pSeqSrc, pEnum, enSrc, pRng1, rOf1, pRng2, rOf2, owAt, pApp, pPopAt, pPop, pClear, pLc, pLcV, pYes, noOw, wipeE, restE, rst, pRaise, resL, pCall, argsOf, argO, refIx, wbC, wb, wb1, outsOf, outP, List.getElem?_cons_zero, List.getElem?_cons_succ, List.getElem?_nil, List.set_cons_zero, List.set_cons_succ, List.length_cons, List.length_nil, List.cons_append, List.nil_append, List.append_nil, List.drop_succ_cons, List.drop_zero, List.drop_nil, List.replicate_zero, List.replicate_succ, List.getD_cons_zero, List.getD_cons_succ, Nat.reduceSub, Nat.reduceAdd, Nat.sub_self, if_true, if_false, Bool.false_eq_true, q_frz1, q_frz2, q_stR1, q_stR2, q_free1, q_free2, q_free3, q_isN1, q_isN2, q_fIsN, q_fCI, q_fI, q_fI0, q_add1, q_add2, q_add3, q_mul1, q_mul2, q_isBl, q_isInt, q_seq1, q_seq2, q_seq3, q_len1, q_len2, q_len3, q_int1, q_abs, q_two, q_list1, q_list2, q_tuple1, q_tuple2, q_tru1, q_tru2, q_rs1, q_rs2, q_cut1, q_cut2, q_cut3, q_gtT, oD_some]
          have B3 := B2.reach M hR hcm ⟨a, Nat.le_refl _, hq2⟩ hy hz
          have hq3 : (q2 ++ [r'])[a]? = some r := by rw [List.getElem?_append_left ha2]; exact hq2
          have hcs := cnt_set (r := r) hy
          refine ⟨?_, hRk _ ⟨cm2.set c (some r), q2 ++ [r'], .fz (.int (c : Int)), by simp [nL], trivial, B3, hq3, dn2 _ (fun b x h => ?_) ⟨r, by rw [gset (by rw [B2.lc]; exact hcl), if_pos rfl]⟩, ?_⟩⟩
          · simp only [List.length_map, sizeLine_eq]
            omega
          · rw [gset (by rw [B2.lc]; exact hcl)]
            by_cases e : c = b
            · subst e; exact ⟨r, by rw [if_pos rfl]⟩
            · exact ⟨x, by rw [if_neg e]; exact h⟩
          · rw [List.length_append]; simp; omega
    · rintro e ⟨cm2, q2, o8', rfl, h8', B2, hq2, hdone, hcnt⟩
      have ha2 : a < q2.length := (List.getElem?_eq_some_iff.mp hq2).1
      refine ⟨_, ?_, cm2, q2, a + 1, .fz (.int (r : Int)), o8', by simp, trivial, h8', ⟨B2.lc, B2.q0, B2.qlt, ha2, B2.own, B2.cm, B2.ow, fun j r1 row1 c hj h1 h2 h3 => ?_⟩, by omega, rfl⟩
      · omega
      · by_cases e : j = a
        · subst e
          rw [hq2] at h1; cases h1
          rw [hR] at h2; cases h2
          obtain ⟨i, hi⟩ := List.mem_iff_getElem?.mp h3
          exact hdone i c (by simpa using (List.getElem?_eq_some_iff.mp hi).1) hi
        · exact B2.dn j r1 row1 c (by omega) h1 h2 h3
  · rw [if_neg (by simpa using ha)]
    have hal := B.al
    refine (q P O _ _ _ _ _ M (fun S h => h) (fun _ _ => Iff.rfl) fun _ => ⟨(· ∈ qq), List.mem_of_getElem? B.q0, fun r1 row1 c h1 h2 h3 => ?_⟩).1
    obtain ⟨j, hj⟩ := List.mem_iff_getElem?.mp h1
    obtain ⟨x, hx⟩ := B.dn j r1 row1 c (by have := (List.getElem?_eq_some_iff.mp hj).1; omega) hj h2 h3
    obtain ⟨r', k1, k2⟩ := B.ow c x hx
    exact ⟨r', k2, k1⟩
end K12
set_option Elab.async false
set_option linter.all false
set_option maxRecDepth 100000
set_option maxHeartbeats 4000000
namespace K12
open PySem PySem.Spec PyProof.Rows L2 PW
/-! ### promises of _turn_way and _pair_row -/
structure APr where
  d : D
  R : List (List Nat)
  m : Nat
  start : Nat
  P : List (Option Nat)
  O : List (Option Nat)
  hd : TabD d R
  he : Ent R m
  M : Mat R m P O
  h0 : P[start]? = some none
  hsz : R.length ≤ 1000 ∧ m ≤ 1000
def postPr (a : APr) (r : PW.O) (o : List PW.O) : Prop := ∃ P' O', Mat a.R a.m P' O' ∧ (∀ S, Closed a.R a.O S → Closed a.R O' S) ∧ (∀ r' : Nat, r' ≠ a.start → (P'[r']? = some none ↔ a.P[r']? = some none)) ∧ (P'[a.start]? = some none → ∃ S, S a.start ∧ Closed a.R O' S) ∧
  r = .fz .non ∧ o = [.un, .ow true (oL P'), .ow true (oL O'), .un]
abbrev spPr : PSp := mkSp (fun (a : APr) args => args = [.fz a.d, .ow true (oL a.P), .ow true (oL a.O), .fz (.int (a.start : Int))]) postPr noEx
section
variable {P : Program} {w : World} {K : PySem.W.Frag} {mg : Str → Option Value} {base : Heap} {C_BadCount C_BadNumber C_BadTable C_ReelError : Addr} {f : Addr} {fd : FuncData}
theorem ok__turn_way (T : Txt K mg C_BadCount C_BadNumber C_BadTable C_ReelError) (Fn : Fun K "_turn_way" "_turn_way" s__turn_way f fd) : FnOk P w K mg base (L2.CX P w) 1 f fd [("partners" : Str), ("owners" : Str), ("came" : Str), ("last" : Str)] (spM K spTw) :=
  Fn.M sc__turn_way (fun a args h => by rw [show args = _ from h]; rfl) (fun cdv A outer s H E hr => d__turn_way T hr) (fun a args h => by
    rw [show args = _ from h]
    exact p__turn_way a.h fun _ _ _ => ⟨rfl, rfl⟩)
theorem ok__pair_row (T : Txt K mg C_BadCount C_BadNumber C_BadTable C_ReelError) (c : CalD P w K mg base 1 "_turn_way" spTw) (Fn : Fun K "_pair_row" "_pair_row" s__pair_row f fd) : FnOk P w K mg base (L2.CX P w) 2 f fd [("rows" : Str), ("partners" : Str), ("owners" : Str), ("start" : Str)] (spM K spPr) :=
  Fn.M sc__pair_row (fun a args h => by rw [show args = _ from h]; rfl) (fun cdv A outer s H E hr => d__pair_row T c hr) (fun a args h => by
    rw [show args = _ from h]
    exact p__pair_row a.hd a.he a.M a.h0 a.hsz fun P' O' _ _ _ _ _ h1 h2 h3 h4 => ⟨⟨P', O', h1, h2, h3, h4, rfl, rfl⟩, ⟨P', O', h1, h2, h3, h4, rfl, rfl⟩⟩)
end
/-! ### paired -/
structure Best (R : List (List Nat)) (m : Nat) (P O : List (Option Nat)) : Prop where
  M : Mat R m P O
  cl : ∀ r : Nat, P[r]? = some none → ∃ S, S r ∧ Closed R O S
theorem p_paired {d : D} {R : List (List Nat)} {m : Nat} (hd : TabD d R) (he : Ent R m) (hsz : R.length ≤ 1000 ∧ m ≤ 1000) {Z : PEnds}
    (q : ∀ P O o2 o3 o4, Best R m P O → Z.rt (.ow false (oL P)) [.fz d, .fz (.int (m : Int)), o2, o3, o4]) : b_paired spPr Z [.fz d, .fz (.int (m : Int)), .un, .un, .un] := by
  obtain ⟨xs, hxs, hlen, hrow⟩ := hd.ex
  have hrv : ∀ e, rv e d = d := fun e => seq_ne hxs
  unfold b_paired
  simp only [pSeq, Option.map_some, Option.map_none, pNext, pIf, pAsg, pRet, pRetN, pDrop, pFor, pForV, pAsgG, pAug, pSetIx, pBrk, pCnt, pFz, pFr, pIn, pVar, pArg, pMv, pC, pCons, pNil, p2, pB, pBl, pCB, ress, res, rv_non, rv_bl, rv_int, rv_str, rv_ty, rv_lst, rv_tup, rv_rls, rv_xr, rv_nc, noCe, stO, true_and, and_true, Bool.not_false, Bool.not_true, rv_oD, isNon_oD, gtN, gtsCons, gtsNil, pNot, pOr, pAnd, pVal, pTru, pNeg, pNotV, pAndV, pOrV, pIfE, pDisp, allInl, pCut, pNoPt, pPt, pSeqSrc, pEnum, enSrc, pRng1, rOf1, pRng2, rOf2, owAt, pApp, pPopAt, pPop, pClear, pLc, pLcV, pYes, noOw, wipeE, restE, rst, pRaise, resL, pCall, argsOf, argO, refIx, wbC, wb, wb1, outsOf, outP, List.getElem?_cons_zero, List.getElem?_cons_succ, List.getElem?_nil, List.set_cons_zero, List.set_cons_succ, List.length_cons, List.length_nil, List.cons_append, List.nil_append, List.append_nil, List.drop_succ_cons, List.drop_zero, List.drop_nil, List.replicate_zero, List.replicate_succ, List.getD_cons_zero, List.getD_cons_succ, Nat.reduceSub, Nat.reduceAdd, Nat.sub_self, if_true, if_false, Bool.false_eq_true, q_frz1, q_frz2, q_stR1, q_stR2, q_free1, q_free2, q_free3, q_isN1, q_isN2, q_fIsN, q_fCI, q_fI, q_fI0, q_add1, q_add2, q_add3, q_mul1, q_mul2, q_isBl, q_isInt, q_seq1, q_seq2, q_seq3, q_len1, q_len2, q_len3, q_int1, q_abs, q_two, q_list1, q_list2, q_tuple1, q_tuple2, q_tru1, q_tru2, q_rs1, q_rs2, q_cut1, q_cut2, q_cut3, q_gtT, hrv, gLen_seq hxs]
  refine ⟨by simp [sizeLine_eq], ⟨by omega, by omega, by simp [sizeLine_eq]; omega⟩, by simp [sizeLine_eq], ⟨by omega, by omega, by simp [sizeLine_eq]; omega⟩, ⟨by omega, by omega⟩, ?_⟩
  have e1 : ((xs.length : Int)).toNat = R.length := by simp [hlen]
  have e2 : ((m : Int)).toNat = m := by simp
  have hms : ∀ n, (List.replicate n D.non) = oL (List.replicate n none) := fun n => by simp [oL, oD_none]
  rw [e1, e2, rep_flat, rep_flat, hms, hms]
  have rn : ∀ (n c r : Nat), (List.replicate n (none : Option Nat))[c]? ≠ some (some r) := fun n c r h => by
    rw [List.getElem?_replicate] at h
    split at h <;> cases h
  refine forGo_inv (fun i e => ∃ (P O : List (Option Nat)) (o4 : PW.O), e = [.fz d, .fz (.int (m : Int)), .ow false (oL P), .ow false (oL O), o4] ∧ freeO o4 ∧ Mat R m P O ∧ (∀ r : Nat, i ≤ r → r < R.length → P[r]? = some none) ∧ (∀ r : Nat, r < i → P[r]? = some none → ∃ S, S r ∧ Closed R O S))
    (fun _ _ _ _ => trivial) ?_ ?_ ⟨List.replicate R.length none, List.replicate m none, .un, rfl, trivial, ⟨by simp, by simp, fun r c h => absurd h (rn _ _ _), fun r c h => absurd h (rn _ _ _), fun r c h => absurd h (rn _ _ _)⟩, fun r _ h => by rw [List.getElem?_replicate, if_pos h], fun r h => absurd h (Nat.not_lt_zero _)⟩
  · rintro i dd e Rk hdd ⟨P, O, o4, rfl, h4, M, h1, h2⟩ hRk
    have hi : i < R.length := by
      have := (List.getElem?_eq_some_iff.mp hdd).1
      simpa [rngD] using this
    have hdd' : dd = .int (i : Int) := by
      simp [rngD, List.getElem?_map, List.getElem?_range hi] at hdd
      exact hdd.symm
    subst hdd'
    simp only [pSeq, Option.map_some, Option.map_none, pNext, pIf, pAsg, pRet, pRetN, pDrop, pFor, pForV, pAsgG, pAug, pSetIx, pBrk, pCnt, pFz, pFr, pIn, pVar, pArg, pMv, pC, pCons, pNil, p2, pB, pBl, pCB, ress, res, rv_non, rv_bl, rv_int, rv_str, rv_ty, rv_lst, rv_tup, rv_rls, rv_xr, rv_nc, noCe, stO, true_and, and_true, Bool.not_false, Bool.not_true, rv_oD, isNon_oD, gtN, gtsCons, gtsNil, pNot, pOr, pAnd, pVal, pTru, pNeg, pNotV, pAndV, pOrV, pIfE, pDisp, allInl, pCut, pNoPt, pPt, pSeqSrc, pEnum, enSrc, pRng1, rOf1, pRng2, rOf2, owAt, pApp, pPopAt, pPop, pClear, pLc, pLcV, pYes, noOw, wipeE, restE, rst, pRaise, resL, pCall, argsOf, argO, refIx, wbC, wb, wb1, outsOf, outP, List.getElem?_cons_zero, List.getElem?_cons_succ, List.getElem?_nil, List.set_cons_zero, List.set_cons_succ, List.length_cons, List.length_nil, List.cons_append, List.nil_append, List.append_nil, List.drop_succ_cons, List.drop_zero, List.drop_nil, List.replicate_zero, List.replicate_succ, List.getD_cons_zero, List.getD_cons_succ, Nat.reduceSub, Nat.reduceAdd, Nat.sub_self, if_true, if_false, Bool.false_eq_true, q_frz1, q_frz2, q_stR1, q_stR2, q_free1, q_free2, q_free3, q_isN1, q_isN2, q_fIsN, q_fCI, q_fI, q_fI0, q_add1, q_add2, q_add3, q_mul1, q_mul2, q_isBl, q_isInt, q_seq1, q_seq2, q_seq3, q_len1, q_len2, q_len3, q_int1, q_abs, q_two, q_list1, q_list2, q_tuple1, q_tuple2, q_tru1, q_tru2, q_rs1, q_rs2, q_cut1, q_cut2, q_cut3, q_gtT, hrv, h4]
    refine callGo_mk _ (⟨d, R, m, i, P, O, hd, he, M, h1 i (Nat.le_refl _) hi, hsz⟩ : APr) rfl (by simp [refIx]) rfl ?_ (fun _ _ h => h.elim)
    rintro ro outs ⟨P', O', t1, t2, t3, t4, rfl, rfl⟩
    simp only [pSeq, Option.map_some, Option.map_none, pNext, pIf, pAsg, pRet, pRetN, pDrop, pFor, pForV, pAsgG, pAug, pSetIx, pBrk, pCnt, pFz, pFr, pIn, pVar, pArg, pMv, pC, pCons, pNil, p2, pB, pBl, pCB, ress, res, rv_non, rv_bl, rv_int, rv_str, rv_ty, rv_lst, rv_tup, rv_rls, rv_xr, rv_nc, noCe, stO, true_and, and_true, Bool.not_false, Bool.not_true, rv_oD, isNon_oD, gtN, gtsCons, gtsNil, pNot, pOr, pAnd, pVal, pTru, pNeg, pNotV, pAndV, pOrV, pIfE, pDisp, allInl, pCut, pNoPt, pPt, pSeqSrc, pEnum, enSrc, pRng1, rOf1, pRng2, rOf2, owAt, pApp, pPopAt, pPop, pClear, pLc, pLcV, pYes, noOw, wipeE, restE, rst, pRaise, resL, pCall, argsOf, argO, refIx, wbC, wb, wb1, outsOf, outP, List.getElem?_cons_zero, List.getElem?_cons_succ, List.getElem?_nil, List.set_cons_zero, List.set_cons_succ, List.length_cons, List.length_nil, List.cons_append, List.nil_append, List.append_nil, List.drop_succ_cons, List.drop_zero, List.drop_nil, List.replicate_zero, List.replicate_succ, List.getD_cons_zero, List.getD_cons_succ, Nat.reduceSub, Nat.reduceAdd, Nat.sub_self, if_true, if_false, Bool.false_eq_true, q_frz1, q_frz2, q_stR1, q_stR2, q_free1, q_free2, q_free3, q_isN1, q_isN2, q_fIsN, q_fCI, q_fI, q_fI0, q_add1, q_add2, q_add3, q_mul1, q_mul2, q_isBl, q_isInt, q_seq1, q_seq2, q_seq3, q_len1, q_len2, q_len3, q_int1, q_abs, q_two, q_list1, q_list2, q_tuple1, q_tuple2, q_tru1, q_tru2, q_rs1, q_rs2, q_cut1, q_cut2, q_cut3, q_gtT]
    refine hRk _ ⟨P', O', _, rfl, trivial, t1, fun r h3 h5 => (t3 r (by show r ≠ i; omega)).mpr (h1 r (by omega) h5), fun r h3 h5 => ?_⟩
    by_cases z : r = i
    · subst z; exact t4 h5
    · obtain ⟨S, k1, k2⟩ := h2 r (by omega) ((t3 r z).mp h5)
      exact ⟨S, k1, t2 S k2⟩
  · rintro e ⟨P, O, o4, rfl, h4, M, h1, h2⟩
    simp only [pSeq, Option.map_some, Option.map_none, pNext, pIf, pAsg, pRet, pRetN, pDrop, pFor, pForV, pAsgG, pAug, pSetIx, pBrk, pCnt, pFz, pFr, pIn, pVar, pArg, pMv, pC, pCons, pNil, p2, pB, pBl, pCB, ress, res, rv_non, rv_bl, rv_int, rv_str, rv_ty, rv_lst, rv_tup, rv_rls, rv_xr, rv_nc, noCe, stO, true_and, and_true, Bool.not_false, Bool.not_true, rv_oD, isNon_oD, gtN, gtsCons, gtsNil, pNot, pOr, pAnd, pVal, pTru, pNeg, pNotV, pAndV, pOrV, pIfE, pDisp, allInl, pCut, pNoPt, pPt, pSeqSrc, pEnum, enSrc, pRng1, rOf1, pRng2, rOf2, owAt, pApp, pPopAt, pPop, pClear, pLc, pLcV, pYes, noOw, wipeE, restE, rst, pRaise, resL, pCall, argsOf, argO, refIx, wbC, wb, wb1, outsOf, outP, List.getElem?_cons_zero, List.getElem?_cons_succ, List.getElem?_nil, List.set_cons_zero, List.set_cons_succ, List.length_cons, List.length_nil, List.cons_append, List.nil_append, List.append_nil, List.drop_succ_cons, List.drop_zero, List.drop_nil, List.replicate_zero, List.replicate_succ, List.getD_cons_zero, List.getD_cons_succ, Nat.reduceSub, Nat.reduceAdd, Nat.sub_self, if_true, if_false, Bool.false_eq_true, q_frz1, q_frz2, q_stR1, q_stR2, q_free1, q_free2, q_free3, q_isN1, q_isN2, q_fIsN, q_fCI, q_fI, q_fI0, q_add1, q_add2, q_add3, q_mul1, q_mul2, q_isBl, q_isInt, q_seq1, q_seq2, q_seq3, q_len1, q_len2, q_len3, q_int1, q_abs, q_two, q_list1, q_list2, q_tuple1, q_tuple2, q_tru1, q_tru2, q_rs1, q_rs2, q_cut1, q_cut2, q_cut3, q_gtT]
    refine q P O _ _ _ ⟨M, fun r h => h2 r ?_ h⟩
    have := (List.getElem?_eq_some_iff.mp h).1
    simp [rngD]
    rw [← M.lp]; exact this
section
variable {P : Program} {w : World} {K : PySem.W.Frag} {mg : Str → Option Value} {base : Heap} {C_BadCount C_BadNumber C_BadTable C_ReelError : Addr} {f : Addr} {fd : FuncData}
structure APd where
  d : D
  R : List (List Nat)
  m : Nat
  hd : TabD d R
  he : Ent R m
  hsz : R.length ≤ 1000 ∧ m ≤ 1000
def postPd (a : APd) (r : PW.O) (o : List PW.O) : Prop := ∃ P O, Best a.R a.m P O ∧ r = .ow false (oL P) ∧ o = [.un, .un]
abbrev spPaired : PSp := mkSp (fun (a : APd) args => args = [.fz a.d, .fz (.int (a.m : Int))]) postPd noEx
theorem ok_paired (T : Txt K mg C_BadCount C_BadNumber C_BadTable C_ReelError) (c : CalD P w K mg base 2 "_pair_row" spPr) (Fn : Fun K "paired" "paired" s_paired f fd) : FnOk P w K mg base (L2.CX P w) 3 f fd [("rows" : Str), ("columns" : Str)] (spM K spPaired) :=
  Fn.M sc_paired (fun a args h => by rw [show args = _ from h]; rfl) (fun cdv A outer s H E hr => d_paired T c hr) (fun a args h => by
    rw [show args = _ from h]
    exact p_paired a.hd a.he a.hsz fun P' O' _ _ _ h1 => ⟨P', O', h1, rfl, rfl⟩)
end
end K12
set_option Elab.async false
set_option linter.all false
set_option maxRecDepth 100000
set_option maxHeartbeats 4000000
namespace K12
open PySem PySem.Spec PyProof.Rows L2 PW
/-! ### check_table -/
def rowOk (m : Int) : Int → List Int → Bool
  | _, [] => true
  | b, c :: r => decide (b < c) && decide (c < m) && rowOk m c r
abbrev iL (l : List Int) : List D := l.map .int
structure TabZ (d : D) (R : List (List Int)) : Prop where
  ex : ∃ xs, seqOf d = some xs ∧ xs.length = R.length ∧ ∀ (r : Nat) (row : List Int), R[r]? = some row → ∃ x, xs[r]? = some x ∧ seqOf x = some (iL row)
/-- the table is well formed -/
structure Good (R : List (List Int)) (m : Int) : Prop where
  l : R.length ≤ 128
  m0 : 0 ≤ m
  m1 : m ≤ 128
  rows : ∀ row ∈ R, rowOk m (-1) row = true
/-- what is wrong with it -/
inductive Wrong (CC CN CT : Addr) (R : List (List Int)) (m : Int) : Er → Prop
  | many (h : 128 < R.length) : Wrong CC CN CT R m ⟨CC, [("many", .int (R.length : Int)), ("what", .str "rows")]⟩
  | cols (h : R.length ≤ 128) (h2 : m < 0 ∨ 128 < m) : Wrong CC CN CT R m ⟨CN, [("number", .int m), ("what", .str "columns")]⟩
  | row (h : R.length ≤ 128) (h2 : 0 ≤ m) (h3 : m ≤ 128) (i : Nat) (row : List Int) (h4 : R[i]? = some row) (h5 : rowOk m (-1) row = false) (h6 : ∀ (j : Nat) (row' : List Int), j < i → R[j]? = some row' → rowOk m (-1) row' = true) :
      Wrong CC CN CT R m ⟨CT, [("at", .int (i : Int))]⟩
theorem p_check_table {CC CN CT : Addr} {d : D} {R : List (List Int)} {m : Int} (hd : TabZ d R) (hl : R.length ≤ 1000) (hm : m.natAbs.log2 < 1920) {Z : PEnds}
    (q : ∀ o2 o3 o4 o5, Good R m → Z.nx [.fz d, .fz (.int m), o2, o3, o4, o5])
    (qe : ∀ x o2 o3 o4 o5, Wrong CC CN CT R m x → Z.ex x [.fz d, .fz (.int m), o2, o3, o4, o5]) : b_check_table (spCn CC "many") (spCn CN "number") CT Z [.fz d, .fz (.int m), .un, .un, .un, .un] := by
  obtain ⟨xs, hxs, hlen, hrow⟩ := hd.ex
  have hrv : ∀ e, rv e d = d := fun e => seq_ne hxs
  unfold b_check_table
  simp only [pSeq, Option.map_some, Option.map_none, pNext, pIf, pAsg, pRet, pRetN, pDrop, pFor, pForV, pAsgG, pAug, pSetIx, pBrk, pCnt, pFz, pFr, pIn, pVar, pArg, pMv, pC, pCons, pNil, p2, pB, pBl, pCB, ress, res, rv_non, rv_bl, rv_int, rv_str, rv_ty, rv_lst, rv_tup, rv_rls, rv_xr, rv_nc, noCe, stO, true_and, and_true, Bool.not_false, Bool.not_true, rv_oD, isNon_oD, gtN, gtsCons, gtsNil, pNot, pOr, pAnd, pVal, pTru, pNeg, pNotV, pAndV, pOrV, pIfE, pDisp, allInl, pCut, pNoPt, pPt, pSeqSrc, pEnum, enSrc, pRng1, rOf1, pRng2, rOf2, owAt, pApp, pPopAt, pPop, pClear, pLc, pLcV, pYes, noOw, wipeE, restE, rst, pRaise, resL, pCall, argsOf, argO, refIx, wbC, wb, wb1, outsOf, outP, List.getElem?_cons_zero, List.getElem?_cons_succ, List.getElem?_nil, List.set_cons_zero, List.set_cons_succ, List.length_cons, List.length_nil, List.cons_append, List.nil_append, List.append_nil, List.drop_succ_cons, List.drop_zero, List.drop_nil, List.replicate_zero, List.replicate_succ, List.getD_cons_zero, List.getD_cons_succ, Nat.reduceSub, Nat.reduceAdd, Nat.sub_self, if_true, if_false, Bool.false_eq_true, q_frz1, q_frz2, q_stR1, q_stR2, q_free1, q_free2, q_free3, q_isN1, q_isN2, q_fIsN, q_fCI, q_fI, q_fI0, q_add1, q_add2, q_add3, q_mul1, q_mul2, q_isBl, q_isInt, q_seq1, q_seq2, q_seq3, q_len1, q_len2, q_len3, q_int1, q_abs, q_two, q_list1, q_list2, q_tuple1, q_tuple2, q_tru1, q_tru2, q_rs1, q_rs2, q_cut1, q_cut2, q_cut3, q_gtT, hrv, gLen_seq hxs]
  refine callGo_mk _ (⟨"rows", xs.length, 0, 128, by decide, ?_⟩ : ACn) rfl (by simp [refIx]) rfl ?_ ?_
  · show (((xs.length : Nat) : Int)).natAbs.log2 < 1920
    rw [Int.natAbs_natCast]
    exact Nat.lt_of_le_of_lt (Nat.log2_le_self _) (by omega)
  rotate_left
  · rintro x o ⟨rfl, rfl, h⟩
    simp only [pSeq, Option.map_some, Option.map_none, pNext, pIf, pAsg, pRet, pRetN, pDrop, pFor, pForV, pAsgG, pAug, pSetIx, pBrk, pCnt, pFz, pFr, pIn, pVar, pArg, pMv, pC, pCons, pNil, p2, pB, pBl, pCB, ress, res, rv_non, rv_bl, rv_int, rv_str, rv_ty, rv_lst, rv_tup, rv_rls, rv_xr, rv_nc, noCe, stO, true_and, and_true, Bool.not_false, Bool.not_true, rv_oD, isNon_oD, gtN, gtsCons, gtsNil, pNot, pOr, pAnd, pVal, pTru, pNeg, pNotV, pAndV, pOrV, pIfE, pDisp, allInl, pCut, pNoPt, pPt, pSeqSrc, pEnum, enSrc, pRng1, rOf1, pRng2, rOf2, owAt, pApp, pPopAt, pPop, pClear, pLc, pLcV, pYes, noOw, wipeE, restE, rst, pRaise, resL, pCall, argsOf, argO, refIx, wbC, wb, wb1, outsOf, outP, List.getElem?_cons_zero, List.getElem?_cons_succ, List.getElem?_nil, List.set_cons_zero, List.set_cons_succ, List.length_cons, List.length_nil, List.cons_append, List.nil_append, List.append_nil, List.drop_succ_cons, List.drop_zero, List.drop_nil, List.replicate_zero, List.replicate_succ, List.getD_cons_zero, List.getD_cons_succ, Nat.reduceSub, Nat.reduceAdd, Nat.sub_self, if_true, if_false, Bool.false_eq_true, q_frz1, q_frz2, q_stR1, q_stR2, q_free1, q_free2, q_free3, q_isN1, q_isN2, q_fIsN, q_fCI, q_fI, q_fI0, q_add1, q_add2, q_add3, q_mul1, q_mul2, q_isBl, q_isInt, q_seq1, q_seq2, q_seq3, q_len1, q_len2, q_len3, q_int1, q_abs, q_two, q_list1, q_list2, q_tuple1, q_tuple2, q_tru1, q_tru2, q_rs1, q_rs2, q_cut1, q_cut2, q_cut3, q_gtT]
    rw [hlen]
    refine qe _ _ _ _ _ (.many ?_)
    rcases h with h | h
    · exact absurd h (by show ¬ ((xs.length : Int) < 0); omega)
    · have : (128 : Int) < (xs.length : Int) := h
      omega
  rintro r o ⟨rfl, rfl, c1, c2⟩
  have hR : R.length ≤ 128 := by
    have : ((xs.length : Nat) : Int) ≤ 128 := c2
    omega
  simp only [pSeq, Option.map_some, Option.map_none, pNext, pIf, pAsg, pRet, pRetN, pDrop, pFor, pForV, pAsgG, pAug, pSetIx, pBrk, pCnt, pFz, pFr, pIn, pVar, pArg, pMv, pC, pCons, pNil, p2, pB, pBl, pCB, ress, res, rv_non, rv_bl, rv_int, rv_str, rv_ty, rv_lst, rv_tup, rv_rls, rv_xr, rv_nc, noCe, stO, true_and, and_true, Bool.not_false, Bool.not_true, rv_oD, isNon_oD, gtN, gtsCons, gtsNil, pNot, pOr, pAnd, pVal, pTru, pNeg, pNotV, pAndV, pOrV, pIfE, pDisp, allInl, pCut, pNoPt, pPt, pSeqSrc, pEnum, enSrc, pRng1, rOf1, pRng2, rOf2, owAt, pApp, pPopAt, pPop, pClear, pLc, pLcV, pYes, noOw, wipeE, restE, rst, pRaise, resL, pCall, argsOf, argO, refIx, wbC, wb, wb1, outsOf, outP, List.getElem?_cons_zero, List.getElem?_cons_succ, List.getElem?_nil, List.set_cons_zero, List.set_cons_succ, List.length_cons, List.length_nil, List.cons_append, List.nil_append, List.append_nil, List.drop_succ_cons, List.drop_zero, List.drop_nil, List.replicate_zero, List.replicate_succ, List.getD_cons_zero, List.getD_cons_succ, Nat.reduceSub, Nat.reduceAdd, Nat.sub_self, if_true, if_false, Bool.false_eq_true, q_frz1, q_frz2, q_stR1, q_stR2, q_free1, q_free2, q_free3, q_isN1, q_isN2, q_fIsN, q_fCI, q_fI, q_fI0, q_add1, q_add2, q_add3, q_mul1, q_mul2, q_isBl, q_isInt, q_seq1, q_seq2, q_seq3, q_len1, q_len2, q_len3, q_int1, q_abs, q_two, q_list1, q_list2, q_tuple1, q_tuple2, q_tru1, q_tru2, q_rs1, q_rs2, q_cut1, q_cut2, q_cut3, q_gtT, hrv]
  refine callGo_mk _ (⟨"columns", m, 0, 128, by decide, hm⟩ : ACn) rfl (by simp [refIx]) rfl ?_ ?_
  rotate_left
  · rintro x o ⟨rfl, rfl, h⟩
    simp only [pSeq, Option.map_some, Option.map_none, pNext, pIf, pAsg, pRet, pRetN, pDrop, pFor, pForV, pAsgG, pAug, pSetIx, pBrk, pCnt, pFz, pFr, pIn, pVar, pArg, pMv, pC, pCons, pNil, p2, pB, pBl, pCB, ress, res, rv_non, rv_bl, rv_int, rv_str, rv_ty, rv_lst, rv_tup, rv_rls, rv_xr, rv_nc, noCe, stO, true_and, and_true, Bool.not_false, Bool.not_true, rv_oD, isNon_oD, gtN, gtsCons, gtsNil, pNot, pOr, pAnd, pVal, pTru, pNeg, pNotV, pAndV, pOrV, pIfE, pDisp, allInl, pCut, pNoPt, pPt, pSeqSrc, pEnum, enSrc, pRng1, rOf1, pRng2, rOf2, owAt, pApp, pPopAt, pPop, pClear, pLc, pLcV, pYes, noOw, wipeE, restE, rst, pRaise, resL, pCall, argsOf, argO, refIx, wbC, wb, wb1, outsOf, outP, List.getElem?_cons_zero, List.getElem?_cons_succ, List.getElem?_nil, List.set_cons_zero, List.set_cons_succ, List.length_cons, List.length_nil, List.cons_append, List.nil_append, List.append_nil, List.drop_succ_cons, List.drop_zero, List.drop_nil, List.replicate_zero, List.replicate_succ, List.getD_cons_zero, List.getD_cons_succ, Nat.reduceSub, Nat.reduceAdd, Nat.sub_self, if_true, if_false, Bool.false_eq_true, q_frz1, q_frz2, q_stR1, q_stR2, q_free1, q_free2, q_free3, q_isN1, q_isN2, q_fIsN, q_fCI, q_fI, q_fI0, q_add1, q_add2, q_add3, q_mul1, q_mul2, q_isBl, q_isInt, q_seq1, q_seq2, q_seq3, q_len1, q_len2, q_len3, q_int1, q_abs, q_two, q_list1, q_list2, q_tuple1, q_tuple2, q_tru1, q_tru2, q_rs1, q_rs2, q_cut1, q_cut2, q_cut3, q_gtT]
    exact qe _ _ _ _ _ (.cols hR h)
  rintro r o ⟨rfl, rfl, c3, c4⟩
  simp only [pSeq, Option.map_some, Option.map_none, pNext, pIf, pAsg, pRet, pRetN, pDrop, pFor, pForV, pAsgG, pAug, pSetIx, pBrk, pCnt, pFz, pFr, pIn, pVar, pArg, pMv, pC, pCons, pNil, p2, pB, pBl, pCB, ress, res, rv_non, rv_bl, rv_int, rv_str, rv_ty, rv_lst, rv_tup, rv_rls, rv_xr, rv_nc, noCe, stO, true_and, and_true, Bool.not_false, Bool.not_true, rv_oD, isNon_oD, gtN, gtsCons, gtsNil, pNot, pOr, pAnd, pVal, pTru, pNeg, pNotV, pAndV, pOrV, pIfE, pDisp, allInl, pCut, pNoPt, pPt, pSeqSrc, pEnum, enSrc, pRng1, rOf1, pRng2, rOf2, owAt, pApp, pPopAt, pPop, pClear, pLc, pLcV, pYes, noOw, wipeE, restE, rst, pRaise, resL, pCall, argsOf, argO, refIx, wbC, wb, wb1, outsOf, outP, List.getElem?_cons_zero, List.getElem?_cons_succ, List.getElem?_nil, List.set_cons_zero, List.set_cons_succ, List.length_cons, List.length_nil, List.cons_append, List.nil_append, List.append_nil, List.drop_succ_cons, List.drop_zero, List.drop_nil, List.replicate_zero, List.replicate_succ, List.getD_cons_zero, List.getD_cons_succ, Nat.reduceSub, Nat.reduceAdd, Nat.sub_self, if_true, if_false, Bool.false_eq_true, q_frz1, q_frz2, q_stR1, q_stR2, q_free1, q_free2, q_free3, q_isN1, q_isN2, q_fIsN, q_fCI, q_fI, q_fI0, q_add1, q_add2, q_add3, q_mul1, q_mul2, q_isBl, q_isInt, q_seq1, q_seq2, q_seq3, q_len1, q_len2, q_len3, q_int1, q_abs, q_two, q_list1, q_list2, q_tuple1, q_tuple2, q_tru1, q_tru2, q_rs1, q_rs2, q_cut1, q_cut2, q_cut3, q_gtT, hrv, seqD_seq hxs]
  refine forGo_inv (fun i e => ∃ o2 o3 o4 o5, e = [.fz d, .fz (.int m), o2, o3, o4, o5] ∧ freeO o2 ∧ freeO o3 ∧ freeO o4 ∧ freeO o5 ∧ ∀ (j : Nat) (row' : List Int), j < i → R[j]? = some row' → rowOk m (-1) row' = true) (fun _ _ _ _ => trivial) ?_ ?_
    ⟨.un, .un, .un, .un, rfl, trivial, trivial, trivial, trivial, fun j row' h => absurd h (Nat.not_lt_zero _)⟩
  · rintro i dd e Rk hdd ⟨o2, o3, o4, o5, rfl, f2, f3, f4, f5, hpre⟩ hRk
    have hi : i < R.length := by
      have := (List.getElem?_eq_some_iff.mp hdd).1
      rw [enumD_length] at this; omega
    obtain ⟨x, hx, hsx⟩ := hrow i _ (List.getElem?_eq_getElem hi)
    rw [enumD_get hx, Option.some.injEq] at hdd
    subst hdd
    have hrx : ∀ e, rv e x = x := fun e => seq_ne hsx
    simp only [pSeq, Option.map_some, Option.map_none, pNext, pIf, pAsg, pRet, pRetN, pDrop, pFor, pForV, pAsgG, pAug, pSetIx, pBrk, pCnt, pFz, pFr, pIn, pVar, pArg, pMv, pC, pCons, pNil, p2, pB, pBl, pCB, ress, res, rv_non, rv_bl, rv_int, rv_str, rv_ty, rv_lst, rv_tup, rv_rls, rv_xr, rv_nc, noCe, stO, true_and, and_true, Bool.not_false, Bool.not_true, rv_oD, isNon_oD, gtN, gtsCons, gtsNil, pNot, pOr, pAnd, pVal, pTru, pNeg, pNotV, pAndV, pOrV, pIfE, pDisp, allInl, pCut, pNoPt, pPt, pSeqSrc, pEnum, enSrc, pRng1, rOf1, pRng2, rOf2, owAt, pApp, pPopAt, pPop, pClear, pLc, pLcV, pYes, noOw, wipeE, restE, rst, pRaise, resL, pCall, argsOf, argO, refIx, wbC, wb, wb1, outsOf, outP, List.getElem?_cons_zero, List.getElem?_cons_succ, List.getElem?_nil, List.set_cons_zero, List.set_cons_succ, List.length_cons, List.length_nil, List.cons_append, List.nil_append, List.append_nil, List.drop_succ_cons, List.drop_zero, List.drop_nil, List.replicate_zero, List.replicate_succ, List.getD_cons_zero, List.getD_cons_succ, Nat.reduceSub, Nat.reduceAdd, Nat.sub_self, if_true, if_false, Bool.false_eq_true, q_frz1, q_frz2, q_stR1, q_stR2, q_free1, q_free2, q_free3, q_isN1, q_isN2, q_fIsN, q_fCI, q_fI, q_fI0, q_add1, q_add2, q_add3, q_mul1, q_mul2, q_isBl, q_isInt, q_seq1, q_seq2, q_seq3, q_len1, q_len2, q_len3, q_int1, q_abs, q_two, q_list1, q_list2, q_tuple1, q_tuple2, q_tru1, q_tru2, q_rs1, q_rs2, q_cut1, q_cut2, q_cut3, q_gtT, hrv, hrx, f2, f3, f4, seqD_seq hsx]
    refine forGo_inv (fun k e => ∃ (b : Int) (o5 : PW.O), e = [.fz d, .fz (.int m), .fz (.int (i : Int)), .fz x, .fz (.int b), o5] ∧ freeO o5 ∧ rowOk m (-1) R[i] = rowOk m b (R[i].drop k)) (fun _ _ _ _ => trivial) ?_ ?_
      ⟨-1, o5, rfl, f5, rfl⟩
    · rintro k cc e Rk' hcc ⟨b, o5', rfl, f5', hb⟩ hRk'
      rw [List.getElem?_map] at hcc
      obtain ⟨c, hc, rfl⟩ := Option.map_eq_some_iff.mp hcc
      have hkl := (List.getElem?_eq_some_iff.mp hc).1
      have hdr : R[i].drop k = c :: R[i].drop (k + 1) := by
        rw [List.drop_eq_getElem_cons hkl]
        congr 1
        exact (List.getElem?_eq_some_iff.mp hc).2
      simp only [pSeq, Option.map_some, Option.map_none, pNext, pIf, pAsg, pRet, pRetN, pDrop, pFor, pForV, pAsgG, pAug, pSetIx, pBrk, pCnt, pFz, pFr, pIn, pVar, pArg, pMv, pC, pCons, pNil, p2, pB, pBl, pCB, ress, res, rv_non, rv_bl, rv_int, rv_str, rv_ty, rv_lst, rv_tup, rv_rls, rv_xr, rv_nc, noCe, stO, true_and, and_true, Bool.not_false, Bool.not_true, rv_oD, isNon_oD, gtN, gtsCons, gtsNil, pNot, pOr, pAnd, pVal, pTru, pNeg, pNotV, pAndV, pOrV, pIfE, pDisp, allInl, pCut, pNoPt, pPt, pSeqSrc, pEnum, enSrc, pRng1, rOf1, pRng2, rOf2, owAt, pApp, pPopAt, pPop, pClear, pLc, pLcV, pYes, noOw, wipeE, restE, rst, pRaise, resL, pCall, argsOf, argO, refIx, wbC, wb, wb1, outsOf, outP, List.getElem?_cons_zero, List.getElem?_cons_succ, List.getElem?_nil, List.set_cons_zero, List.set_cons_succ, List.length_cons, List.length_nil, List.cons_append, List.nil_append, List.append_nil, List.drop_succ_cons, List.drop_zero, List.drop_nil, List.replicate_zero, List.replicate_succ, List.getD_cons_zero, List.getD_cons_succ, Nat.reduceSub, Nat.reduceAdd, Nat.sub_self, if_true, if_false, Bool.false_eq_true, q_frz1, q_frz2, q_stR1, q_stR2, q_free1, q_free2, q_free3, q_isN1, q_isN2, q_fIsN, q_fCI, q_fI, q_fI0, q_add1, q_add2, q_add3, q_mul1, q_mul2, q_isBl, q_isInt, q_seq1, q_seq2, q_seq3, q_len1, q_len2, q_len3, q_int1, q_abs, q_two, q_list1, q_list2, q_tuple1, q_tuple2, q_tru1, q_tru2, q_rs1, q_rs2, q_cut1, q_cut2, q_cut3, q_gtT, f5', hrx]
      rw [hdr] at hb
      have bad : rowOk m (-1) R[i] = false → Z.ex ⟨CT, [("at", D.int (i : Int))]⟩ [.fz d, .fz (.int m), .fz (.int (i : Int)), .fz x, .fz (.int b), .fz (.int c)] := fun hf => qe _ _ _ _ _ (.row hR c3 c4 i _ (List.getElem?_eq_getElem hi) hf hpre)
      have okd : ∀ y ∈ [D.int (i : Int)], OkD y := by
        intro y hy
        rw [List.mem_singleton] at hy; subst hy
        show ((i : Int)).natAbs.log2 < 1920
        rw [Int.natAbs_natCast]
        exact Nat.lt_of_le_of_lt (Nat.log2_le_self _) (by omega)
      by_cases c5 : c ≤ b
      · rw [if_pos (by simpa using c5)]
        refine ⟨_, rfl, rfl, okd, bad ?_⟩
        rw [hb]
        simp [rowOk]
        omega
      · rw [if_neg (by simpa using c5)]
        by_cases c6 : m ≤ c
        · rw [if_pos (by simpa using c6)]
          refine ⟨_, rfl, rfl, okd, bad ?_⟩
          rw [hb]
          simp [rowOk]
          omega
        · rw [if_neg (by simpa using c6)]
          refine hRk' _ ⟨c, _, rfl, trivial, ?_⟩
          rw [hb]
          simp [rowOk]
          omega
    · rintro e ⟨b, o5', rfl, f5', hb⟩
      refine hRk _ ⟨_, _, _, _, rfl, trivial, by cases x <;> first | trivial | exact trivial, trivial, f5', fun j row' hj hr => ?_⟩
      by_cases z : j < i
      · exact hpre j row' z hr
      · have : j = i := by omega
        subst this
        rw [List.getElem?_eq_getElem hi, Option.some.injEq] at hr
        subst hr
        rw [hb]
        simp [rowOk]
  · rintro e ⟨o2, o3, o4, o5, rfl, f2, f3, f4, f5, hpre⟩
    refine q _ _ _ _ ⟨hR, c3, c4, fun row hr => ?_⟩
    obtain ⟨j, hj⟩ := List.getElem?_of_mem hr
    exact hpre j row (by rw [enumD_length, hlen]; exact (List.getElem?_eq_some_iff.mp hj).1) hj
section
variable {P : Program} {w : World} {K : PySem.W.Frag} {mg : Str → Option Value} {base : Heap} {C_BadCount C_BadNumber C_BadTable C_ReelError : Addr} {f : Addr} {fd : FuncData}
structure ACt where
  d : D
  R : List (List Int)
  m : Int
  hd : TabZ d R
  hl : R.length ≤ 1000
  hm : m.natAbs.log2 < 1920
abbrev spCt (CC CN CT : Addr) : PSp := mkSp (fun (a : ACt) args => args = [.fz a.d, .fz (.int a.m)]) (fun a r o => Good a.R a.m ∧ r = .fz .non ∧ o = [.un, .un]) (fun a x o => Wrong CC CN CT a.R a.m x ∧ o = [.un, .un])
theorem ok_check_table (T : Txt K mg C_BadCount C_BadNumber C_BadTable C_ReelError) (c1 : CalD P w K mg base 3 "check_count" (spCn C_BadCount "many")) (c2 : CalD P w K mg base 3 "check_number" (spCn C_BadNumber "number")) (E3 : ErrD P w K mg base "BadTable" C_BadTable ["at"])
    (Fn : Fun K "check_table" "check_table" s_check_table f fd) : FnOk P w K mg base (L2.CX P w) 4 f fd [("rows" : Str), ("columns" : Str)] (spM K (spCt C_BadCount C_BadNumber C_BadTable)) :=
  Fn.M sc_check_table (fun a args h => by rw [show args = _ from h]; rfl) (fun cdv A outer s H E hr => d_check_table T c1 c2 E3 hr) (fun a args h => by
    rw [show args = _ from h]
    exact p_check_table a.hd a.hl a.hm (fun _ _ _ _ h1 => ⟨h1, rfl, rfl⟩) (fun _ _ _ _ _ h1 => ⟨h1, rfl⟩))
end
end K12
set_option Elab.async false
set_option linter.all false
set_option maxRecDepth 100000
set_option maxHeartbeats 4000000
namespace K12
open PySem PySem.Spec PyProof.Rows L2 PW
/-! ### greatest_pairing -/
abbrev nZ (l : List Nat) : List Int := l.map fun (n : Nat) => (n : Int)
theorem iL_nZ (l : List Nat) : iL (nZ l) = nL l := by simp [iL, nZ, nL]
theorem rowOk_lt {m : Int} : ∀ {l : List Int} {b : Int}, -1 ≤ b → rowOk m b l = true → ∃ n : List Nat, l = nZ n ∧ ∀ c ∈ n, (c : Int) < m
  | [], _, _, _ => ⟨[], rfl, fun c h => nomatch h⟩
  | c :: r, b, hb, h => by
    simp [rowOk] at h
    obtain ⟨⟨h1, h2⟩, h3⟩ := h
    obtain ⟨n, rfl, hn⟩ := rowOk_lt (b := c) (by omega) h3
    refine ⟨c.toNat :: n, by simp [nZ]; omega, fun x hx => ?_⟩
    rcases List.mem_cons.mp hx with rfl | hx
    · omega
    · exact hn x hx
theorem good_rows {m : Int} : ∀ {R : List (List Int)}, (∀ row ∈ R, rowOk m (-1) row = true) → ∃ N : List (List Nat), R = N.map nZ ∧ ∀ row ∈ N, ∀ c ∈ row, (c : Int) < m
  | [], _ => ⟨[], rfl, fun c h => nomatch h⟩
  | r :: R, h => by
    obtain ⟨n, rfl, hn⟩ := rowOk_lt (by omega) (h r List.mem_cons_self)
    obtain ⟨N, rfl, hN⟩ := good_rows (R := R) fun row hr => h row (List.mem_cons_of_mem _ hr)
    refine ⟨n :: N, rfl, fun row hr => ?_⟩
    rcases List.mem_cons.mp hr with rfl | hr
    · exact hn
    · exact hN row hr
theorem Good.nat {R : List (List Int)} {m : Int} (g : Good R m) : ∃ (N : List (List Nat)) (n : Nat), R = N.map nZ ∧ m = (n : Int) ∧ Ent N n ∧ N.length ≤ 128 ∧ n ≤ 128 := by
  obtain ⟨N, rfl, hN⟩ := good_rows g.rows
  have h0 := g.m0
  have h1 := g.m1
  have h2 := g.l
  refine ⟨N, m.toNat, rfl, by omega, fun r row hr c hc => ?_, by simpa using h2, by omega⟩
  have := hN row (List.mem_of_getElem? hr) c hc
  omega
theorem TabZ.nat {d : D} {N : List (List Nat)} (h : TabZ d (N.map nZ)) : TabD d N := by
  obtain ⟨xs, h1, h2, h3⟩ := h.ex
  refine ⟨xs, h1, by simpa using h2, fun r row hr => ?_⟩
  obtain ⟨x, k1, k2⟩ := h3 r (nZ row) (by rw [List.getElem?_map, hr]; rfl)
  exact ⟨x, k1, by rw [k2, iL_nZ]⟩
def postGp (a : ACt) (r : PW.O) (o : List PW.O) : Prop := ∃ (N : List (List Nat)) (n : Nat) (P O : List (Option Nat)), a.R = N.map nZ ∧ a.m = (n : Int) ∧ Good a.R a.m ∧ Best N n P O ∧ r = .fz (.tup (oL P)) ∧ o = [.un, .un]
abbrev spGp (CC CN CT : Addr) : PSp := mkSp (fun (a : ACt) args => args = [.fz a.d, .fz (.int a.m)]) postGp (fun a x o => Wrong CC CN CT a.R a.m x ∧ o = [.un, .un])
theorem p_greatest_pairing {CC CN CT : Addr} (a : ACt) {Z : PEnds} (q : ∀ (N : List (List Nat)) (n : Nat) (P O : List (Option Nat)), a.R = N.map nZ → a.m = (n : Int) → Good a.R a.m → Best N n P O → Z.rt (.fz (.tup (oL P))) [.fz a.d, .fz (.int a.m)])
    (qe : ∀ x, Wrong CC CN CT a.R a.m x → Z.ex x [.fz a.d, .fz (.int a.m)]) : b_greatest_pairing (spCt CC CN CT) spPaired Z [.fz a.d, .fz (.int a.m)] := by
  obtain ⟨xs, hxs, hlen, hrow⟩ := a.hd.ex
  have hrv : ∀ e, rv e a.d = a.d := fun e => seq_ne hxs
  unfold b_greatest_pairing
  simp only [pSeq, Option.map_some, Option.map_none, pNext, pIf, pAsg, pRet, pRetN, pDrop, pFor, pForV, pAsgG, pAug, pSetIx, pBrk, pCnt, pFz, pFr, pIn, pVar, pArg, pMv, pC, pCons, pNil, p2, pB, pBl, pCB, ress, res, rv_non, rv_bl, rv_int, rv_str, rv_ty, rv_lst, rv_tup, rv_rls, rv_xr, rv_nc, noCe, stO, true_and, and_true, Bool.not_false, Bool.not_true, rv_oD, isNon_oD, gtN, gtsCons, gtsNil, pNot, pOr, pAnd, pVal, pTru, pNeg, pNotV, pAndV, pOrV, pIfE, pDisp, allInl, pCut, pNoPt, pPt, pSeqSrc, pEnum, enSrc, pRng1, rOf1, pRng2, rOf2, owAt, pApp, pPopAt, pPop, pClear, pLc, pLcV, pYes, noOw, wipeE, restE, rst, pRaise, resL, pCall, argsOf, argO, refIx, wbC, wb, wb1, outsOf, outP, List.getElem?_cons_zero, List.getElem?_cons_succ, List.getElem?_nil, List.set_cons_zero, List.set_cons_succ, List.length_cons, List.length_nil, List.cons_append, List.nil_append, List.append_nil, List.drop_succ_cons, List.drop_zero, List.drop_nil, List.replicate_zero, List.replicate_succ, List.getD_cons_zero, List.getD_cons_succ, Nat.reduceSub, Nat.reduceAdd, Nat.sub_self, if_true, if_false, Bool.false_eq_true, q_frz1, q_frz2, q_stR1, q_stR2, q_free1, q_free2, q_free3, q_isN1, q_isN2, q_fIsN, q_fCI, q_fI, q_fI0, q_add1, q_add2, q_add3, q_mul1, q_mul2, q_isBl, q_isInt, q_seq1, q_seq2, q_seq3, q_len1, q_len2, q_len3, q_int1, q_abs, q_two, q_list1, q_list2, q_tuple1, q_tuple2, q_tru1, q_tru2, q_rs1, q_rs2, q_cut1, q_cut2, q_cut3, q_gtT, hrv]
  refine callGo_mk _ a rfl (by simp [refIx]) rfl ?_ ?_
  rotate_left
  · rintro x o ⟨h, rfl⟩
    simp only [pSeq, Option.map_some, Option.map_none, pNext, pIf, pAsg, pRet, pRetN, pDrop, pFor, pForV, pAsgG, pAug, pSetIx, pBrk, pCnt, pFz, pFr, pIn, pVar, pArg, pMv, pC, pCons, pNil, p2, pB, pBl, pCB, ress, res, rv_non, rv_bl, rv_int, rv_str, rv_ty, rv_lst, rv_tup, rv_rls, rv_xr, rv_nc, noCe, stO, true_and, and_true, Bool.not_false, Bool.not_true, rv_oD, isNon_oD, gtN, gtsCons, gtsNil, pNot, pOr, pAnd, pVal, pTru, pNeg, pNotV, pAndV, pOrV, pIfE, pDisp, allInl, pCut, pNoPt, pPt, pSeqSrc, pEnum, enSrc, pRng1, rOf1, pRng2, rOf2, owAt, pApp, pPopAt, pPop, pClear, pLc, pLcV, pYes, noOw, wipeE, restE, rst, pRaise, resL, pCall, argsOf, argO, refIx, wbC, wb, wb1, outsOf, outP, List.getElem?_cons_zero, List.getElem?_cons_succ, List.getElem?_nil, List.set_cons_zero, List.set_cons_succ, List.length_cons, List.length_nil, List.cons_append, List.nil_append, List.append_nil, List.drop_succ_cons, List.drop_zero, List.drop_nil, List.replicate_zero, List.replicate_succ, List.getD_cons_zero, List.getD_cons_succ, Nat.reduceSub, Nat.reduceAdd, Nat.sub_self, if_true, if_false, Bool.false_eq_true, q_frz1, q_frz2, q_stR1, q_stR2, q_free1, q_free2, q_free3, q_isN1, q_isN2, q_fIsN, q_fCI, q_fI, q_fI0, q_add1, q_add2, q_add3, q_mul1, q_mul2, q_isBl, q_isInt, q_seq1, q_seq2, q_seq3, q_len1, q_len2, q_len3, q_int1, q_abs, q_two, q_list1, q_list2, q_tuple1, q_tuple2, q_tru1, q_tru2, q_rs1, q_rs2, q_cut1, q_cut2, q_cut3, q_gtT]
    exact qe x h
  rintro r o ⟨g, rfl, rfl⟩
  obtain ⟨N, n, h1, h2, h3, h4, h5⟩ := g.nat
  simp only [pSeq, Option.map_some, Option.map_none, pNext, pIf, pAsg, pRet, pRetN, pDrop, pFor, pForV, pAsgG, pAug, pSetIx, pBrk, pCnt, pFz, pFr, pIn, pVar, pArg, pMv, pC, pCons, pNil, p2, pB, pBl, pCB, ress, res, rv_non, rv_bl, rv_int, rv_str, rv_ty, rv_lst, rv_tup, rv_rls, rv_xr, rv_nc, noCe, stO, true_and, and_true, Bool.not_false, Bool.not_true, rv_oD, isNon_oD, gtN, gtsCons, gtsNil, pNot, pOr, pAnd, pVal, pTru, pNeg, pNotV, pAndV, pOrV, pIfE, pDisp, allInl, pCut, pNoPt, pPt, pSeqSrc, pEnum, enSrc, pRng1, rOf1, pRng2, rOf2, owAt, pApp, pPopAt, pPop, pClear, pLc, pLcV, pYes, noOw, wipeE, restE, rst, pRaise, resL, pCall, argsOf, argO, refIx, wbC, wb, wb1, outsOf, outP, List.getElem?_cons_zero, List.getElem?_cons_succ, List.getElem?_nil, List.set_cons_zero, List.set_cons_succ, List.length_cons, List.length_nil, List.cons_append, List.nil_append, List.append_nil, List.drop_succ_cons, List.drop_zero, List.drop_nil, List.replicate_zero, List.replicate_succ, List.getD_cons_zero, List.getD_cons_succ, Nat.reduceSub, Nat.reduceAdd, Nat.sub_self, if_true, if_false, Bool.false_eq_true, q_frz1, q_frz2, q_stR1, q_stR2, q_free1, q_free2, q_free3, q_isN1, q_isN2, q_fIsN, q_fCI, q_fI, q_fI0, q_add1, q_add2, q_add3, q_mul1, q_mul2, q_isBl, q_isInt, q_seq1, q_seq2, q_seq3, q_len1, q_len2, q_len3, q_int1, q_abs, q_two, q_list1, q_list2, q_tuple1, q_tuple2, q_tru1, q_tru2, q_rs1, q_rs2, q_cut1, q_cut2, q_cut3, q_gtT, hrv]
  refine callGo_mk _ (⟨a.d, N, n, TabZ.nat (h1 ▸ a.hd), h3, by omega⟩ : APd) rfl (by simp [refIx]) (by rw [h2]) ?_ (fun _ _ h => h.elim)
  rintro r o ⟨P, O, hB, rfl, rfl⟩
  simp only [pSeq, Option.map_some, Option.map_none, pNext, pIf, pAsg, pRet, pRetN, pDrop, pFor, pForV, pAsgG, pAug, pSetIx, pBrk, pCnt, pFz, pFr, pIn, pVar, pArg, pMv, pC, pCons, pNil, p2, pB, pBl, pCB, ress, res, rv_non, rv_bl, rv_int, rv_str, rv_ty, rv_lst, rv_tup, rv_rls, rv_xr, rv_nc, noCe, stO, true_and, and_true, Bool.not_false, Bool.not_true, rv_oD, isNon_oD, gtN, gtsCons, gtsNil, pNot, pOr, pAnd, pVal, pTru, pNeg, pNotV, pAndV, pOrV, pIfE, pDisp, allInl, pCut, pNoPt, pPt, pSeqSrc, pEnum, enSrc, pRng1, rOf1, pRng2, rOf2, owAt, pApp, pPopAt, pPop, pClear, pLc, pLcV, pYes, noOw, wipeE, restE, rst, pRaise, resL, pCall, argsOf, argO, refIx, wbC, wb, wb1, outsOf, outP, List.getElem?_cons_zero, List.getElem?_cons_succ, List.getElem?_nil, List.set_cons_zero, List.set_cons_succ, List.length_cons, List.length_nil, List.cons_append, List.nil_append, List.append_nil, List.drop_succ_cons, List.drop_zero, List.drop_nil, List.replicate_zero, List.replicate_succ, List.getD_cons_zero, List.getD_cons_succ, Nat.reduceSub, Nat.reduceAdd, Nat.sub_self, if_true, if_false, Bool.false_eq_true, q_frz1, q_frz2, q_stR1, q_stR2, q_free1, q_free2, q_free3, q_isN1, q_isN2, q_fIsN, q_fCI, q_fI, q_fI0, q_add1, q_add2, q_add3, q_mul1, q_mul2, q_isBl, q_isInt, q_seq1, q_seq2, q_seq3, q_len1, q_len2, q_len3, q_int1, q_abs, q_two, q_list1, q_list2, q_tuple1, q_tuple2, q_tru1, q_tru2, q_rs1, q_rs2, q_cut1, q_cut2, q_cut3, q_gtT]
  exact q N n P O h1 h2 g hB
section
variable {P : Program} {w : World} {K : PySem.W.Frag} {mg : Str → Option Value} {base : Heap} {C_BadCount C_BadNumber C_BadTable C_ReelError : Addr} {f : Addr} {fd : FuncData}
theorem ok_greatest_pairing (T : Txt K mg C_BadCount C_BadNumber C_BadTable C_ReelError) (c1 : CalD P w K mg base 4 "check_table" (spCt C_BadCount C_BadNumber C_BadTable)) (c2 : CalD P w K mg base 3 "paired" spPaired)
    (Fn : Fun K "greatest_pairing" "greatest_pairing" s_greatest_pairing f fd) : FnOk P w K mg base (L2.CX P w) 5 f fd [("rows" : Str), ("columns" : Str)] (spM K (spGp C_BadCount C_BadNumber C_BadTable)) :=
  Fn.M sc_greatest_pairing (fun a args h => by rw [show args = _ from h]; rfl) (fun cdv A outer s H E hr => d_greatest_pairing T c1 c2 hr) (fun a args h => by
    rw [show args = _ from h]
    exact p_greatest_pairing a (fun N n P O h1 h2 h3 h4 => ⟨N, n, P, O, h1, h2, h3, h4, rfl, rfl⟩) (fun _ h1 => ⟨h1, rfl⟩))
end
/-! ### reached -/
abbrev bL (l : List Bool) : List D := l.map .bl
theorem bL_get {l : List Bool} {i : Nat} {x : Bool} (h : l[i]? = some x) : (bL l)[i]? = some (.bl x) := by rw [List.getElem?_map, h]; rfl
theorem fIx_bL {l : List Bool} {i : Nat} {x : Bool} (h : l[i]? = some x) {Q : PW.O → Prop} : fIx (.lst (bL l)) (.int (i : Int)) Q ↔ Q (.fz (.bl x)) := fIx_seq rfl (bL_get h)
theorem bL_set {l : List Bool} {i : Nat} {x : Bool} : (bL l).set i (.bl x) = bL (l.set i x) := (List.map_set).symm
def U (R : List (List Nat)) (O : List (Option Nat)) (r : Nat) : Prop := ∃ S, S r ∧ Closed R O S
structure Mk (R : List (List Nat)) (m : Nat) (O : List (Option Nat)) (A : List Nat) (RM CM : List Bool) : Prop where
  lr : RM.length = R.length
  lc : CM.length = m
  un : ∀ r : Nat, RM[r]? = some true → U R O r
  st : ∀ r ∈ A, RM[r]? = some true
  cl : ∀ (r : Nat) (row : List Nat) (c : Nat), RM[r]? = some true → R[r]? = some row → c ∈ row → CM[c]? = some true
  ow : ∀ c : Nat, CM[c]? = some true → ∃ r : Nat, O[c]? = some (some r) ∧ RM[r]? = some true
def ownP (O : List (Option Nat)) (i : Nat) : List (Option Nat) := O.map fun x => x.bind fun r => if r < i then some r else none
theorem ownP_get {O : List (Option Nat)} {i c : Nat} : (ownP O i)[c]? = O[c]?.map fun x => x.bind fun r => if r < i then some r else none := by simp [ownP]
theorem ownP_zero {O : List (Option Nat)} : ownP O 0 = List.replicate O.length none := by
  apply List.ext_getElem?
  intro c
  rw [ownP_get, List.getElem?_replicate]
  by_cases h : c < O.length
  · rw [if_pos h, List.getElem?_eq_getElem h]
    simp
  · rw [if_neg h, List.getElem?_eq_none (by omega)]
    rfl
section
variable {R : List (List Nat)} {m : Nat} {P O : List (Option Nat)}
theorem ownP_end (M : Mat R m P O) : ownP O P.length = O := by
  apply List.ext_getElem?
  intro c
  rw [ownP_get]
  cases h : O[c]? with
  | none => rfl
  | some x =>
    cases x with
    | none => rfl
    | some r =>
      have := (List.getElem?_eq_some_iff.mp (M.op r c h)).1
      simp [this]
theorem ownP_none (M : Mat R m P O) {i : Nat} (h : P[i]? = some none) : ownP O (i + 1) = ownP O i := by
  apply List.ext_getElem?
  intro c
  rw [ownP_get, ownP_get]
  cases h1 : O[c]? with
  | none => rfl
  | some x =>
    cases x with
    | none => rfl
    | some r =>
      have h2 := M.op r c h1
      have : r ≠ i := fun z => by subst z; rw [h] at h2; cases h2
      simp
      by_cases z : r < i
      · rw [if_pos z, if_pos (by omega)]
      · rw [if_neg z, if_neg (by omega)]
theorem ownP_some (M : Mat R m P O) {i c : Nat} (h : P[i]? = some (some c)) : c < O.length ∧ (ownP O i).set c (some i) = ownP O (i + 1) := by
  have h1 := M.po i c h
  have hc := (List.getElem?_eq_some_iff.mp h1).1
  refine ⟨hc, ?_⟩
  apply List.ext_getElem?
  intro b
  have hc' : c < (ownP O i).length := by simp [ownP]; exact hc
  rw [gset hc', ownP_get, ownP_get]
  by_cases z : c = b
  · subst z
    rw [if_pos rfl, h1]
    simp
  · rw [if_neg z]
    cases h2 : O[b]? with
    | none => rfl
    | some x =>
      cases x with
      | none => rfl
      | some r =>
        have h3 := M.op r b h2
        have : r ≠ i := fun y => by subst y; rw [h, Option.some.injEq, Option.some.injEq] at h3; exact z h3
        simp
        by_cases y : r < i
        · rw [if_pos y, if_pos (by omega)]
        · rw [if_neg y, if_neg (by omega)]
end
/-- the walk over marks -/
structure Rb (R : List (List Nat)) (m : Nat) (O : List (Option Nat)) (A : List Nat) (RM CM : List Bool) (q : List Nat) (a : Nat) : Prop where
  lr : RM.length = R.length
  lc : CM.length = m
  un : ∀ r : Nat, RM[r]? = some true → U R O r
  st : ∀ r ∈ A, RM[r]? = some true
  qm : ∀ r ∈ q, RM[r]? = some true
  mq : ∀ r : Nat, RM[r]? = some true → r ∈ q
  al : a ≤ q.length
  dn : ∀ (j r : Nat) (row : List Nat) (c : Nat), j < a → q[j]? = some r → R[r]? = some row → c ∈ row → CM[c]? = some true
  ow : ∀ c : Nat, CM[c]? = some true → ∃ r : Nat, O[c]? = some (some r) ∧ RM[r]? = some true
def cntF (l : List Bool) : Nat := l.countP (! ·)
theorem cntF_set {l : List Bool} {c : Nat} (h : l[c]? = some false) : cntF (l.set c true) + 1 = cntF l := by
  unfold cntF
  induction l generalizing c with
  | nil => simp at h
  | cons x l ih =>
    cases c with
    | zero => simp at h; subst h; simp
    | succ c =>
      have := ih (c := c) (by simpa using h)
      simp only [List.set_cons_succ, List.countP_cons]
      omega
theorem set_true {l : List Bool} {i j : Nat} (h : l[j]? = some true) : (l.set i true)[j]? = some true := by
  rw [List.getElem?_set]
  have := (List.getElem?_eq_some_iff.mp h).1
  by_cases z : i = j
  · subst z; simp [this]
  · simp [z, h]
theorem set_true_inv {l : List Bool} {i j : Nat} (h : (l.set i true)[j]? = some true) : i = j ∨ l[j]? = some true := by
  rw [List.getElem?_set] at h
  by_cases z : i = j
  · exact .inl z
  · simp [z] at h; exact .inr h
theorem p_reached {d : D} {R : List (List Nat)} {m : Nat} {P O : List (Option Nat)} {A : List Nat} (hd : TabD d R) (he : Ent R m) (M : Mat R m P O) (hA : ∀ r ∈ A, r < R.length ∧ U R O r) (hAl : A.length ≤ 1000) (hsz : R.length ≤ 1000 ∧ m ≤ 1000) {Z : PEnds}
    (q : ∀ RM CM o4 o5 o6 o7 o8 o9 o10 o11, Mk R m O A RM CM → Z.rt (.fz (.tup [.lst (bL RM), .lst (bL CM)])) [.fz d, .fz (.int (m : Int)), .fz (.lst (oL P)), .fz (.lst (nL A)), o4, o5, o6, o7, o8, o9, o10, o11]) :
    b_reached Z [.fz d, .fz (.int (m : Int)), .fz (.lst (oL P)), .fz (.lst (nL A)), .un, .un, .un, .un, .un, .un, .un, .un] := by
  obtain ⟨xs, hxs, hlen, hrow⟩ := hd.ex
  have hrv : ∀ e, rv e d = d := fun e => seq_ne hxs
  unfold b_reached
  simp only [pSeq, Option.map_some, Option.map_none, pNext, pIf, pAsg, pRet, pRetN, pDrop, pFor, pForV, pAsgG, pAug, pSetIx, pBrk, pCnt, pFz, pFr, pIn, pVar, pArg, pMv, pC, pCons, pNil, p2, pB, pBl, pCB, ress, res, rv_non, rv_bl, rv_int, rv_str, rv_ty, rv_lst, rv_tup, rv_rls, rv_xr, rv_nc, noCe, stO, true_and, and_true, Bool.not_false, Bool.not_true, rv_oD, isNon_oD, gtN, gtsCons, gtsNil, pNot, pOr, pAnd, pVal, pTru, pNeg, pNotV, pAndV, pOrV, pIfE, pDisp, allInl, pCut, pNoPt, pPt, pSeqSrc, pEnum, enSrc, pRng1, rOf1, pRng2, rOf2, owAt, pApp, pPopAt, pPop, pClear, pLc, pLcV, pYes, noOw, wipeE, restE, rst, pRaise, resL, pCall, argsOf, argO, refIx, wbC, wb, wb1, outsOf, outP, List.getElem?_cons_zero, List.getElem?_cons_succ, List.getElem?_nil, List.set_cons_zero, List.set_cons_succ, List.length_cons, List.length_nil, List.cons_append, List.nil_append, List.append_nil, List.drop_succ_cons, List.drop_zero, List.drop_nil, List.replicate_zero, List.replicate_succ, List.getD_cons_zero, List.getD_cons_succ, Nat.reduceSub, Nat.reduceAdd, Nat.sub_self, if_true, if_false, Bool.false_eq_true, q_frz1, q_frz2, q_stR1, q_stR2, q_free1, q_free2, q_free3, q_isN1, q_isN2, q_fIsN, q_fCI, q_fI, q_fI0, q_add1, q_add2, q_add3, q_mul1, q_mul2, q_isBl, q_isInt, q_seq1, q_seq2, q_seq3, q_len1, q_len2, q_len3, q_int1, q_abs, q_two, q_list1, q_list2, q_tuple1, q_tuple2, q_tru1, q_tru2, q_rs1, q_rs2, q_cut1, q_cut2, q_cut3, q_gtT, hrv, gLen_seq hxs]
  obtain rfl := M.lo
  have e2 : ((O.length : Nat) : Int).toNat = O.length := by simp
  have e1 : ((xs.length : Nat) : Int).toNat = R.length := by simp [hlen]
  have hms : ∀ n, (List.replicate n D.non) = oL (List.replicate n none) := fun n => by simp [oL, oD_none]
  rw [e2, rep_flat, hms, ← ownP_zero]
  refine ⟨by simp [sizeLine_eq], ⟨by omega, by omega, by simp [sizeLine_eq]; omega⟩, ?_⟩
  refine forGo_inv (fun i e => ∃ o5 o6, e = [.fz d, .fz (.int (O.length : Int)), .fz (.lst (oL P)), .fz (.lst (nL A)), .ow false (oL (ownP O i)), o5, o6, .un, .un, .un, .un, .un] ∧ freeO o5 ∧ freeO o6) (fun _ _ _ _ => trivial) ?_ ?_ ⟨.un, .un, rfl, trivial, trivial⟩
  · rintro i dd e Rk hdd ⟨o5, o6, rfl, f5, f6⟩ hRk
    have hi : i < P.length := by
      have := (List.getElem?_eq_some_iff.mp hdd).1
      rw [enumD_length] at this; simpa using this
    rw [enumD_get (oL_get (List.getElem?_eq_getElem hi)), Option.some.injEq] at hdd
    subst hdd
    simp only [pSeq, Option.map_some, Option.map_none, pNext, pIf, pAsg, pRet, pRetN, pDrop, pFor, pForV, pAsgG, pAug, pSetIx, pBrk, pCnt, pFz, pFr, pIn, pVar, pArg, pMv, pC, pCons, pNil, p2, pB, pBl, pCB, ress, res, rv_non, rv_bl, rv_int, rv_str, rv_ty, rv_lst, rv_tup, rv_rls, rv_xr, rv_nc, noCe, stO, true_and, and_true, Bool.not_false, Bool.not_true, rv_oD, isNon_oD, gtN, gtsCons, gtsNil, pNot, pOr, pAnd, pVal, pTru, pNeg, pNotV, pAndV, pOrV, pIfE, pDisp, allInl, pCut, pNoPt, pPt, pSeqSrc, pEnum, enSrc, pRng1, rOf1, pRng2, rOf2, owAt, pApp, pPopAt, pPop, pClear, pLc, pLcV, pYes, noOw, wipeE, restE, rst, pRaise, resL, pCall, argsOf, argO, refIx, wbC, wb, wb1, outsOf, outP, List.getElem?_cons_zero, List.getElem?_cons_succ, List.getElem?_nil, List.set_cons_zero, List.set_cons_succ, List.length_cons, List.length_nil, List.cons_append, List.nil_append, List.append_nil, List.drop_succ_cons, List.drop_zero, List.drop_nil, List.replicate_zero, List.replicate_succ, List.getD_cons_zero, List.getD_cons_succ, Nat.reduceSub, Nat.reduceAdd, Nat.sub_self, if_true, if_false, Bool.false_eq_true, q_frz1, q_frz2, q_stR1, q_stR2, q_free1, q_free2, q_free3, q_isN1, q_isN2, q_fIsN, q_fCI, q_fI, q_fI0, q_add1, q_add2, q_add3, q_mul1, q_mul2, q_isBl, q_isInt, q_seq1, q_seq2, q_seq3, q_len1, q_len2, q_len3, q_int1, q_abs, q_two, q_list1, q_list2, q_tuple1, q_tuple2, q_tru1, q_tru2, q_rs1, q_rs2, q_cut1, q_cut2, q_cut3, q_gtT, hrv, f5, f6]
    have hPi := List.getElem?_eq_getElem hi
    generalize P[i] = x at hPi
    cases x with
    | none =>
      simp only [oD_none, pSeq, Option.map_some, Option.map_none, pNext, pIf, pAsg, pRet, pRetN, pDrop, pFor, pForV, pAsgG, pAug, pSetIx, pBrk, pCnt, pFz, pFr, pIn, pVar, pArg, pMv, pC, pCons, pNil, p2, pB, pBl, pCB, ress, res, rv_non, rv_bl, rv_int, rv_str, rv_ty, rv_lst, rv_tup, rv_rls, rv_xr, rv_nc, noCe, stO, true_and, and_true, Bool.not_false, Bool.not_true, rv_oD, isNon_oD, gtN, gtsCons, gtsNil, pNot, pOr, pAnd, pVal, pTru, pNeg, pNotV, pAndV, pOrV, pIfE, pDisp, allInl, pCut, pNoPt, pPt, pSeqSrc, pEnum, enSrc, pRng1, rOf1, pRng2, rOf2, owAt, pApp, pPopAt, pPop, pClear, pLc, pLcV, pYes, noOw, wipeE, restE, rst, pRaise, resL, pCall, argsOf, argO, refIx, wbC, wb, wb1, outsOf, outP, List.getElem?_cons_zero, List.getElem?_cons_succ, List.getElem?_nil, List.set_cons_zero, List.set_cons_succ, List.length_cons, List.length_nil, List.cons_append, List.nil_append, List.append_nil, List.drop_succ_cons, List.drop_zero, List.drop_nil, List.replicate_zero, List.replicate_succ, List.getD_cons_zero, List.getD_cons_succ, Nat.reduceSub, Nat.reduceAdd, Nat.sub_self, if_true, if_false, Bool.false_eq_true, q_frz1, q_frz2, q_stR1, q_stR2, q_free1, q_free2, q_free3, q_isN1, q_isN2, q_fIsN, q_fCI, q_fI, q_fI0, q_add1, q_add2, q_add3, q_mul1, q_mul2, q_isBl, q_isInt, q_seq1, q_seq2, q_seq3, q_len1, q_len2, q_len3, q_int1, q_abs, q_two, q_list1, q_list2, q_tuple1, q_tuple2, q_tru1, q_tru2, q_rs1, q_rs2, q_cut1, q_cut2, q_cut3, q_gtT]
      exact hRk _ ⟨.fz (.int (i : Int)), .fz .non, by rw [ownP_none M hPi], trivial, trivial⟩
    | some c =>
      obtain ⟨hc, hs⟩ := ownP_some M hPi
      simp only [oD_some, pSeq, Option.map_some, Option.map_none, pNext, pIf, pAsg, pRet, pRetN, pDrop, pFor, pForV, pAsgG, pAug, pSetIx, pBrk, pCnt, pFz, pFr, pIn, pVar, pArg, pMv, pC, pCons, pNil, p2, pB, pBl, pCB, ress, res, rv_non, rv_bl, rv_int, rv_str, rv_ty, rv_lst, rv_tup, rv_rls, rv_xr, rv_nc, noCe, stO, true_and, and_true, Bool.not_false, Bool.not_true, rv_oD, isNon_oD, gtN, gtsCons, gtsNil, pNot, pOr, pAnd, pVal, pTru, pNeg, pNotV, pAndV, pOrV, pIfE, pDisp, allInl, pCut, pNoPt, pPt, pSeqSrc, pEnum, enSrc, pRng1, rOf1, pRng2, rOf2, owAt, pApp, pPopAt, pPop, pClear, pLc, pLcV, pYes, noOw, wipeE, restE, rst, pRaise, resL, pCall, argsOf, argO, refIx, wbC, wb, wb1, outsOf, outP, List.getElem?_cons_zero, List.getElem?_cons_succ, List.getElem?_nil, List.set_cons_zero, List.set_cons_succ, List.length_cons, List.length_nil, List.cons_append, List.nil_append, List.append_nil, List.drop_succ_cons, List.drop_zero, List.drop_nil, List.replicate_zero, List.replicate_succ, List.getD_cons_zero, List.getD_cons_succ, Nat.reduceSub, Nat.reduceAdd, Nat.sub_self, if_true, if_false, Bool.false_eq_true, q_frz1, q_frz2, q_stR1, q_stR2, q_free1, q_free2, q_free3, q_isN1, q_isN2, q_fIsN, q_fCI, q_fI, q_fI0, q_add1, q_add2, q_add3, q_mul1, q_mul2, q_isBl, q_isInt, q_seq1, q_seq2, q_seq3, q_len1, q_len2, q_len3, q_int1, q_abs, q_two, q_list1, q_list2, q_tuple1, q_tuple2, q_tru1, q_tru2, q_rs1, q_rs2, q_cut1, q_cut2, q_cut3, q_gtT]
      refine ⟨c, ixN_nat (by simpa [ownP] using hc), hRk _ ⟨.fz (.int (i : Int)), .fz (.int (c : Int)), ?_, trivial, trivial⟩⟩
      rw [← hs, ← oL_set]
      try rfl
  · rintro e ⟨o5, o6, rfl, f5, f6⟩
    have hO : ownP O (enumD (oL P)).length = O := by rw [enumD_length, List.length_map]; exact ownP_end M
    rw [hO]
    simp only [pSeq, Option.map_some, Option.map_none, pNext, pIf, pAsg, pRet, pRetN, pDrop, pFor, pForV, pAsgG, pAug, pSetIx, pBrk, pCnt, pFz, pFr, pIn, pVar, pArg, pMv, pC, pCons, pNil, p2, pB, pBl, pCB, ress, res, rv_non, rv_bl, rv_int, rv_str, rv_ty, rv_lst, rv_tup, rv_rls, rv_xr, rv_nc, noCe, stO, true_and, and_true, Bool.not_false, Bool.not_true, rv_oD, isNon_oD, gtN, gtsCons, gtsNil, pNot, pOr, pAnd, pVal, pTru, pNeg, pNotV, pAndV, pOrV, pIfE, pDisp, allInl, pCut, pNoPt, pPt, pSeqSrc, pEnum, enSrc, pRng1, rOf1, pRng2, rOf2, owAt, pApp, pPopAt, pPop, pClear, pLc, pLcV, pYes, noOw, wipeE, restE, rst, pRaise, resL, pCall, argsOf, argO, refIx, wbC, wb, wb1, outsOf, outP, List.getElem?_cons_zero, List.getElem?_cons_succ, List.getElem?_nil, List.set_cons_zero, List.set_cons_succ, List.length_cons, List.length_nil, List.cons_append, List.nil_append, List.append_nil, List.drop_succ_cons, List.drop_zero, List.drop_nil, List.replicate_zero, List.replicate_succ, List.getD_cons_zero, List.getD_cons_succ, Nat.reduceSub, Nat.reduceAdd, Nat.sub_self, if_true, if_false, Bool.false_eq_true, q_frz1, q_frz2, q_stR1, q_stR2, q_free1, q_free2, q_free3, q_isN1, q_isN2, q_fIsN, q_fCI, q_fI, q_fI0, q_add1, q_add2, q_add3, q_mul1, q_mul2, q_isBl, q_isInt, q_seq1, q_seq2, q_seq3, q_len1, q_len2, q_len3, q_int1, q_abs, q_two, q_list1, q_list2, q_tuple1, q_tuple2, q_tru1, q_tru2, q_rs1, q_rs2, q_cut1, q_cut2, q_cut3, q_gtT, hrv, gLen_seq hxs]
    have hmb : ∀ n, (List.replicate n (D.bl false)) = bL (List.replicate n false) := fun n => by simp [bL]
    rw [e1, e2, rep_flat, rep_flat, hmb, hmb]
    refine ⟨by simp [sizeLine_eq], ⟨by omega, by omega, by simp [sizeLine_eq]; omega⟩, by simp [sizeLine_eq], ⟨by omega, by omega, by simp [sizeLine_eq]; omega⟩, ?_⟩
    have rn : ∀ (n c : Nat), (List.replicate n false)[c]? ≠ some true := fun n c h => by
      rw [List.getElem?_replicate] at h
      split at h <;> cases h
    refine forGo_inv (fun i e => ∃ (RM : List Bool) (o5 : PW.O), e = [.fz d, .fz (.int (O.length : Int)), .fz (.lst (oL P)), .fz (.lst (nL A)), .ow false (oL O), o5, o6, .ow false (bL RM), .ow false (bL (List.replicate O.length false)), .un, .un, .un] ∧ freeO o5 ∧
      RM.length = R.length ∧ (∀ r ∈ A.take i, RM[r]? = some true) ∧ (∀ r : Nat, RM[r]? = some true → r ∈ A)) (fun _ _ _ _ => trivial) ?_ ?_ ⟨List.replicate R.length false, o5, rfl, f5, by simp, fun r h => by simp at h, fun r h => absurd h (rn _ _)⟩
    · rintro i dd e Rk hdd ⟨RM, o5, rfl, f5, l1, l2, l3⟩ hRk
      rw [List.getElem?_map] at hdd
      obtain ⟨r, hr, rfl⟩ := Option.map_eq_some_iff.mp hdd
      have hrl := (hA r (List.mem_of_getElem? hr)).1
      simp only [pSeq, Option.map_some, Option.map_none, pNext, pIf, pAsg, pRet, pRetN, pDrop, pFor, pForV, pAsgG, pAug, pSetIx, pBrk, pCnt, pFz, pFr, pIn, pVar, pArg, pMv, pC, pCons, pNil, p2, pB, pBl, pCB, ress, res, rv_non, rv_bl, rv_int, rv_str, rv_ty, rv_lst, rv_tup, rv_rls, rv_xr, rv_nc, noCe, stO, true_and, and_true, Bool.not_false, Bool.not_true, rv_oD, isNon_oD, gtN, gtsCons, gtsNil, pNot, pOr, pAnd, pVal, pTru, pNeg, pNotV, pAndV, pOrV, pIfE, pDisp, allInl, pCut, pNoPt, pPt, pSeqSrc, pEnum, enSrc, pRng1, rOf1, pRng2, rOf2, owAt, pApp, pPopAt, pPop, pClear, pLc, pLcV, pYes, noOw, wipeE, restE, rst, pRaise, resL, pCall, argsOf, argO, refIx, wbC, wb, wb1, outsOf, outP, List.getElem?_cons_zero, List.getElem?_cons_succ, List.getElem?_nil, List.set_cons_zero, List.set_cons_succ, List.length_cons, List.length_nil, List.cons_append, List.nil_append, List.append_nil, List.drop_succ_cons, List.drop_zero, List.drop_nil, List.replicate_zero, List.replicate_succ, List.getD_cons_zero, List.getD_cons_succ, Nat.reduceSub, Nat.reduceAdd, Nat.sub_self, if_true, if_false, Bool.false_eq_true, q_frz1, q_frz2, q_stR1, q_stR2, q_free1, q_free2, q_free3, q_isN1, q_isN2, q_fIsN, q_fCI, q_fI, q_fI0, q_add1, q_add2, q_add3, q_mul1, q_mul2, q_isBl, q_isInt, q_seq1, q_seq2, q_seq3, q_len1, q_len2, q_len3, q_int1, q_abs, q_two, q_list1, q_list2, q_tuple1, q_tuple2, q_tru1, q_tru2, q_rs1, q_rs2, q_cut1, q_cut2, q_cut3, q_gtT, f5]
      refine ⟨r, ixN_nat (by simpa [l1] using hrl), hRk _ ⟨RM.set r true, .fz (.int (r : Int)), by rw [bL_set], trivial, by simp [l1], fun r' h => ?_, fun r' h => ?_⟩⟩
      · have hil := (List.getElem?_eq_some_iff.mp hr).1
        rw [List.take_succ_eq_append_getElem hil, List.mem_append, List.mem_singleton] at h
        rcases h with h | h
        · exact set_true (l2 r' h)
        · rw [(List.getElem?_eq_some_iff.mp hr).2] at h
          subst h
          rw [gset (by omega), if_pos rfl]
      · rcases set_true_inv h with h | h
        · subst h; exact List.mem_of_getElem? hr
        · exact l3 r' h
    · rintro e ⟨RM, o5, rfl, f5, l1, l2, l3⟩
      have l2' : ∀ r ∈ A, RM[r]? = some true := fun r h => l2 r (by simpa using h)
      simp only [pSeq, Option.map_some, Option.map_none, pNext, pIf, pAsg, pRet, pRetN, pDrop, pFor, pForV, pAsgG, pAug, pSetIx, pBrk, pCnt, pFz, pFr, pIn, pVar, pArg, pMv, pC, pCons, pNil, p2, pB, pBl, pCB, ress, res, rv_non, rv_bl, rv_int, rv_str, rv_ty, rv_lst, rv_tup, rv_rls, rv_xr, rv_nc, noCe, stO, true_and, and_true, Bool.not_false, Bool.not_true, rv_oD, isNon_oD, gtN, gtsCons, gtsNil, pNot, pOr, pAnd, pVal, pTru, pNeg, pNotV, pAndV, pOrV, pIfE, pDisp, allInl, pCut, pNoPt, pPt, pSeqSrc, pEnum, enSrc, pRng1, rOf1, pRng2, rOf2, owAt, pApp, pPopAt, pPop, pClear, pLc, pLcV, pYes, noOw, wipeE, restE, rst, pRaise, resL, pCall, argsOf, argO, refIx, wbC, wb, wb1, outsOf, outP, List.getElem?_cons_zero, List.getElem?_cons_succ, List.getElem?_nil, List.set_cons_zero, List.set_cons_succ, List.length_cons, List.length_nil, List.cons_append, List.nil_append, List.append_nil, List.drop_succ_cons, List.drop_zero, List.drop_nil, List.replicate_zero, List.replicate_succ, List.getD_cons_zero, List.getD_cons_succ, Nat.reduceSub, Nat.reduceAdd, Nat.sub_self, if_true, if_false, Bool.false_eq_true, q_frz1, q_frz2, q_stR1, q_stR2, q_free1, q_free2, q_free3, q_isN1, q_isN2, q_fIsN, q_fCI, q_fI, q_fI0, q_add1, q_add2, q_add3, q_mul1, q_mul2, q_isBl, q_isInt, q_seq1, q_seq2, q_seq3, q_len1, q_len2, q_len3, q_int1, q_abs, q_two, q_list1, q_list2, q_tuple1, q_tuple2, q_tru1, q_tru2, q_rs1, q_rs2, q_cut1, q_cut2, q_cut3, q_gtT]
      refine ⟨fun μ e => ∃ (RM CM : List Bool) (qq : List Nat) (a : Nat) (o5 o6 o11 : PW.O), e = [.fz d, .fz (.int (O.length : Int)), .fz (.lst (oL P)), .fz (.lst (nL A)), .ow false (oL O), o5, o6, .ow false (bL RM), .ow false (bL CM), .ow false (nL qq), .fz (.int (a : Int)), o11] ∧ freeO o5 ∧ freeO o6 ∧ freeO o11 ∧
        Rb R O.length O A RM CM qq a ∧ cntF RM + qq.length ≤ 2000 ∧ μ = cntF RM + (qq.length - a), ⟨_, RM, List.replicate O.length false, A, 0, o5, o6, .un, rfl, f5, f6, trivial, ?_, ?_, rfl⟩, ?_⟩
      · refine ⟨l1, by simp, fun r h => (hA r (l3 r h)).2, l2', l2', l3, Nat.zero_le _, fun j _ _ _ h => absurd h (Nat.not_lt_zero _), fun c h => absurd h (rn _ _)⟩
      · have : cntF RM ≤ RM.length := List.countP_le_length
        omega
      · rintro μ e ⟨RM, CM, qq, a, o5, o6, o11, rfl, f5, f6, f11, B, hcn, rfl⟩
        simp only [pSeq, Option.map_some, Option.map_none, pNext, pIf, pAsg, pRet, pRetN, pDrop, pFor, pForV, pAsgG, pAug, pSetIx, pBrk, pCnt, pFz, pFr, pIn, pVar, pArg, pMv, pC, pCons, pNil, p2, pB, pBl, pCB, ress, res, rv_non, rv_bl, rv_int, rv_str, rv_ty, rv_lst, rv_tup, rv_rls, rv_xr, rv_nc, noCe, stO, true_and, and_true, Bool.not_false, Bool.not_true, rv_oD, isNon_oD, gtN, gtsCons, gtsNil, pNot, pOr, pAnd, pVal, pTru, pNeg, pNotV, pAndV, pOrV, pIfE, pDisp, allInl, pCut, pNoPt, pPt, pSeqSrc, pEnum, enSrc, pRng1, rOf1, pRng2, rOf2, owAt, pApp, pPopAt, pPop, pClear, pLc, pLcV, pYes, noOw, wipeE, restE, rst, pRaise, resL, pCall, argsOf, argO, refIx, wbC, wb, wb1, outsOf, outP, List.getElem?_cons_zero, List.getElem?_cons_succ, List.getElem?_nil, List.set_cons_zero, List.set_cons_succ, List.length_cons, List.length_nil, List.cons_append, List.nil_append, List.append_nil, List.drop_succ_cons, List.drop_zero, List.drop_nil, List.replicate_zero, List.replicate_succ, List.getD_cons_zero, List.getD_cons_succ, Nat.reduceSub, Nat.reduceAdd, Nat.sub_self, if_true, if_false, Bool.false_eq_true, q_frz1, q_frz2, q_stR1, q_stR2, q_free1, q_free2, q_free3, q_isN1, q_isN2, q_fIsN, q_fCI, q_fI, q_fI0, q_add1, q_add2, q_add3, q_mul1, q_mul2, q_isBl, q_isInt, q_seq1, q_seq2, q_seq3, q_len1, q_len2, q_len3, q_int1, q_abs, q_two, q_list1, q_list2, q_tuple1, q_tuple2, q_tru1, q_tru2, q_rs1, q_rs2, q_cut1, q_cut2, q_cut3, q_gtT, List.length_map]
        by_cases ha : a < qq.length
        · rw [if_pos (by simpa using ha)]
          obtain ⟨r, hra⟩ : ∃ r, qq[a]? = some r := ⟨_, List.getElem?_eq_getElem ha⟩
          have hrm := B.qm r (List.mem_of_getElem? hra)
          have hrl : r < R.length := by rw [← B.lr]; exact (List.getElem?_eq_some_iff.mp hrm).1
          have hR : R[r]? = some R[r] := List.getElem?_eq_getElem hrl
          generalize R[r] = row at hR
          obtain ⟨x, hx, hx2⟩ := hrow r row hR
          obtain ⟨S, hS1, hS2⟩ := B.un r hrm
          rw [fIx_nL hra]
          simp only [pSeq, Option.map_some, Option.map_none, pNext, pIf, pAsg, pRet, pRetN, pDrop, pFor, pForV, pAsgG, pAug, pSetIx, pBrk, pCnt, pFz, pFr, pIn, pVar, pArg, pMv, pC, pCons, pNil, p2, pB, pBl, pCB, ress, res, rv_non, rv_bl, rv_int, rv_str, rv_ty, rv_lst, rv_tup, rv_rls, rv_xr, rv_nc, noCe, stO, true_and, and_true, Bool.not_false, Bool.not_true, rv_oD, isNon_oD, gtN, gtsCons, gtsNil, pNot, pOr, pAnd, pVal, pTru, pNeg, pNotV, pAndV, pOrV, pIfE, pDisp, allInl, pCut, pNoPt, pPt, pSeqSrc, pEnum, enSrc, pRng1, rOf1, pRng2, rOf2, owAt, pApp, pPopAt, pPop, pClear, pLc, pLcV, pYes, noOw, wipeE, restE, rst, pRaise, resL, pCall, argsOf, argO, refIx, wbC, wb, wb1, outsOf, outP, List.getElem?_cons_zero, List.getElem?_cons_succ, List.getElem?_nil, List.set_cons_zero, List.set_cons_succ, List.length_cons, List.length_nil, List.cons_append, List.nil_append, List.append_nil, List.drop_succ_cons, List.drop_zero, List.drop_nil, List.replicate_zero, List.replicate_succ, List.getD_cons_zero, List.getD_cons_succ, Nat.reduceSub, Nat.reduceAdd, Nat.sub_self, if_true, if_false, Bool.false_eq_true, q_frz1, q_frz2, q_stR1, q_stR2, q_free1, q_free2, q_free3, q_isN1, q_isN2, q_fIsN, q_fCI, q_fI, q_fI0, q_add1, q_add2, q_add3, q_mul1, q_mul2, q_isBl, q_isInt, q_seq1, q_seq2, q_seq3, q_len1, q_len2, q_len3, q_int1, q_abs, q_two, q_list1, q_list2, q_tuple1, q_tuple2, q_tru1, q_tru2, q_rs1, q_rs2, q_cut1, q_cut2, q_cut3, q_gtT, hrv, f5, f6, f11]
          rw [fIx_seq hxs hx]
          simp only [pSeq, Option.map_some, Option.map_none, pNext, pIf, pAsg, pRet, pRetN, pDrop, pFor, pForV, pAsgG, pAug, pSetIx, pBrk, pCnt, pFz, pFr, pIn, pVar, pArg, pMv, pC, pCons, pNil, p2, pB, pBl, pCB, ress, res, rv_non, rv_bl, rv_int, rv_str, rv_ty, rv_lst, rv_tup, rv_rls, rv_xr, rv_nc, noCe, stO, true_and, and_true, Bool.not_false, Bool.not_true, rv_oD, isNon_oD, gtN, gtsCons, gtsNil, pNot, pOr, pAnd, pVal, pTru, pNeg, pNotV, pAndV, pOrV, pIfE, pDisp, allInl, pCut, pNoPt, pPt, pSeqSrc, pEnum, enSrc, pRng1, rOf1, pRng2, rOf2, owAt, pApp, pPopAt, pPop, pClear, pLc, pLcV, pYes, noOw, wipeE, restE, rst, pRaise, resL, pCall, argsOf, argO, refIx, wbC, wb, wb1, outsOf, outP, List.getElem?_cons_zero, List.getElem?_cons_succ, List.getElem?_nil, List.set_cons_zero, List.set_cons_succ, List.length_cons, List.length_nil, List.cons_append, List.nil_append, List.append_nil, List.drop_succ_cons, List.drop_zero, List.drop_nil, List.replicate_zero, List.replicate_succ, List.getD_cons_zero, List.getD_cons_succ, Nat.reduceSub, Nat.reduceAdd, Nat.sub_self, if_true, if_false, Bool.false_eq_true, q_frz1, q_frz2, q_stR1, q_stR2, q_free1, q_free2, q_free3, q_isN1, q_isN2, q_fIsN, q_fCI, q_fI, q_fI0, q_add1, q_add2, q_add3, q_mul1, q_mul2, q_isBl, q_isInt, q_seq1, q_seq2, q_seq3, q_len1, q_len2, q_len3, q_int1, q_abs, q_two, q_list1, q_list2, q_tuple1, q_tuple2, q_tru1, q_tru2, q_rs1, q_rs2, q_cut1, q_cut2, q_cut3, q_gtT]
          have hcl2 : cntF RM ≤ RM.length := List.countP_le_length
          rw [seqD_seq hx2]
          refine forGo_inv (fun i e => ∃ (RM2 CM2 : List Bool) (q2 : List Nat) (o6 o11 : PW.O), e = [.fz d, .fz (.int (O.length : Int)), .fz (.lst (oL P)), .fz (.lst (nL A)), .ow false (oL O), .fz (.int (r : Int)), o6, .ow false (bL RM2), .ow false (bL CM2), .ow false (nL q2), .fz (.int ((a : Int) + 1)), o11] ∧ freeO o6 ∧ freeO o11 ∧
            Rb R O.length O A RM2 CM2 q2 a ∧ q2[a]? = some r ∧ (∀ j c : Nat, j < i → row[j]? = some c → CM2[c]? = some true) ∧ cntF RM2 + q2.length ≤ 2000 ∧ cntF RM2 + (q2.length - (a + 1)) + 1 = cntF RM + (qq.length - a)) (fun _ _ _ _ => trivial) ?_ ?_ ⟨RM, CM, qq, o6, o11, rfl, f6, f11, B, hra, fun j c hj => absurd hj (Nat.not_lt_zero _), hcn, by omega⟩
          · rintro i dd e Rk hdd ⟨RM2, CM2, q2, o6, o11, rfl, f6, f11, B2, hq2, hdone, hcn2, hcnt⟩ hRk
            have ha2 : a < q2.length := (List.getElem?_eq_some_iff.mp hq2).1
            obtain ⟨c, hc, rfl⟩ : ∃ c : Nat, row[i]? = some c ∧ dd = .int (c : Int) := by
              rw [List.getElem?_map] at hdd
              cases z : row[i]? with
              | none => rw [z] at hdd; cases hdd
              | some c => rw [z] at hdd; cases hdd; exact ⟨c, rfl, rfl⟩
            have hcm : c ∈ row := List.mem_of_getElem? hc
            obtain ⟨r', hr'1, hr'2⟩ := hS2 r row c hS1 hR hcm
            have hcl : c < O.length := (List.getElem?_eq_some_iff.mp hr'2).1
            have hr'l : r' < R.length := by rw [← M.lp]; exact (List.getElem?_eq_some_iff.mp (M.op r' c hr'2)).1
            obtain ⟨y, hmk⟩ : ∃ y, RM2[r']? = some y := ⟨_, List.getElem?_eq_getElem (by rw [B2.lr]; exact hr'l)⟩
            simp only [pSeq, Option.map_some, Option.map_none, pNext, pIf, pAsg, pRet, pRetN, pDrop, pFor, pForV, pAsgG, pAug, pSetIx, pBrk, pCnt, pFz, pFr, pIn, pVar, pArg, pMv, pC, pCons, pNil, p2, pB, pBl, pCB, ress, res, rv_non, rv_bl, rv_int, rv_str, rv_ty, rv_lst, rv_tup, rv_rls, rv_xr, rv_nc, noCe, stO, true_and, and_true, Bool.not_false, Bool.not_true, rv_oD, isNon_oD, gtN, gtsCons, gtsNil, pNot, pOr, pAnd, pVal, pTru, pNeg, pNotV, pAndV, pOrV, pIfE, pDisp, allInl, pCut, pNoPt, pPt, pSeqSrc, pEnum, enSrc, pRng1, rOf1, pRng2, rOf2, owAt, pApp, pPopAt, pPop, pClear, pLc, pLcV, pYes, noOw, wipeE, restE, rst, pRaise, resL, pCall, argsOf, argO, refIx, wbC, wb, wb1, outsOf, outP, List.getElem?_cons_zero, List.getElem?_cons_succ, List.getElem?_nil, List.set_cons_zero, List.set_cons_succ, List.length_cons, List.length_nil, List.cons_append, List.nil_append, List.append_nil, List.drop_succ_cons, List.drop_zero, List.drop_nil, List.replicate_zero, List.replicate_succ, List.getD_cons_zero, List.getD_cons_succ, Nat.reduceSub, Nat.reduceAdd, Nat.sub_self, if_true, if_false, Bool.false_eq_true, q_frz1, q_frz2, q_stR1, q_stR2, q_free1, q_free2, q_free3, q_isN1, q_isN2, q_fIsN, q_fCI, q_fI, q_fI0, q_add1, q_add2, q_add3, q_mul1, q_mul2, q_isBl, q_isInt, q_seq1, q_seq2, q_seq3, q_len1, q_len2, q_len3, q_int1, q_abs, q_two, q_list1, q_list2, q_tuple1, q_tuple2, q_tru1, q_tru2, q_rs1, q_rs2, q_cut1, q_cut2, q_cut3, q_gtT, hrv, f6, f11]
            refine ⟨c, ixN_nat (by simpa [B2.lc] using hcl), ?_⟩
            rw [bL_set, fIx_oL hr'2]
            simp only [pSeq, Option.map_some, Option.map_none, pNext, pIf, pAsg, pRet, pRetN, pDrop, pFor, pForV, pAsgG, pAug, pSetIx, pBrk, pCnt, pFz, pFr, pIn, pVar, pArg, pMv, pC, pCons, pNil, p2, pB, pBl, pCB, ress, res, rv_non, rv_bl, rv_int, rv_str, rv_ty, rv_lst, rv_tup, rv_rls, rv_xr, rv_nc, noCe, stO, true_and, and_true, Bool.not_false, Bool.not_true, rv_oD, isNon_oD, gtN, gtsCons, gtsNil, pNot, pOr, pAnd, pVal, pTru, pNeg, pNotV, pAndV, pOrV, pIfE, pDisp, allInl, pCut, pNoPt, pPt, pSeqSrc, pEnum, enSrc, pRng1, rOf1, pRng2, rOf2, owAt, pApp, pPopAt, pPop, pClear, pLc, pLcV, pYes, noOw, wipeE, restE, rst, pRaise, resL, pCall, argsOf, argO, refIx, wbC, wb, wb1, outsOf, outP, List.getElem?_cons_zero, List.getElem?_cons_succ, List.getElem?_nil, List.set_cons_zero, List.set_cons_succ, List.length_cons, List.length_nil, List.cons_append, List.nil_append, List.append_nil, List.drop_succ_cons, List.drop_zero, List.drop_nil, List.replicate_zero, List.replicate_succ, List.getD_cons_zero, List.getD_cons_succ, Nat.reduceSub, Nat.reduceAdd, Nat.sub_self, if_true, if_false, Bool.false_eq_true, q_frz1, q_frz2, q_stR1, q_stR2, q_free1, q_free2, q_free3, q_isN1, q_isN2, q_fIsN, q_fCI, q_fI, q_fI0, q_add1, q_add2, q_add3, q_mul1, q_mul2, q_isBl, q_isInt, q_seq1, q_seq2, q_seq3, q_len1, q_len2, q_len3, q_int1, q_abs, q_two, q_list1, q_list2, q_tuple1, q_tuple2, q_tru1, q_tru2, q_rs1, q_rs2, q_cut1, q_cut2, q_cut3, q_gtT, oD_some, Option.isNone_some]
            rw [fIx_bL hmk]
            simp only [pSeq, Option.map_some, Option.map_none, pNext, pIf, pAsg, pRet, pRetN, pDrop, pFor, pForV, pAsgG, pAug, pSetIx, pBrk, pCnt, pFz, pFr, pIn, pVar, pArg, pMv, pC, pCons, pNil, p2, pB, pBl, pCB, ress, res, rv_non, rv_bl, rv_int, rv_str, rv_ty, rv_lst, rv_tup, rv_rls, rv_xr, rv_nc, noCe, stO, true_and, and_true, Bool.not_false, Bool.not_true, rv_oD, isNon_oD, gtN, gtsCons, gtsNil, pNot, pOr, pAnd, pVal, pTru, pNeg, pNotV, pAndV, pOrV, pIfE, pDisp, allInl, pCut, pNoPt, pPt, pSeqSrc, pEnum, enSrc, pRng1, rOf1, pRng2, rOf2, owAt, pApp, pPopAt, pPop, pClear, pLc, pLcV, pYes, noOw, wipeE, restE, rst, pRaise, resL, pCall, argsOf, argO, refIx, wbC, wb, wb1, outsOf, outP, List.getElem?_cons_zero, List.getElem?_cons_succ, List.getElem?_nil, List.set_cons_zero, List.set_cons_succ, List.length_cons, List.length_nil, List.cons_append, List.nil_append, List.append_nil, List.drop_succ_cons, List.drop_zero, List.drop_nil, List.replicate_zero, List.replicate_succ, List.getD_cons_zero, List.getD_cons_succ, Nat.reduceSub, Nat.reduceAdd, Nat.sub_self, if_true, if_false, Bool.false_eq_true, q_frz1, q_frz2, q_stR1, q_stR2, q_free1, q_free2, q_free3, q_isN1, q_isN2, q_fIsN, q_fCI, q_fI, q_fI0, q_add1, q_add2, q_add3, q_mul1, q_mul2, q_isBl, q_isInt, q_seq1, q_seq2, q_seq3, q_len1, q_len2, q_len3, q_int1, q_abs, q_two, q_list1, q_list2, q_tuple1, q_tuple2, q_tru1, q_tru2, q_rs1, q_rs2, q_cut1, q_cut2, q_cut3, q_gtT]
            have dn2 : ∀ j c' : Nat, j < i + 1 → row[j]? = some c' → (CM2.set c true)[c']? = some true := fun j c' hj hjc => by
              by_cases e : j = i
              · subst e; rw [hc] at hjc; cases hjc
                rw [gset (by rw [B2.lc]; exact hcl), if_pos rfl]
              · exact set_true (hdone j c' (by omega) hjc)
            cases y with
            | true =>
              simp only [Bool.not_true, Bool.false_eq_true, if_false]
              refine hRk _ ⟨RM2, CM2.set c true, q2, _, _, rfl, trivial, trivial, ⟨B2.lr, by simp [B2.lc], B2.un, B2.st, B2.qm, B2.mq, B2.al, fun j r1 row1 c1 h1 h2 h3 h4 => set_true (B2.dn j r1 row1 c1 h1 h2 h3 h4), fun c1 h => ?_⟩, hq2, dn2, hcn2, hcnt⟩
              rcases set_true_inv h with h | h
              · subst h; exact ⟨r', hr'2, hmk⟩
              · exact B2.ow c1 h
            | false =>
              simp only [Bool.not_false, if_true]
              have hcs := cntF_set hmk
              have hst : ∀ z : Nat, RM2[z]? = some true → (RM2.set r' true)[z]? = some true := fun z h => set_true h
              have hme : (RM2.set r' true)[r']? = some true := by rw [gset (by rw [B2.lr]; exact hr'l), if_pos rfl]
              have al := B2.al
              refine ⟨r', ixN_nat (by simpa [B2.lr] using hr'l), ?_, ?_⟩
              · simp only [List.length_map, sizeLine_eq]
                omega
              · rw [bL_set]
                refine hRk _ ⟨RM2.set r' true, CM2.set c true, q2 ++ [r'], .fz (.int (c : Int)), .fz (.int (r' : Int)), by simp [nL], trivial, trivial, ⟨by simp [B2.lr], by simp [B2.lc], fun z h => ?_, fun z h => hst z (B2.st z h), fun z h => ?_, fun z h => ?_, by simp; omega, fun j r1 row1 c1 h1 h2 h3 h4 => set_true (B2.dn j r1 row1 c1 h1 ?_ h3 h4), fun c1 h => ?_⟩, by rw [List.getElem?_append_left ha2]; exact hq2, dn2, by simp; omega, by simp; omega⟩
                · rcases set_true_inv h with h | h
                  · subst h; exact ⟨S, hr'1, hS2⟩
                  · exact B2.un z h
                · rcases List.mem_append.mp h with h | h
                  · exact hst z (B2.qm z h)
                  · rw [List.mem_singleton] at h; subst h; exact hme
                · rcases set_true_inv h with h | h
                  · subst h; simp
                  · exact List.mem_append_left _ (B2.mq z h)
                · rw [List.getElem?_append_left (by omega)] at h2; exact h2
                · rcases set_true_inv h with h | h
                  · subst h; exact ⟨r', hr'2, hme⟩
                  · obtain ⟨z, k1, k2⟩ := B2.ow c1 h
                    exact ⟨z, k1, hst z k2⟩
          · rintro e ⟨RM2, CM2, q2, o6, o11, rfl, f6, f11, B2, hq2, hdone, hcn2, hcnt⟩
            have ha2 : a < q2.length := (List.getElem?_eq_some_iff.mp hq2).1
            refine ⟨_, ?_, RM2, CM2, q2, a + 1, .fz (.int (r : Int)), o6, o11, by simp, trivial, f6, f11, ⟨B2.lr, B2.lc, B2.un, B2.st, B2.qm, B2.mq, ha2, fun j r1 row1 c hj h1 h2 h3 => ?_, B2.ow⟩, hcn2, rfl⟩
            · omega
            · by_cases e : j = a
              · subst e
                rw [hq2] at h1; cases h1
                rw [hR] at h2; cases h2
                obtain ⟨i, hi⟩ := List.mem_iff_getElem?.mp h3
                exact hdone i c (by simpa using (List.getElem?_eq_some_iff.mp hi).1) hi
              · exact B2.dn j r1 row1 c (by omega) h1 h2 h3
        · rw [if_neg (by simpa using ha)]
          have hal := B.al
          refine ⟨by simp [sizeLine_eq], ?_⟩
          refine q RM CM _ _ _ _ _ _ _ _ ⟨B.lr, B.lc, B.un, B.st, fun r row c h1 h2 h3 => ?_, B.ow⟩
          obtain ⟨j, hj⟩ := List.mem_iff_getElem?.mp (B.mq r h1)
          exact B.dn j r row c (by have := (List.getElem?_eq_some_iff.mp hj).1; omega) hj h2 h3
end K12
set_option Elab.async false
set_option linter.all false
set_option maxRecDepth 100000
set_option maxHeartbeats 4000000
namespace K12
open PySem PySem.Spec PyProof.Rows L2 PW
structure ARc where
  d : D
  R : List (List Nat)
  m : Nat
  P : List (Option Nat)
  O : List (Option Nat)
  A : List Nat
  hd : TabD d R
  he : Ent R m
  M : Mat R m P O
  hA : ∀ r ∈ A, r < R.length ∧ U R O r
  hAl : A.length ≤ 1000
  hsz : R.length ≤ 1000 ∧ m ≤ 1000
def postRc (a : ARc) (r : PW.O) (o : List PW.O) : Prop := ∃ RM CM, Mk a.R a.m a.O a.A RM CM ∧ r = .fz (.tup [.lst (bL RM), .lst (bL CM)]) ∧ o = [.un, .un, .un, .un]
abbrev spRc : PSp := mkSp (fun (a : ARc) args => args = [.fz a.d, .fz (.int (a.m : Int)), .fz (.lst (oL a.P)), .fz (.lst (nL a.A))]) postRc noEx
section
variable {P : Program} {w : World} {K : PySem.W.Frag} {mg : Str → Option Value} {base : Heap} {C_BadCount C_BadNumber C_BadTable C_ReelError : Addr} {f : Addr} {fd : FuncData}
theorem ok_reached (T : Txt K mg C_BadCount C_BadNumber C_BadTable C_ReelError) (Fn : Fun K "reached" "reached" s_reached f fd) : FnOk P w K mg base (L2.CX P w) 1 f fd [("rows" : Str), ("columns" : Str), ("partners" : Str), ("starts" : Str)] (spM K spRc) :=
  Fn.M sc_reached (fun a args h => by rw [show args = _ from h]; rfl) (fun cdv A outer s H E hr => d_reached T hr) (fun a args h => by
    rw [show args = _ from h]
    exact p_reached a.hd a.he a.M a.hA a.hAl a.hsz fun RM CM _ _ _ _ _ _ _ _ h1 => ⟨RM, CM, h1, rfl, rfl⟩)
end
/-! ### pairing_cover -/
def whereN {α : Type} (p : α → Bool) (l : List α) : List Nat := (List.range l.length).filter fun i => (l[i]?).any p
theorem whereN_mem {α : Type} {p : α → Bool} {l : List α} {i : Nat} : i ∈ whereN p l ↔ ∃ x, l[i]? = some x ∧ p x = true := by
  unfold whereN
  rw [List.mem_filter, List.mem_range]
  constructor
  · rintro ⟨h1, h2⟩
    cases h : l[i]? with
    | none => rw [h] at h2; cases h2
    | some x => rw [h] at h2; exact ⟨x, rfl, h2⟩
  · rintro ⟨x, h1, h2⟩
    exact ⟨(List.getElem?_eq_some_iff.mp h1).1, by rw [h1]; exact h2⟩
theorem whereN_len {α : Type} {p : α → Bool} {l : List α} : (whereN p l).length ≤ l.length := by
  unfold whereN
  exact Nat.le_trans (List.length_filter_le _ _) (by simp)
theorem wh_succ {α : Type} {p : α → Bool} {l : List α} {i : Nat} {x : α} (h : l[i]? = some x) : (List.range (i + 1)).filter (fun i => (l[i]?).any p) = (List.range i).filter (fun i => (l[i]?).any p) ++ (if p x then [i] else []) := by
  rw [List.range_succ, List.filter_append]
  congr 1
  simp only [List.filter_cons, List.filter_nil, h, Option.any_some]
structure Cov (N : List (List Nat)) (n : Nat) (P O : List (Option Nat)) (RM CM : List Bool) : Prop where
  B : Best N n P O
  K : Mk N n O (whereN Option.isNone P) RM CM
abbrev covD (RM CM : List Bool) : D := .tup [.tup (nL (whereN (! ·) RM)), .tup (nL (whereN id CM))]
def postPc (a : ACt) (r : PW.O) (o : List PW.O) : Prop := ∃ (N : List (List Nat)) (n : Nat) (P O : List (Option Nat)) (RM CM : List Bool), a.R = N.map nZ ∧ a.m = (n : Int) ∧ Good a.R a.m ∧ Cov N n P O RM CM ∧ r = .fz (covD RM CM) ∧ o = [.un, .un]
abbrev spPc (CC CN CT : Addr) : PSp := mkSp (fun (a : ACt) args => args = [.fz a.d, .fz (.int a.m)]) postPc (fun a x o => Wrong CC CN CT a.R a.m x ∧ o = [.un, .un])
theorem p_pairing_cover {CC CN CT : Addr} (a : ACt) {Z : PEnds} (q : ∀ (N : List (List Nat)) (n : Nat) (P O : List (Option Nat)) (RM CM : List Bool) o2 o3 o4 o5 o6 o7 o8 o9 o10, a.R = N.map nZ → a.m = (n : Int) → Good a.R a.m → Cov N n P O RM CM → Z.rt (.fz (covD RM CM)) [.fz a.d, .fz (.int a.m), o2, o3, o4, o5, o6, o7, o8, o9, o10])
    (qe : ∀ x o2 o3 o4 o5 o6 o7 o8 o9 o10, Wrong CC CN CT a.R a.m x → Z.ex x [.fz a.d, .fz (.int a.m), o2, o3, o4, o5, o6, o7, o8, o9, o10]) : b_pairing_cover (spCt CC CN CT) spPaired spRc Z [.fz a.d, .fz (.int a.m), .un, .un, .un, .un, .un, .un, .un, .un, .un] := by
  obtain ⟨xs, hxs, hlen, hrow⟩ := a.hd.ex
  have hrv : ∀ e, rv e a.d = a.d := fun e => seq_ne hxs
  unfold b_pairing_cover
  simp only [pSeq, Option.map_some, Option.map_none, pNext, pIf, pAsg, pRet, pRetN, pDrop, pFor, pForV, pAsgG, pAug, pSetIx, pBrk, pCnt, pFz, pFr, pIn, pVar, pArg, pMv, pC, pCons, pNil, p2, pB, pBl, pCB, ress, res, rv_non, rv_bl, rv_int, rv_str, rv_ty, rv_lst, rv_tup, rv_rls, rv_xr, rv_nc, noCe, stO, true_and, and_true, Bool.not_false, Bool.not_true, rv_oD, isNon_oD, gtN, gtsCons, gtsNil, pNot, pOr, pAnd, pVal, pTru, pNeg, pNotV, pAndV, pOrV, pIfE, pDisp, allInl, pCut, pNoPt, pPt, pSeqSrc, pEnum, enSrc, pRng1, rOf1, pRng2, rOf2, owAt, pApp, pPopAt, pPop, pClear, pLc, pLcV, pYes, noOw, wipeE, restE, rst, pRaise, resL, pCall, argsOf, argO, refIx, wbC, wb, wb1, outsOf, outP, List.getElem?_cons_zero, List.getElem?_cons_succ, List.getElem?_nil, List.set_cons_zero, List.set_cons_succ, List.length_cons, List.length_nil, List.cons_append, List.nil_append, List.append_nil, List.drop_succ_cons, List.drop_zero, List.drop_nil, List.replicate_zero, List.replicate_succ, List.getD_cons_zero, List.getD_cons_succ, Nat.reduceSub, Nat.reduceAdd, Nat.sub_self, if_true, if_false, Bool.false_eq_true, q_frz1, q_frz2, q_stR1, q_stR2, q_free1, q_free2, q_free3, q_isN1, q_isN2, q_fIsN, q_fCI, q_fI, q_fI0, q_add1, q_add2, q_add3, q_mul1, q_mul2, q_isBl, q_isInt, q_seq1, q_seq2, q_seq3, q_len1, q_len2, q_len3, q_int1, q_abs, q_two, q_list1, q_list2, q_tuple1, q_tuple2, q_tru1, q_tru2, q_rs1, q_rs2, q_cut1, q_cut2, q_cut3, q_gtT, hrv]
  refine callGo_mk _ a rfl (by simp [refIx]) rfl ?_ ?_
  rotate_left
  · rintro x o ⟨h, rfl⟩
    simp only [pSeq, Option.map_some, Option.map_none, pNext, pIf, pAsg, pRet, pRetN, pDrop, pFor, pForV, pAsgG, pAug, pSetIx, pBrk, pCnt, pFz, pFr, pIn, pVar, pArg, pMv, pC, pCons, pNil, p2, pB, pBl, pCB, ress, res, rv_non, rv_bl, rv_int, rv_str, rv_ty, rv_lst, rv_tup, rv_rls, rv_xr, rv_nc, noCe, stO, true_and, and_true, Bool.not_false, Bool.not_true, rv_oD, isNon_oD, gtN, gtsCons, gtsNil, pNot, pOr, pAnd, pVal, pTru, pNeg, pNotV, pAndV, pOrV, pIfE, pDisp, allInl, pCut, pNoPt, pPt, pSeqSrc, pEnum, enSrc, pRng1, rOf1, pRng2, rOf2, owAt, pApp, pPopAt, pPop, pClear, pLc, pLcV, pYes, noOw, wipeE, restE, rst, pRaise, resL, pCall, argsOf, argO, refIx, wbC, wb, wb1, outsOf, outP, List.getElem?_cons_zero, List.getElem?_cons_succ, List.getElem?_nil, List.set_cons_zero, List.set_cons_succ, List.length_cons, List.length_nil, List.cons_append, List.nil_append, List.append_nil, List.drop_succ_cons, List.drop_zero, List.drop_nil, List.replicate_zero, List.replicate_succ, List.getD_cons_zero, List.getD_cons_succ, Nat.reduceSub, Nat.reduceAdd, Nat.sub_self, if_true, if_false, Bool.false_eq_true, q_frz1, q_frz2, q_stR1, q_stR2, q_free1, q_free2, q_free3, q_isN1, q_isN2, q_fIsN, q_fCI, q_fI, q_fI0, q_add1, q_add2, q_add3, q_mul1, q_mul2, q_isBl, q_isInt, q_seq1, q_seq2, q_seq3, q_len1, q_len2, q_len3, q_int1, q_abs, q_two, q_list1, q_list2, q_tuple1, q_tuple2, q_tru1, q_tru2, q_rs1, q_rs2, q_cut1, q_cut2, q_cut3, q_gtT]
    exact qe x _ _ _ _ _ _ _ _ _ h
  rintro r o ⟨g, rfl, rfl⟩
  obtain ⟨N, n, h1, h2, h3, h4, h5⟩ := g.nat
  have hdN := TabZ.nat (h1 ▸ a.hd)
  simp only [pSeq, Option.map_some, Option.map_none, pNext, pIf, pAsg, pRet, pRetN, pDrop, pFor, pForV, pAsgG, pAug, pSetIx, pBrk, pCnt, pFz, pFr, pIn, pVar, pArg, pMv, pC, pCons, pNil, p2, pB, pBl, pCB, ress, res, rv_non, rv_bl, rv_int, rv_str, rv_ty, rv_lst, rv_tup, rv_rls, rv_xr, rv_nc, noCe, stO, true_and, and_true, Bool.not_false, Bool.not_true, rv_oD, isNon_oD, gtN, gtsCons, gtsNil, pNot, pOr, pAnd, pVal, pTru, pNeg, pNotV, pAndV, pOrV, pIfE, pDisp, allInl, pCut, pNoPt, pPt, pSeqSrc, pEnum, enSrc, pRng1, rOf1, pRng2, rOf2, owAt, pApp, pPopAt, pPop, pClear, pLc, pLcV, pYes, noOw, wipeE, restE, rst, pRaise, resL, pCall, argsOf, argO, refIx, wbC, wb, wb1, outsOf, outP, List.getElem?_cons_zero, List.getElem?_cons_succ, List.getElem?_nil, List.set_cons_zero, List.set_cons_succ, List.length_cons, List.length_nil, List.cons_append, List.nil_append, List.append_nil, List.drop_succ_cons, List.drop_zero, List.drop_nil, List.replicate_zero, List.replicate_succ, List.getD_cons_zero, List.getD_cons_succ, Nat.reduceSub, Nat.reduceAdd, Nat.sub_self, if_true, if_false, Bool.false_eq_true, q_frz1, q_frz2, q_stR1, q_stR2, q_free1, q_free2, q_free3, q_isN1, q_isN2, q_fIsN, q_fCI, q_fI, q_fI0, q_add1, q_add2, q_add3, q_mul1, q_mul2, q_isBl, q_isInt, q_seq1, q_seq2, q_seq3, q_len1, q_len2, q_len3, q_int1, q_abs, q_two, q_list1, q_list2, q_tuple1, q_tuple2, q_tru1, q_tru2, q_rs1, q_rs2, q_cut1, q_cut2, q_cut3, q_gtT, hrv]
  refine callGo_mk _ (⟨a.d, N, n, hdN, h3, by omega⟩ : APd) rfl (by simp [refIx]) (by rw [h2]) ?_ (fun _ _ h => h.elim)
  rintro r o ⟨P, O, hB, rfl, rfl⟩
  simp only [pSeq, Option.map_some, Option.map_none, pNext, pIf, pAsg, pRet, pRetN, pDrop, pFor, pForV, pAsgG, pAug, pSetIx, pBrk, pCnt, pFz, pFr, pIn, pVar, pArg, pMv, pC, pCons, pNil, p2, pB, pBl, pCB, ress, res, rv_non, rv_bl, rv_int, rv_str, rv_ty, rv_lst, rv_tup, rv_rls, rv_xr, rv_nc, noCe, stO, true_and, and_true, Bool.not_false, Bool.not_true, rv_oD, isNon_oD, gtN, gtsCons, gtsNil, pNot, pOr, pAnd, pVal, pTru, pNeg, pNotV, pAndV, pOrV, pIfE, pDisp, allInl, pCut, pNoPt, pPt, pSeqSrc, pEnum, enSrc, pRng1, rOf1, pRng2, rOf2, owAt, pApp, pPopAt, pPop, pClear, pLc, pLcV, pYes, noOw, wipeE, restE, rst, pRaise, resL, pCall, argsOf, argO, refIx, wbC, wb, wb1, outsOf, outP, List.getElem?_cons_zero, List.getElem?_cons_succ, List.getElem?_nil, List.set_cons_zero, List.set_cons_succ, List.length_cons, List.length_nil, List.cons_append, List.nil_append, List.append_nil, List.drop_succ_cons, List.drop_zero, List.drop_nil, List.replicate_zero, List.replicate_succ, List.getD_cons_zero, List.getD_cons_succ, Nat.reduceSub, Nat.reduceAdd, Nat.sub_self, if_true, if_false, Bool.false_eq_true, q_frz1, q_frz2, q_stR1, q_stR2, q_free1, q_free2, q_free3, q_isN1, q_isN2, q_fIsN, q_fCI, q_fI, q_fI0, q_add1, q_add2, q_add3, q_mul1, q_mul2, q_isBl, q_isInt, q_seq1, q_seq2, q_seq3, q_len1, q_len2, q_len3, q_int1, q_abs, q_two, q_list1, q_list2, q_tuple1, q_tuple2, q_tru1, q_tru2, q_rs1, q_rs2, q_cut1, q_cut2, q_cut3, q_gtT]
  refine ⟨by intro i hi; simp at hi; rcases hi with rfl | rfl <;> trivial, ?_⟩
  refine lcGo_inv (fun i acc e => acc = nL ((List.range i).filter fun i => (P[i]?).any Option.isNone) ∧ ∃ o4 o5, e = [.fz a.d, .fz (.int a.m), .fz (.lst (oL P)), .un, o4, o5, .un, .un, .un, .un, .un] ∧ freeO o4 ∧ freeO o5) (fun _ _ _ _ _ => trivial) ?_ ?_ ⟨rfl, .un, .un, rfl, trivial, trivial⟩
  · rintro i dd acc e Rk hdd ⟨rfl, o4, o5, rfl, f4, f5⟩ hRk
    have hi : i < P.length := by
      have := (List.getElem?_eq_some_iff.mp hdd).1
      rw [enumD_length] at this; simpa using this
    have hPi := List.getElem?_eq_getElem hi
    rw [enumD_get (oL_get hPi), Option.some.injEq] at hdd
    subst hdd
    have hsc := wh_succ (p := Option.isNone) hPi
    simp only [pSeq, Option.map_some, Option.map_none, pNext, pIf, pAsg, pRet, pRetN, pDrop, pFor, pForV, pAsgG, pAug, pSetIx, pBrk, pCnt, pFz, pFr, pIn, pVar, pArg, pMv, pC, pCons, pNil, p2, pB, pBl, pCB, ress, res, rv_non, rv_bl, rv_int, rv_str, rv_ty, rv_lst, rv_tup, rv_rls, rv_xr, rv_nc, noCe, stO, true_and, and_true, Bool.not_false, Bool.not_true, rv_oD, isNon_oD, gtN, gtsCons, gtsNil, pNot, pOr, pAnd, pVal, pTru, pNeg, pNotV, pAndV, pOrV, pIfE, pDisp, allInl, pCut, pNoPt, pPt, pSeqSrc, pEnum, enSrc, pRng1, rOf1, pRng2, rOf2, owAt, pApp, pPopAt, pPop, pClear, pLc, pLcV, pYes, noOw, wipeE, restE, rst, pRaise, resL, pCall, argsOf, argO, refIx, wbC, wb, wb1, outsOf, outP, List.getElem?_cons_zero, List.getElem?_cons_succ, List.getElem?_nil, List.set_cons_zero, List.set_cons_succ, List.length_cons, List.length_nil, List.cons_append, List.nil_append, List.append_nil, List.drop_succ_cons, List.drop_zero, List.drop_nil, List.replicate_zero, List.replicate_succ, List.getD_cons_zero, List.getD_cons_succ, Nat.reduceSub, Nat.reduceAdd, Nat.sub_self, if_true, if_false, Bool.false_eq_true, q_frz1, q_frz2, q_stR1, q_stR2, q_free1, q_free2, q_free3, q_isN1, q_isN2, q_fIsN, q_fCI, q_fI, q_fI0, q_add1, q_add2, q_add3, q_mul1, q_mul2, q_isBl, q_isInt, q_seq1, q_seq2, q_seq3, q_len1, q_len2, q_len3, q_int1, q_abs, q_two, q_list1, q_list2, q_tuple1, q_tuple2, q_tru1, q_tru2, q_rs1, q_rs2, q_cut1, q_cut2, q_cut3, q_gtT, hrv, f4, f5]
    have hll : (List.filter (fun i => (P[i]?).any Option.isNone) (List.range i)).length ≤ i := Nat.le_trans (List.length_filter_le _ _) (by simp)
    have hlP : P.length ≤ 128 := by rw [hB.M.lp]; exact h4
    by_cases z : P[i].isNone = true
    · rw [if_pos z]
      rw [if_pos z] at hsc
      refine ⟨by simp only [List.length_map, sizeLine_eq]; omega, by intro j hj; simp at hj; rcases hj with rfl | rfl <;> trivial, hRk _ _ ⟨by rw [hsc, nL, nL, List.map_append]; rfl, .un, .un, rfl, trivial, trivial⟩⟩
    · rw [if_neg z]
      rw [if_neg z, List.append_nil] at hsc
      refine ⟨by intro j hj; simp at hj; rcases hj with rfl | rfl <;> trivial, hRk _ _ ⟨by rw [hsc], .un, .un, rfl, trivial, trivial⟩⟩
  · rintro acc e ⟨rfl, o4, o5, rfl, f4, f5⟩
    rw [enumD_length, List.length_map]
    simp only [pSeq, Option.map_some, Option.map_none, pNext, pIf, pAsg, pRet, pRetN, pDrop, pFor, pForV, pAsgG, pAug, pSetIx, pBrk, pCnt, pFz, pFr, pIn, pVar, pArg, pMv, pC, pCons, pNil, p2, pB, pBl, pCB, ress, res, rv_non, rv_bl, rv_int, rv_str, rv_ty, rv_lst, rv_tup, rv_rls, rv_xr, rv_nc, noCe, stO, true_and, and_true, Bool.not_false, Bool.not_true, rv_oD, isNon_oD, gtN, gtsCons, gtsNil, pNot, pOr, pAnd, pVal, pTru, pNeg, pNotV, pAndV, pOrV, pIfE, pDisp, allInl, pCut, pNoPt, pPt, pSeqSrc, pEnum, enSrc, pRng1, rOf1, pRng2, rOf2, owAt, pApp, pPopAt, pPop, pClear, pLc, pLcV, pYes, noOw, wipeE, restE, rst, pRaise, resL, pCall, argsOf, argO, refIx, wbC, wb, wb1, outsOf, outP, List.getElem?_cons_zero, List.getElem?_cons_succ, List.getElem?_nil, List.set_cons_zero, List.set_cons_succ, List.length_cons, List.length_nil, List.cons_append, List.nil_append, List.append_nil, List.drop_succ_cons, List.drop_zero, List.drop_nil, List.replicate_zero, List.replicate_succ, List.getD_cons_zero, List.getD_cons_succ, Nat.reduceSub, Nat.reduceAdd, Nat.sub_self, if_true, if_false, Bool.false_eq_true, q_frz1, q_frz2, q_stR1, q_stR2, q_free1, q_free2, q_free3, q_isN1, q_isN2, q_fIsN, q_fCI, q_fI, q_fI0, q_add1, q_add2, q_add3, q_mul1, q_mul2, q_isBl, q_isInt, q_seq1, q_seq2, q_seq3, q_len1, q_len2, q_len3, q_int1, q_abs, q_two, q_list1, q_list2, q_tuple1, q_tuple2, q_tru1, q_tru2, q_rs1, q_rs2, q_cut1, q_cut2, q_cut3, q_gtT]
    have hlP : P.length ≤ 128 := by rw [hB.M.lp]; exact h4
    have hA : ∀ r ∈ whereN Option.isNone P, r < N.length ∧ U N O r := fun r hr => by
      obtain ⟨x, k1, k2⟩ := whereN_mem.mp hr
      have := (List.getElem?_eq_some_iff.mp k1).1
      rw [hB.M.lp] at this
      exact ⟨this, hB.cl r (by rw [k1]; cases x <;> first | rfl | cases k2)⟩
    have hAl : (whereN Option.isNone P).length ≤ 1000 := Nat.le_trans whereN_len (by omega)
    refine callGo_mk _ (⟨a.d, N, n, P, O, whereN Option.isNone P, hdN, h3, hB.M, hA, hAl, by omega⟩ : ARc) rfl (by simp [refIx]) (by rw [h2]; rfl) ?_ (fun _ _ h => h.elim)
    rintro r o ⟨RM, CM, hK, rfl, rfl⟩
    simp only [pSeq, Option.map_some, Option.map_none, pNext, pIf, pAsg, pRet, pRetN, pDrop, pFor, pForV, pAsgG, pAug, pSetIx, pBrk, pCnt, pFz, pFr, pIn, pVar, pArg, pMv, pC, pCons, pNil, p2, pB, pBl, pCB, ress, res, rv_non, rv_bl, rv_int, rv_str, rv_ty, rv_lst, rv_tup, rv_rls, rv_xr, rv_nc, noCe, stO, true_and, and_true, Bool.not_false, Bool.not_true, rv_oD, isNon_oD, gtN, gtsCons, gtsNil, pNot, pOr, pAnd, pVal, pTru, pNeg, pNotV, pAndV, pOrV, pIfE, pDisp, allInl, pCut, pNoPt, pPt, pSeqSrc, pEnum, enSrc, pRng1, rOf1, pRng2, rOf2, owAt, pApp, pPopAt, pPop, pClear, pLc, pLcV, pYes, noOw, wipeE, restE, rst, pRaise, resL, pCall, argsOf, argO, refIx, wbC, wb, wb1, outsOf, outP, List.getElem?_cons_zero, List.getElem?_cons_succ, List.getElem?_nil, List.set_cons_zero, List.set_cons_succ, List.length_cons, List.length_nil, List.cons_append, List.nil_append, List.append_nil, List.drop_succ_cons, List.drop_zero, List.drop_nil, List.replicate_zero, List.replicate_succ, List.getD_cons_zero, List.getD_cons_succ, Nat.reduceSub, Nat.reduceAdd, Nat.sub_self, if_true, if_false, Bool.false_eq_true, q_frz1, q_frz2, q_stR1, q_stR2, q_free1, q_free2, q_free3, q_isN1, q_isN2, q_fIsN, q_fCI, q_fI, q_fI0, q_add1, q_add2, q_add3, q_mul1, q_mul2, q_isBl, q_isInt, q_seq1, q_seq2, q_seq3, q_len1, q_len2, q_len3, q_int1, q_abs, q_two, q_list1, q_list2, q_tuple1, q_tuple2, q_tru1, q_tru2, q_rs1, q_rs2, q_cut1, q_cut2, q_cut3, q_gtT]
    have hlR : RM.length ≤ 128 := by rw [hK.lr]; exact h4
    have hlC : CM.length ≤ 128 := by rw [hK.lc]; exact h5
    refine ⟨by intro j hj; simp at hj; rcases hj with rfl | rfl <;> trivial, ?_⟩
    refine lcGo_inv (fun i acc e => acc = nL ((List.range i).filter fun i => (RM[i]?).any (! ·)) ∧ e = [.fz a.d, .fz (.int a.m), .fz (.lst (oL P)), .fz (.lst (nL (whereN Option.isNone P))), .un, .un, .fz (.lst (bL RM)), .fz (.lst (bL CM)), .un, .un, .un]) (fun _ _ _ _ _ => trivial) ?_ ?_ ⟨rfl, rfl⟩
    · rintro i dd acc e Rk hdd ⟨rfl, rfl⟩ hRk
      have hi : i < RM.length := by
        have := (List.getElem?_eq_some_iff.mp hdd).1
        rw [enumD_length] at this; simpa using this
      have hPi := List.getElem?_eq_getElem hi
      rw [enumD_get (bL_get hPi), Option.some.injEq] at hdd
      subst hdd
      have hsc := wh_succ (p := (! ·)) hPi
      have hll : (List.filter (fun i => (RM[i]?).any (! ·)) (List.range i)).length ≤ i := Nat.le_trans (List.length_filter_le _ _) (by simp)
      simp only [pSeq, Option.map_some, Option.map_none, pNext, pIf, pAsg, pRet, pRetN, pDrop, pFor, pForV, pAsgG, pAug, pSetIx, pBrk, pCnt, pFz, pFr, pIn, pVar, pArg, pMv, pC, pCons, pNil, p2, pB, pBl, pCB, ress, res, rv_non, rv_bl, rv_int, rv_str, rv_ty, rv_lst, rv_tup, rv_rls, rv_xr, rv_nc, noCe, stO, true_and, and_true, Bool.not_false, Bool.not_true, rv_oD, isNon_oD, gtN, gtsCons, gtsNil, pNot, pOr, pAnd, pVal, pTru, pNeg, pNotV, pAndV, pOrV, pIfE, pDisp, allInl, pCut, pNoPt, pPt, pSeqSrc, pEnum, enSrc, pRng1, rOf1, pRng2, rOf2, owAt, pApp, pPopAt, pPop, pClear, pLc, pLcV, pYes, noOw, wipeE, restE, rst, pRaise, resL, pCall, argsOf, argO, refIx, wbC, wb, wb1, outsOf, outP, List.getElem?_cons_zero, List.getElem?_cons_succ, List.getElem?_nil, List.set_cons_zero, List.set_cons_succ, List.length_cons, List.length_nil, List.cons_append, List.nil_append, List.append_nil, List.drop_succ_cons, List.drop_zero, List.drop_nil, List.replicate_zero, List.replicate_succ, List.getD_cons_zero, List.getD_cons_succ, Nat.reduceSub, Nat.reduceAdd, Nat.sub_self, if_true, if_false, Bool.false_eq_true, q_frz1, q_frz2, q_stR1, q_stR2, q_free1, q_free2, q_free3, q_isN1, q_isN2, q_fIsN, q_fCI, q_fI, q_fI0, q_add1, q_add2, q_add3, q_mul1, q_mul2, q_isBl, q_isInt, q_seq1, q_seq2, q_seq3, q_len1, q_len2, q_len3, q_int1, q_abs, q_two, q_list1, q_list2, q_tuple1, q_tuple2, q_tru1, q_tru2, q_rs1, q_rs2, q_cut1, q_cut2, q_cut3, q_gtT, hrv]
      by_cases z : (!RM[i]) = true
      · rw [if_pos z]
        rw [if_pos z] at hsc
        refine ⟨by simp only [List.length_map, sizeLine_eq]; omega, by intro j hj; simp at hj; rcases hj with rfl | rfl <;> trivial, hRk _ _ ⟨by rw [hsc, nL, nL, List.map_append]; rfl, rfl⟩⟩
      · rw [if_neg z]
        rw [if_neg z, List.append_nil] at hsc
        refine ⟨by intro j hj; simp at hj; rcases hj with rfl | rfl <;> trivial, hRk _ _ ⟨by rw [hsc], rfl⟩⟩
    rintro acc e ⟨rfl, rfl⟩
    rw [enumD_length, List.length_map]
    simp only [pSeq, Option.map_some, Option.map_none, pNext, pIf, pAsg, pRet, pRetN, pDrop, pFor, pForV, pAsgG, pAug, pSetIx, pBrk, pCnt, pFz, pFr, pIn, pVar, pArg, pMv, pC, pCons, pNil, p2, pB, pBl, pCB, ress, res, rv_non, rv_bl, rv_int, rv_str, rv_ty, rv_lst, rv_tup, rv_rls, rv_xr, rv_nc, noCe, stO, true_and, and_true, Bool.not_false, Bool.not_true, rv_oD, isNon_oD, gtN, gtsCons, gtsNil, pNot, pOr, pAnd, pVal, pTru, pNeg, pNotV, pAndV, pOrV, pIfE, pDisp, allInl, pCut, pNoPt, pPt, pSeqSrc, pEnum, enSrc, pRng1, rOf1, pRng2, rOf2, owAt, pApp, pPopAt, pPop, pClear, pLc, pLcV, pYes, noOw, wipeE, restE, rst, pRaise, resL, pCall, argsOf, argO, refIx, wbC, wb, wb1, outsOf, outP, List.getElem?_cons_zero, List.getElem?_cons_succ, List.getElem?_nil, List.set_cons_zero, List.set_cons_succ, List.length_cons, List.length_nil, List.cons_append, List.nil_append, List.append_nil, List.drop_succ_cons, List.drop_zero, List.drop_nil, List.replicate_zero, List.replicate_succ, List.getD_cons_zero, List.getD_cons_succ, Nat.reduceSub, Nat.reduceAdd, Nat.sub_self, if_true, if_false, Bool.false_eq_true, q_frz1, q_frz2, q_stR1, q_stR2, q_free1, q_free2, q_free3, q_isN1, q_isN2, q_fIsN, q_fCI, q_fI, q_fI0, q_add1, q_add2, q_add3, q_mul1, q_mul2, q_isBl, q_isInt, q_seq1, q_seq2, q_seq3, q_len1, q_len2, q_len3, q_int1, q_abs, q_two, q_list1, q_list2, q_tuple1, q_tuple2, q_tru1, q_tru2, q_rs1, q_rs2, q_cut1, q_cut2, q_cut3, q_gtT, hrv]
    refine ⟨by intro j hj; simp at hj; rcases hj with rfl | rfl <;> trivial, ?_⟩
    refine lcGo_inv (fun i acc e => acc = nL ((List.range i).filter fun i => (CM[i]?).any id) ∧ e = [.fz a.d, .fz (.int a.m), .fz (.lst (oL P)), .fz (.lst (nL (whereN Option.isNone P))), .un, .un, .fz (.lst (bL RM)), .fz (.lst (bL CM)), .fz (.tup (nL (whereN (! ·) RM))), .un, .un]) (fun _ _ _ _ _ => trivial) ?_ ?_ ⟨rfl, rfl⟩
    · rintro i dd acc e Rk hdd ⟨rfl, rfl⟩ hRk
      have hi : i < CM.length := by
        have := (List.getElem?_eq_some_iff.mp hdd).1
        rw [enumD_length] at this; simpa using this
      have hPi := List.getElem?_eq_getElem hi
      rw [enumD_get (bL_get hPi), Option.some.injEq] at hdd
      subst hdd
      have hsc := wh_succ (p := id) hPi
      have hll : (List.filter (fun i => (CM[i]?).any id) (List.range i)).length ≤ i := Nat.le_trans (List.length_filter_le _ _) (by simp)
      simp only [pSeq, Option.map_some, Option.map_none, pNext, pIf, pAsg, pRet, pRetN, pDrop, pFor, pForV, pAsgG, pAug, pSetIx, pBrk, pCnt, pFz, pFr, pIn, pVar, pArg, pMv, pC, pCons, pNil, p2, pB, pBl, pCB, ress, res, rv_non, rv_bl, rv_int, rv_str, rv_ty, rv_lst, rv_tup, rv_rls, rv_xr, rv_nc, noCe, stO, true_and, and_true, Bool.not_false, Bool.not_true, rv_oD, isNon_oD, gtN, gtsCons, gtsNil, pNot, pOr, pAnd, pVal, pTru, pNeg, pNotV, pAndV, pOrV, pIfE, pDisp, allInl, pCut, pNoPt, pPt, pSeqSrc, pEnum, enSrc, pRng1, rOf1, pRng2, rOf2, owAt, pApp, pPopAt, pPop, pClear, pLc, pLcV, pYes, noOw, wipeE, restE, rst, pRaise, resL, pCall, argsOf, argO, refIx, wbC, wb, wb1, outsOf, outP, List.getElem?_cons_zero, List.getElem?_cons_succ, List.getElem?_nil, List.set_cons_zero, List.set_cons_succ, List.length_cons, List.length_nil, List.cons_append, List.nil_append, List.append_nil, List.drop_succ_cons, List.drop_zero, List.drop_nil, List.replicate_zero, List.replicate_succ, List.getD_cons_zero, List.getD_cons_succ, Nat.reduceSub, Nat.reduceAdd, Nat.sub_self, if_true, if_false, Bool.false_eq_true, q_frz1, q_frz2, q_stR1, q_stR2, q_free1, q_free2, q_free3, q_isN1, q_isN2, q_fIsN, q_fCI, q_fI, q_fI0, q_add1, q_add2, q_add3, q_mul1, q_mul2, q_isBl, q_isInt, q_seq1, q_seq2, q_seq3, q_len1, q_len2, q_len3, q_int1, q_abs, q_two, q_list1, q_list2, q_tuple1, q_tuple2, q_tru1, q_tru2, q_rs1, q_rs2, q_cut1, q_cut2, q_cut3, q_gtT, hrv]
      by_cases z : CM[i] = true
      · rw [if_pos z]
        rw [if_pos (show id CM[i] = true from z)] at hsc
        refine ⟨by simp only [List.length_map, sizeLine_eq]; omega, by intro j hj; simp at hj; rcases hj with rfl | rfl <;> trivial, hRk _ _ ⟨by rw [hsc, nL, nL, List.map_append]; rfl, rfl⟩⟩
      · rw [if_neg z]
        rw [if_neg (show ¬ id CM[i] = true from z), List.append_nil] at hsc
        refine ⟨by intro j hj; simp at hj; rcases hj with rfl | rfl <;> trivial, hRk _ _ ⟨by rw [hsc], rfl⟩⟩
    rintro acc e ⟨rfl, rfl⟩
    rw [enumD_length, List.length_map]
    simp only [pSeq, Option.map_some, Option.map_none, pNext, pIf, pAsg, pRet, pRetN, pDrop, pFor, pForV, pAsgG, pAug, pSetIx, pBrk, pCnt, pFz, pFr, pIn, pVar, pArg, pMv, pC, pCons, pNil, p2, pB, pBl, pCB, ress, res, rv_non, rv_bl, rv_int, rv_str, rv_ty, rv_lst, rv_tup, rv_rls, rv_xr, rv_nc, noCe, stO, true_and, and_true, Bool.not_false, Bool.not_true, rv_oD, isNon_oD, gtN, gtsCons, gtsNil, pNot, pOr, pAnd, pVal, pTru, pNeg, pNotV, pAndV, pOrV, pIfE, pDisp, allInl, pCut, pNoPt, pPt, pSeqSrc, pEnum, enSrc, pRng1, rOf1, pRng2, rOf2, owAt, pApp, pPopAt, pPop, pClear, pLc, pLcV, pYes, noOw, wipeE, restE, rst, pRaise, resL, pCall, argsOf, argO, refIx, wbC, wb, wb1, outsOf, outP, List.getElem?_cons_zero, List.getElem?_cons_succ, List.getElem?_nil, List.set_cons_zero, List.set_cons_succ, List.length_cons, List.length_nil, List.cons_append, List.nil_append, List.append_nil, List.drop_succ_cons, List.drop_zero, List.drop_nil, List.replicate_zero, List.replicate_succ, List.getD_cons_zero, List.getD_cons_succ, Nat.reduceSub, Nat.reduceAdd, Nat.sub_self, if_true, if_false, Bool.false_eq_true, q_frz1, q_frz2, q_stR1, q_stR2, q_free1, q_free2, q_free3, q_isN1, q_isN2, q_fIsN, q_fCI, q_fI, q_fI0, q_add1, q_add2, q_add3, q_mul1, q_mul2, q_isBl, q_isInt, q_seq1, q_seq2, q_seq3, q_len1, q_len2, q_len3, q_int1, q_abs, q_two, q_list1, q_list2, q_tuple1, q_tuple2, q_tru1, q_tru2, q_rs1, q_rs2, q_cut1, q_cut2, q_cut3, q_gtT, hrv]
    exact ⟨by simp [sizeLine_eq], q N n P O RM CM _ _ _ _ _ _ _ _ _ h1 h2 g ⟨hB, hK⟩⟩
section
variable {P : Program} {w : World} {K : PySem.W.Frag} {mg : Str → Option Value} {base : Heap} {C_BadCount C_BadNumber C_BadTable C_ReelError : Addr} {f : Addr} {fd : FuncData}
theorem ok_pairing_cover (T : Txt K mg C_BadCount C_BadNumber C_BadTable C_ReelError) (c1 : CalD P w K mg base 4 "check_table" (spCt C_BadCount C_BadNumber C_BadTable)) (c2 : CalD P w K mg base 3 "paired" spPaired) (c3 : CalD P w K mg base 1 "reached" spRc)
    (Fn : Fun K "pairing_cover" "pairing_cover" s_pairing_cover f fd) : FnOk P w K mg base (L2.CX P w) 5 f fd [("rows" : Str), ("columns" : Str)] (spM K (spPc C_BadCount C_BadNumber C_BadTable)) :=
  Fn.M sc_pairing_cover (fun a args h => by rw [show args = _ from h]; rfl) (fun cdv A outer s H E hr => d_pairing_cover T c1 c2 c3 hr) (fun a args h => by
    rw [show args = _ from h]
    exact p_pairing_cover a (fun N n P O RM CM _ _ _ _ _ _ _ _ _ h1 h2 h3 h4 => ⟨N, n, P, O, RM, CM, h1, h2, h3, h4, rfl, rfl⟩) (fun _ _ _ _ _ _ _ _ _ _ h1 => ⟨h1, rfl⟩))
end
end K12
set_option Elab.async false
set_option linter.all false
set_option maxRecDepth 100000
set_option maxHeartbeats 4000000
namespace K12
open PySem PySem.Spec PyProof.Rows L2 PW
/-! ### matchings and covers -/
theorem nodup_sub {α : Type} [DecidableEq α] : ∀ {l l' : List α}, l.Nodup → (∀ x ∈ l, x ∈ l') → l.length ≤ l'.length
  | [], _, _, _ => Nat.zero_le _
  | a :: t, l', h, s => by
    have ha := s a List.mem_cons_self
    have h1 := List.nodup_cons.mp h
    have : t.length ≤ (l'.erase a).length := nodup_sub h1.2 fun x hx => by
      rw [List.mem_erase_of_ne (fun e => by subst e; exact h1.1 hx)]
      exact s x (List.mem_cons_of_mem _ hx)
    rw [List.length_erase_of_mem ha] at this
    have : 0 < l'.length := List.length_pos_of_mem ha
    simp only [List.length_cons]
    omega
theorem nodup_map {α β : Type} {f : α → β} : ∀ {l : List α}, l.Nodup → (∀ x ∈ l, ∀ y ∈ l, f x = f y → x = y) → (l.map f).Nodup
  | [], _, _ => List.nodup_nil
  | a :: t, h, s => by
    have h1 := List.nodup_cons.mp h
    rw [List.map_cons, List.nodup_cons]
    refine ⟨fun hm => ?_, nodup_map h1.2 fun x hx y hy => s x (List.mem_cons_of_mem _ hx) y (List.mem_cons_of_mem _ hy)⟩
    obtain ⟨x, hx, e⟩ := List.mem_map.mp hm
    have := s x (List.mem_cons_of_mem _ hx) a List.mem_cons_self e
    subst this
    exact h1.1 hx
theorem whereN_nodup {α : Type} {p : α → Bool} {l : List α} : (whereN p l).Nodup := List.Pairwise.filter _ List.nodup_range
abbrev nm (P : List (Option Nat)) : Nat := (whereN Option.isSome P).length
theorem mem_nm {P : List (Option Nat)} {r : Nat} : r ∈ whereN Option.isSome P ↔ ∃ c : Nat, P[r]? = some (some c) := by
  rw [whereN_mem]
  constructor
  · rintro ⟨x, h1, h2⟩
    cases x with
    | none => cases h2
    | some c => exact ⟨c, h1⟩
  · rintro ⟨c, h⟩
    exact ⟨_, h, rfl⟩
section
variable {R : List (List Nat)} {m : Nat} {P O P' O' : List (Option Nat)}
theorem U_step {r : Nat} (h : U R O r) {row : List Nat} {c : Nat} (hr : R[r]? = some row) (hc : c ∈ row) : ∃ r', U R O r' ∧ O[c]? = some (some r') := by
  obtain ⟨S, h1, h2⟩ := h
  obtain ⟨r', h3, h4⟩ := h2 r row c h1 hr hc
  exact ⟨r', ⟨S, h3, h2⟩, h4⟩
open Classical in
theorem best_max (B : Best R m P O) (M' : Mat R m P' O') : nm P' ≤ nm P := by
  have key : ∀ r ∈ whereN Option.isSome P', ∃ r', r' ∈ whereN Option.isSome P ∧ ((U R O r ∧ U R O r' ∧ ∃ c : Nat, P'[r]? = some (some c) ∧ P[r']? = some (some c)) ∨ (¬ U R O r ∧ r' = r)) := by
    intro r hr
    obtain ⟨c, hc⟩ := mem_nm.mp hr
    by_cases z : U R O r
    · obtain ⟨row, k1, k2⟩ := M'.ad r c hc
      obtain ⟨r', k3, k4⟩ := U_step z k1 k2
      have := B.M.op r' c k4
      exact ⟨r', mem_nm.mpr ⟨c, this⟩, .inl ⟨z, k3, c, hc, this⟩⟩
    · refine ⟨r, ?_, .inr ⟨z, rfl⟩⟩
      have hl : r < P.length := by
        rw [B.M.lp, ← M'.lp]; exact (List.getElem?_eq_some_iff.mp hc).1
      cases h : P[r] with
      | none => exact absurd (B.cl r (by rw [List.getElem?_eq_getElem hl, h])) z
      | some c' => exact mem_nm.mpr ⟨c', by rw [List.getElem?_eq_getElem hl, h]⟩
  let f : Nat → Nat := fun r => if h : r ∈ whereN Option.isSome P' then (key r h).choose else 0
  have hf : ∀ r (h : r ∈ whereN Option.isSome P'), f r = (key r h).choose := fun r h => dif_pos h
  have := nodup_sub (l := (whereN Option.isSome P').map f) (l' := whereN Option.isSome P) (nodup_map whereN_nodup fun x hx y hy e => ?_) (fun x hx => ?_)
  · rw [List.length_map] at this; exact this
  · rw [hf x hx, hf y hy] at e
    have hx2 := (key x hx).choose_spec.2
    have hy2 := (key y hy).choose_spec.2
    rw [e] at hx2
    generalize (key y hy).choose = z at hx2 hy2
    rcases hx2 with ⟨a1, a2, c, a3, a4⟩ | ⟨a1, a2⟩ <;> rcases hy2 with ⟨b1, b2, c', b3, b4⟩ | ⟨b1, b2⟩
    · rw [a4, Option.some.injEq, Option.some.injEq] at b4
      subst b4
      have e1 := M'.po x c a3
      rw [M'.po y c b3, Option.some.injEq, Option.some.injEq] at e1
      exact e1.symm
    · subst b2; exact absurd a2 b1
    · subst a2; exact absurd b2 a1
    · rw [← a2, b2]
  · obtain ⟨y, hy, rfl⟩ := List.mem_map.mp hx
    rw [hf y hy]
    exact (key y hy).choose_spec.1
theorem best_eq (B : Best R m P O) (B' : Best R m P' O') : nm P = nm P' := Nat.le_antisymm (best_max B' B.M) (best_max B B'.M)
theorem cov_size {RM CM : List Bool} (C : Cov R m P O RM CM) : (whereN (! ·) RM).length + (whereN id CM).length = nm P := by
  have key : ∀ c ∈ whereN id CM, ∃ r, O[c]? = some (some r) ∧ RM[r]? = some true := fun c hc => by
    obtain ⟨x, k1, k2⟩ := whereN_mem.mp hc
    have : x = true := k2
    subst this
    exact C.K.ow c k1
  let g : Nat → Nat := fun c => (O[c]?.bind id).getD 0
  have hg : ∀ {c r : Nat}, O[c]? = some (some r) → g c = r := fun {c r} h => by simp [g, h]
  have e1 : (whereN (! ·) RM ++ (whereN id CM).map g).length = (whereN (! ·) RM).length + (whereN id CM).length := by simp
  rw [← e1]
  have un : ∀ r : Nat, RM[r]? = some false → ∃ c : Nat, P[r]? = some (some c) := fun r h => by
    have hl : r < P.length := by
      rw [C.B.M.lp, ← C.K.lr]; exact (List.getElem?_eq_some_iff.mp h).1
    cases z : P[r] with
    | none =>
      have := C.K.st r (whereN_mem.mpr ⟨none, by rw [List.getElem?_eq_getElem hl, z], rfl⟩)
      rw [h] at this; cases this
    | some c => exact ⟨c, by rw [List.getElem?_eq_getElem hl, z]⟩
  refine Nat.le_antisymm (nodup_sub ?_ fun x hx => ?_) (nodup_sub whereN_nodup fun x hx => ?_)
  · rw [List.nodup_append]
    refine ⟨whereN_nodup, nodup_map whereN_nodup fun x hx y hy e => ?_, fun x hx y hy => ?_⟩
    · obtain ⟨r1, k1, k2⟩ := key x hx
      obtain ⟨r2, k3, k4⟩ := key y hy
      rw [hg k1, hg k3] at e
      subst e
      have := C.B.M.op _ _ k1
      rw [C.B.M.op _ _ k3] at this
      simpa using this.symm
    · obtain ⟨z, k1, k2⟩ := whereN_mem.mp hx
      obtain ⟨c, hc, rfl⟩ := List.mem_map.mp hy
      obtain ⟨r, k3, k4⟩ := key c hc
      rw [hg k3]
      rintro rfl
      rw [k4] at k1
      cases k1
      cases k2
  · rcases List.mem_append.mp hx with h | h
    · obtain ⟨z, k1, k2⟩ := whereN_mem.mp h
      have : z = false := by simpa using k2
      subst this
      exact mem_nm.mpr (un x k1)
    · obtain ⟨c, hc, rfl⟩ := List.mem_map.mp h
      obtain ⟨r, k3, k4⟩ := key c hc
      rw [hg k3]
      exact mem_nm.mpr ⟨c, C.B.M.op _ _ k3⟩
  · obtain ⟨c, hc⟩ := mem_nm.mp hx
    have hl : x < RM.length := by
      rw [C.K.lr, ← C.B.M.lp]; exact (List.getElem?_eq_some_iff.mp hc).1
    rw [List.mem_append]
    cases z : RM[x] with
    | false => exact .inl (whereN_mem.mpr ⟨false, by rw [List.getElem?_eq_getElem hl, z], rfl⟩)
    | true =>
      obtain ⟨row, k1, k2⟩ := C.B.M.ad x c hc
      have := C.K.cl x row c (by rw [List.getElem?_eq_getElem hl, z]) k1 k2
      exact .inr (List.mem_map.mpr ⟨c, whereN_mem.mpr ⟨true, this, rfl⟩, hg (C.B.M.po _ _ hc)⟩)
end
end K12
set_option Elab.async false
set_option linter.all false
set_option maxRecDepth 100000
set_option maxHeartbeats 4000000
namespace K12
open PySem PySem.Spec PyProof.Rows L2 PW
/-! ### _law_size_of_pairing -/
abbrev T2 (N : List (List Nat)) : D := I2 (N.map nZ)
theorem I1_nZ (l : List Nat) : I1 (nZ l) = .lst (nL l) := by simp [I1, nZ, nL]
theorem T2_get {N : List (List Nat)} {r : Nat} {row : List Nat} (h : N[r]? = some row) : ((N.map nZ).map I1)[r]? = some (.lst (nL row)) := by
  rw [List.getElem?_map, List.getElem?_map, h]
  simp only [Option.map_some, I1_nZ]
def used (P : List (Option Nat)) (i : Nat) : List Nat := (P.take i).filterMap id
theorem used_succ {P : List (Option Nat)} {i : Nat} {x : Option Nat} (h : P[i]? = some x) : used P (i + 1) = used P i ++ x.toList := by
  obtain ⟨hl, hx⟩ := List.getElem?_eq_some_iff.mp h
  unfold used
  rw [List.take_succ_eq_append_getElem hl, List.filterMap_append, hx]
  cases x <;> rfl
theorem used_len {P : List (Option Nat)} : ∀ {i : Nat}, i ≤ P.length → (used P i).length = ((List.range i).filter fun j => (P[j]?).any Option.isSome).length
  | 0, _ => rfl
  | i + 1, h => by
    have hP : P[i]? = some P[i] := List.getElem?_eq_getElem h
    rw [used_succ hP, wh_succ (p := Option.isSome) hP, List.length_append, List.length_append, used_len (by omega)]
    cases P[i] <;> rfl
theorem used_mem {P : List (Option Nat)} {i c : Nat} (h : c ∈ used P i) : ∃ j : Nat, j < i ∧ P[j]? = some (some c) := by
  unfold used at h
  obtain ⟨x, h1, h2⟩ := List.mem_filterMap.mp h
  have : x = some c := h2
  subst this
  obtain ⟨j, hj⟩ := List.mem_iff_getElem?.mp h1
  rw [List.getElem?_take] at hj
  split at hj
  · exact ⟨j, by assumption, hj⟩
  · cases hj
theorem p__law_size_of_pairing {N : List (List Nat)} {n : Nat} {P O : List (Option Nat)} (M : Mat N n P O) (hsz : N.length ≤ 1000 ∧ n ≤ 1000) {Z : PEnds}
    (q : ∀ o2 o3 o4, Z.rt (.fz (.int (nm P : Int))) [.fz (.tup (oL P)), .fz (T2 N), o2, o3, o4]) : b__law_size_of_pairing spIsInt Z [.fz (.tup (oL P)), .fz (T2 N), .un, .un, .un] := by
  unfold b__law_size_of_pairing
  simp only [pSeq, Option.map_some, Option.map_none, pNext, pIf, pAsg, pRet, pRetN, pDrop, pFor, pForV, pAsgG, pAug, pSetIx, pBrk, pCnt, pFz, pFr, pIn, pVar, pArg, pMv, pC, pCons, pNil, p2, pB, pBl, pCB, ress, res, rv_non, rv_bl, rv_int, rv_str, rv_ty, rv_lst, rv_tup, rv_rls, rv_xr, rv_nc, noCe, stO, true_and, and_true, Bool.not_false, Bool.not_true, rv_oD, isNon_oD, gtN, gtsCons, gtsNil, pNot, pOr, pAnd, pVal, pTru, pNeg, pNotV, pAndV, pOrV, pIfE, pDisp, allInl, pCut, pNoPt, pPt, pSeqSrc, pEnum, enSrc, pRng1, rOf1, pRng2, rOf2, owAt, pApp, pPopAt, pPop, pClear, pLc, pLcV, pYes, noOw, wipeE, restE, rst, pRaise, resL, pCall, argsOf, argO, refIx, wbC, wb, wb1, outsOf, outP, List.getElem?_cons_zero, List.getElem?_cons_succ, List.getElem?_nil, List.set_cons_zero, List.set_cons_succ, List.length_cons, List.length_nil, List.cons_append, List.nil_append, List.append_nil, List.drop_succ_cons, List.drop_zero, List.drop_nil, List.replicate_zero, List.replicate_succ, List.getD_cons_zero, List.getD_cons_succ, Nat.reduceSub, Nat.reduceAdd, Nat.sub_self, if_true, if_false, Bool.false_eq_true, q_frz1, q_frz2, q_stR1, q_stR2, q_free1, q_free2, q_free3, q_isN1, q_isN2, q_fIsN, q_fCI, q_fI, q_fI0, q_add1, q_add2, q_add3, q_mul1, q_mul2, q_isBl, q_isInt, q_seq1, q_seq2, q_seq3, q_len1, q_len2, q_len3, q_int1, q_abs, q_two, q_list1, q_list2, q_tuple1, q_tuple2, q_tru1, q_tru2, q_rs1, q_rs2, q_cut1, q_cut2, q_cut3, q_gtT, gIsi, tyD, I2, List.length_map, M.lp, fEq_int]
  refine ⟨true, by decide, ?_⟩
  simp only [pSeq, Option.map_some, Option.map_none, pNext, pIf, pAsg, pRet, pRetN, pDrop, pFor, pForV, pAsgG, pAug, pSetIx, pBrk, pCnt, pFz, pFr, pIn, pVar, pArg, pMv, pC, pCons, pNil, p2, pB, pBl, pCB, ress, res, rv_non, rv_bl, rv_int, rv_str, rv_ty, rv_lst, rv_tup, rv_rls, rv_xr, rv_nc, noCe, stO, true_and, and_true, Bool.not_false, Bool.not_true, rv_oD, isNon_oD, gtN, gtsCons, gtsNil, pNot, pOr, pAnd, pVal, pTru, pNeg, pNotV, pAndV, pOrV, pIfE, pDisp, allInl, pCut, pNoPt, pPt, pSeqSrc, pEnum, enSrc, pRng1, rOf1, pRng2, rOf2, owAt, pApp, pPopAt, pPop, pClear, pLc, pLcV, pYes, noOw, wipeE, restE, rst, pRaise, resL, pCall, argsOf, argO, refIx, wbC, wb, wb1, outsOf, outP, List.getElem?_cons_zero, List.getElem?_cons_succ, List.getElem?_nil, List.set_cons_zero, List.set_cons_succ, List.length_cons, List.length_nil, List.cons_append, List.nil_append, List.append_nil, List.drop_succ_cons, List.drop_zero, List.drop_nil, List.replicate_zero, List.replicate_succ, List.getD_cons_zero, List.getD_cons_succ, Nat.reduceSub, Nat.reduceAdd, Nat.sub_self, if_true, if_false, Bool.false_eq_true, q_frz1, q_frz2, q_stR1, q_stR2, q_free1, q_free2, q_free3, q_isN1, q_isN2, q_fIsN, q_fCI, q_fI, q_fI0, q_add1, q_add2, q_add3, q_mul1, q_mul2, q_isBl, q_isInt, q_seq1, q_seq2, q_seq3, q_len1, q_len2, q_len3, q_int1, q_abs, q_two, q_list1, q_list2, q_tuple1, q_tuple2, q_tru1, q_tru2, q_rs1, q_rs2, q_cut1, q_cut2, q_cut3, q_gtT, fEq_int]
  rw [if_neg (by simp)]
  refine ⟨Nat.zero_le _, ⟨by omega, by omega⟩, ?_⟩
  have e1 : ((N.length : Nat) : Int).toNat = N.length := by simp
  rw [e1]
  refine forGo_inv (fun i e => ∃ (o3 o4 : PW.O), e = [.fz (.tup (oL P)), .fz (T2 N), .ow false (nL (used P i)), o3, o4] ∧ freeO o3 ∧ freeO o4) (fun _ _ _ _ => trivial) ?_ ?_ ⟨.un, .un, rfl, trivial, trivial⟩
  · rintro i dd e Rk hdd ⟨o3, o4, rfl, f3, f4⟩ hRk
    have hi : i < N.length := by
      have := (List.getElem?_eq_some_iff.mp hdd).1
      simpa [rngD] using this
    have hdd' : dd = .int (i : Int) := by
      simp [rngD, List.getElem?_map, List.getElem?_range hi] at hdd
      exact hdd.symm
    subst hdd'
    obtain ⟨x, hx⟩ : ∃ x, P[i]? = some x := ⟨_, List.getElem?_eq_getElem (by rw [M.lp]; exact hi)⟩
    simp only [pSeq, Option.map_some, Option.map_none, pNext, pIf, pAsg, pRet, pRetN, pDrop, pFor, pForV, pAsgG, pAug, pSetIx, pBrk, pCnt, pFz, pFr, pIn, pVar, pArg, pMv, pC, pCons, pNil, p2, pB, pBl, pCB, ress, res, rv_non, rv_bl, rv_int, rv_str, rv_ty, rv_lst, rv_tup, rv_rls, rv_xr, rv_nc, noCe, stO, true_and, and_true, Bool.not_false, Bool.not_true, rv_oD, isNon_oD, gtN, gtsCons, gtsNil, pNot, pOr, pAnd, pVal, pTru, pNeg, pNotV, pAndV, pOrV, pIfE, pDisp, allInl, pCut, pNoPt, pPt, pSeqSrc, pEnum, enSrc, pRng1, rOf1, pRng2, rOf2, owAt, pApp, pPopAt, pPop, pClear, pLc, pLcV, pYes, noOw, wipeE, restE, rst, pRaise, resL, pCall, argsOf, argO, refIx, wbC, wb, wb1, outsOf, outP, List.getElem?_cons_zero, List.getElem?_cons_succ, List.getElem?_nil, List.set_cons_zero, List.set_cons_succ, List.length_cons, List.length_nil, List.cons_append, List.nil_append, List.append_nil, List.drop_succ_cons, List.drop_zero, List.drop_nil, List.replicate_zero, List.replicate_succ, List.getD_cons_zero, List.getD_cons_succ, Nat.reduceSub, Nat.reduceAdd, Nat.sub_self, if_true, if_false, Bool.false_eq_true, q_frz1, q_frz2, q_stR1, q_stR2, q_free1, q_free2, q_free3, q_isN1, q_isN2, q_fIsN, q_fCI, q_fI, q_fI0, q_add1, q_add2, q_add3, q_mul1, q_mul2, q_isBl, q_isInt, q_seq1, q_seq2, q_seq3, q_len1, q_len2, q_len3, q_int1, q_abs, q_two, q_list1, q_list2, q_tuple1, q_tuple2, q_tru1, q_tru2, q_rs1, q_rs2, q_cut1, q_cut2, q_cut3, q_gtT, f3, f4]
    rw [fIx_seq (d := .tup (oL P)) rfl (oL_get hx)]
    simp only [pSeq, Option.map_some, Option.map_none, pNext, pIf, pAsg, pRet, pRetN, pDrop, pFor, pForV, pAsgG, pAug, pSetIx, pBrk, pCnt, pFz, pFr, pIn, pVar, pArg, pMv, pC, pCons, pNil, p2, pB, pBl, pCB, ress, res, rv_non, rv_bl, rv_int, rv_str, rv_ty, rv_lst, rv_tup, rv_rls, rv_xr, rv_nc, noCe, stO, true_and, and_true, Bool.not_false, Bool.not_true, rv_oD, isNon_oD, gtN, gtsCons, gtsNil, pNot, pOr, pAnd, pVal, pTru, pNeg, pNotV, pAndV, pOrV, pIfE, pDisp, allInl, pCut, pNoPt, pPt, pSeqSrc, pEnum, enSrc, pRng1, rOf1, pRng2, rOf2, owAt, pApp, pPopAt, pPop, pClear, pLc, pLcV, pYes, noOw, wipeE, restE, rst, pRaise, resL, pCall, argsOf, argO, refIx, wbC, wb, wb1, outsOf, outP, List.getElem?_cons_zero, List.getElem?_cons_succ, List.getElem?_nil, List.set_cons_zero, List.set_cons_succ, List.length_cons, List.length_nil, List.cons_append, List.nil_append, List.append_nil, List.drop_succ_cons, List.drop_zero, List.drop_nil, List.replicate_zero, List.replicate_succ, List.getD_cons_zero, List.getD_cons_succ, Nat.reduceSub, Nat.reduceAdd, Nat.sub_self, if_true, if_false, Bool.false_eq_true, q_frz1, q_frz2, q_stR1, q_stR2, q_free1, q_free2, q_free3, q_isN1, q_isN2, q_fIsN, q_fCI, q_fI, q_fI0, q_add1, q_add2, q_add3, q_mul1, q_mul2, q_isBl, q_isInt, q_seq1, q_seq2, q_seq3, q_len1, q_len2, q_len3, q_int1, q_abs, q_two, q_list1, q_list2, q_tuple1, q_tuple2, q_tru1, q_tru2, q_rs1, q_rs2, q_cut1, q_cut2, q_cut3, q_gtT, f3, f4]
    have us := used_succ hx
    cases x with
    | none =>
      simp only [Option.isNone_none, Bool.not_true, Bool.false_eq_true, if_false]
      exact hRk _ ⟨.fz (.int (i : Int)), .fz (oD none), by rw [us]; simp, trivial, trivial⟩
    | some c =>
      simp only [Option.isNone_some, Bool.not_false, if_true]
      refine callGo_mk _ (⟨.int (c : Int), trivial⟩ : {d : D // kindD d}) rfl (by simp [refIx]) rfl ?_ (fun _ _ h => h.elim)
      rintro r o ⟨rfl, rfl⟩
      obtain ⟨row, hr, hc⟩ := M.ad i c hx
      simp only [pSeq, Option.map_some, Option.map_none, pNext, pIf, pAsg, pRet, pRetN, pDrop, pFor, pForV, pAsgG, pAug, pSetIx, pBrk, pCnt, pFz, pFr, pIn, pVar, pArg, pMv, pC, pCons, pNil, p2, pB, pBl, pCB, ress, res, rv_non, rv_bl, rv_int, rv_str, rv_ty, rv_lst, rv_tup, rv_rls, rv_xr, rv_nc, noCe, stO, true_and, and_true, Bool.not_false, Bool.not_true, rv_oD, isNon_oD, gtN, gtsCons, gtsNil, pNot, pOr, pAnd, pVal, pTru, pNeg, pNotV, pAndV, pOrV, pIfE, pDisp, allInl, pCut, pNoPt, pPt, pSeqSrc, pEnum, enSrc, pRng1, rOf1, pRng2, rOf2, owAt, pApp, pPopAt, pPop, pClear, pLc, pLcV, pYes, noOw, wipeE, restE, rst, pRaise, resL, pCall, argsOf, argO, refIx, wbC, wb, wb1, outsOf, outP, List.getElem?_cons_zero, List.getElem?_cons_succ, List.getElem?_nil, List.set_cons_zero, List.set_cons_succ, List.length_cons, List.length_nil, List.cons_append, List.nil_append, List.append_nil, List.drop_succ_cons, List.drop_zero, List.drop_nil, List.replicate_zero, List.replicate_succ, List.getD_cons_zero, List.getD_cons_succ, Nat.reduceSub, Nat.reduceAdd, Nat.sub_self, if_true, if_false, Bool.false_eq_true, q_frz1, q_frz2, q_stR1, q_stR2, q_free1, q_free2, q_free3, q_isN1, q_isN2, q_fIsN, q_fCI, q_fI, q_fI0, q_add1, q_add2, q_add3, q_mul1, q_mul2, q_isBl, q_isInt, q_seq1, q_seq2, q_seq3, q_len1, q_len2, q_len3, q_int1, q_abs, q_two, q_list1, q_list2, q_tuple1, q_tuple2, q_tru1, q_tru2, q_rs1, q_rs2, q_cut1, q_cut2, q_cut3, q_gtT, isIntD, oD_some]
      rw [fIx_seq (d := T2 N) rfl (T2_get hr)]
      simp only [pSeq, Option.map_some, Option.map_none, pNext, pIf, pAsg, pRet, pRetN, pDrop, pFor, pForV, pAsgG, pAug, pSetIx, pBrk, pCnt, pFz, pFr, pIn, pVar, pArg, pMv, pC, pCons, pNil, p2, pB, pBl, pCB, ress, res, rv_non, rv_bl, rv_int, rv_str, rv_ty, rv_lst, rv_tup, rv_rls, rv_xr, rv_nc, noCe, stO, true_and, and_true, Bool.not_false, Bool.not_true, rv_oD, isNon_oD, gtN, gtsCons, gtsNil, pNot, pOr, pAnd, pVal, pTru, pNeg, pNotV, pAndV, pOrV, pIfE, pDisp, allInl, pCut, pNoPt, pPt, pSeqSrc, pEnum, enSrc, pRng1, rOf1, pRng2, rOf2, owAt, pApp, pPopAt, pPop, pClear, pLc, pLcV, pYes, noOw, wipeE, restE, rst, pRaise, resL, pCall, argsOf, argO, refIx, wbC, wb, wb1, outsOf, outP, List.getElem?_cons_zero, List.getElem?_cons_succ, List.getElem?_nil, List.set_cons_zero, List.set_cons_succ, List.length_cons, List.length_nil, List.cons_append, List.nil_append, List.append_nil, List.drop_succ_cons, List.drop_zero, List.drop_nil, List.replicate_zero, List.replicate_succ, List.getD_cons_zero, List.getD_cons_succ, Nat.reduceSub, Nat.reduceAdd, Nat.sub_self, if_true, if_false, Bool.false_eq_true, q_frz1, q_frz2, q_stR1, q_stR2, q_free1, q_free2, q_free3, q_isN1, q_isN2, q_fIsN, q_fCI, q_fI, q_fI0, q_add1, q_add2, q_add3, q_mul1, q_mul2, q_isBl, q_isInt, q_seq1, q_seq2, q_seq3, q_len1, q_len2, q_len3, q_int1, q_abs, q_two, q_list1, q_list2, q_tuple1, q_tuple2, q_tru1, q_tru2, q_rs1, q_rs2, q_cut1, q_cut2, q_cut3, q_gtT]
      rw [fIn_int (l := nZ row) (by rw [← iL_nZ]; rfl)]
      have h1 : ((c : Nat) : Int) ∈ nZ row := List.mem_map.mpr ⟨c, hc, rfl⟩
      simp only [h1, decide_true, Bool.not_true, if_true, Bool.false_eq_true, if_false]
      rw [fIn_int (l := nZ (used P i)) (by rw [← iL_nZ]; rfl)]
      have h2 : ((c : Nat) : Int) ∉ nZ (used P i) := fun hm => by
        obtain ⟨b, hb, e⟩ := List.mem_map.mp hm
        have : b = c := Int.ofNat.inj e
        subst this
        obtain ⟨j, hj, hj2⟩ := used_mem hb
        have := M.po j b hj2
        rw [M.po i b hx] at this
        simp at this
        omega
      simp only [h2, decide_false, Bool.false_eq_true, if_false, pSeq, Option.map_some, Option.map_none, pNext, pIf, pAsg, pRet, pRetN, pDrop, pFor, pForV, pAsgG, pAug, pSetIx, pBrk, pCnt, pFz, pFr, pIn, pVar, pArg, pMv, pC, pCons, pNil, p2, pB, pBl, pCB, ress, res, rv_non, rv_bl, rv_int, rv_str, rv_ty, rv_lst, rv_tup, rv_rls, rv_xr, rv_nc, noCe, stO, true_and, and_true, Bool.not_false, Bool.not_true, rv_oD, isNon_oD, gtN, gtsCons, gtsNil, pNot, pOr, pAnd, pVal, pTru, pNeg, pNotV, pAndV, pOrV, pIfE, pDisp, allInl, pCut, pNoPt, pPt, pSeqSrc, pEnum, enSrc, pRng1, rOf1, pRng2, rOf2, owAt, pApp, pPopAt, pPop, pClear, pLc, pLcV, pYes, noOw, wipeE, restE, rst, pRaise, resL, pCall, argsOf, argO, refIx, wbC, wb, wb1, outsOf, outP, List.getElem?_cons_zero, List.getElem?_cons_succ, List.getElem?_nil, List.set_cons_zero, List.set_cons_succ, List.length_cons, List.length_nil, List.cons_append, List.nil_append, List.append_nil, List.drop_succ_cons, List.drop_zero, List.drop_nil, List.replicate_zero, List.replicate_succ, List.getD_cons_zero, List.getD_cons_succ, Nat.reduceSub, Nat.reduceAdd, Nat.sub_self, if_true, if_false, Bool.false_eq_true, q_frz1, q_frz2, q_stR1, q_stR2, q_free1, q_free2, q_free3, q_isN1, q_isN2, q_fIsN, q_fCI, q_fI, q_fI0, q_add1, q_add2, q_add3, q_mul1, q_mul2, q_isBl, q_isInt, q_seq1, q_seq2, q_seq3, q_len1, q_len2, q_len3, q_int1, q_abs, q_two, q_list1, q_list2, q_tuple1, q_tuple2, q_tru1, q_tru2, q_rs1, q_rs2, q_cut1, q_cut2, q_cut3, q_gtT]
      have hl : (used P i).length ≤ i := by
        unfold used
        exact Nat.le_trans (List.length_filterMap_le _ _) (by simp; omega)
      refine ⟨by simp only [List.length_map, sizeLine_eq]; omega, hRk _ ⟨.fz (.int (i : Int)), .fz (.int (c : Int)), by rw [us, nL, nL, List.map_append]; rfl, trivial, trivial⟩⟩
  · rintro e ⟨o3, o4, rfl, f3, f4⟩
    have e2 : (rngD 0 N.length).length = N.length := by simp [rngD]
    rw [e2]
    have e3 : (used P N.length).length = nm P := by
      rw [← M.lp, used_len (Nat.le_refl _)]; rfl
    simp only [pSeq, Option.map_some, Option.map_none, pNext, pIf, pAsg, pRet, pRetN, pDrop, pFor, pForV, pAsgG, pAug, pSetIx, pBrk, pCnt, pFz, pFr, pIn, pVar, pArg, pMv, pC, pCons, pNil, p2, pB, pBl, pCB, ress, res, rv_non, rv_bl, rv_int, rv_str, rv_ty, rv_lst, rv_tup, rv_rls, rv_xr, rv_nc, noCe, stO, true_and, and_true, Bool.not_false, Bool.not_true, rv_oD, isNon_oD, gtN, gtsCons, gtsNil, pNot, pOr, pAnd, pVal, pTru, pNeg, pNotV, pAndV, pOrV, pIfE, pDisp, allInl, pCut, pNoPt, pPt, pSeqSrc, pEnum, enSrc, pRng1, rOf1, pRng2, rOf2, owAt, pApp, pPopAt, pPop, pClear, pLc, pLcV, pYes, noOw, wipeE, restE, rst, pRaise, resL, pCall, argsOf, argO, refIx, wbC, wb, wb1, outsOf, outP, List.getElem?_cons_zero, List.getElem?_cons_succ, List.getElem?_nil, List.set_cons_zero, List.set_cons_succ, List.length_cons, List.length_nil, List.cons_append, List.nil_append, List.append_nil, List.drop_succ_cons, List.drop_zero, List.drop_nil, List.replicate_zero, List.replicate_succ, List.getD_cons_zero, List.getD_cons_succ, Nat.reduceSub, Nat.reduceAdd, Nat.sub_self, if_true, if_false, Bool.false_eq_true, q_frz1, q_frz2, q_stR1, q_stR2, q_free1, q_free2, q_free3, q_isN1, q_isN2, q_fIsN, q_fCI, q_fI, q_fI0, q_add1, q_add2, q_add3, q_mul1, q_mul2, q_isBl, q_isInt, q_seq1, q_seq2, q_seq3, q_len1, q_len2, q_len3, q_int1, q_abs, q_two, q_list1, q_list2, q_tuple1, q_tuple2, q_tru1, q_tru2, q_rs1, q_rs2, q_cut1, q_cut2, q_cut3, q_gtT, List.length_map, e3]
    exact q _ _ _
section
variable {P : Program} {w : World} {K : PySem.W.Frag} {mg : Str → Option Value} {base : Heap} {C_BadCount C_BadNumber C_BadTable C_ReelError : Addr} {f : Addr} {fd : FuncData}
structure ASp where
  N : List (List Nat)
  n : Nat
  P : List (Option Nat)
  O : List (Option Nat)
  M : Mat N n P O
  hsz : N.length ≤ 1000 ∧ n ≤ 1000
abbrev spSp : PSp := mkSp (fun (a : ASp) args => args = [.fz (.tup (oL a.P)), .fz (T2 a.N)]) (fun a r o => r = .fz (.int (nm a.P : Int)) ∧ o = [.un, .un]) noEx
theorem ok__law_size_of_pairing (T : Txt K mg C_BadCount C_BadNumber C_BadTable C_ReelError) (c1 : CalD P w K mg base 1 "_law_is_int" spIsInt)
    (Fn : Fun K "_law_size_of_pairing" "_law_size_of_pairing" s__law_size_of_pairing f fd) : FnOk P w K mg base (L2.CX P w) 2 f fd [("told" : Str), ("rows" : Str)] (spM K spSp) :=
  Fn.M sc__law_size_of_pairing (fun a args h => by rw [show args = _ from h]; rfl) (fun cdv A outer s H E hr => d__law_size_of_pairing T c1 hr) (fun a args h => by
    rw [show args = _ from h]
    exact p__law_size_of_pairing a.M a.hsz (fun _ _ _ => ⟨rfl, rfl⟩))
end
end K12
set_option Elab.async false
set_option linter.all false
set_option maxRecDepth 100000
set_option maxHeartbeats 4000000
namespace K12
open PySem PySem.Spec PyProof.Rows L2 PW
/-! ### _law_size_of_cover -/
theorem nL_nZ {l : List Nat} : nL l = (nZ l).map .int := by simp [nL, nZ]
theorem fEq_nL {neg : Bool} {l m : List Nat} {Q : Bool → Prop} : fEq neg (.lst (nL l)) (.lst (nL m)) Q ↔ Q (if neg then !decide (nZ l = nZ m) else decide (nZ l = nZ m)) := by
  rw [← I1_nZ, ← I1_nZ]; exact fEq_I1
theorem nZ_inj {l m : List Nat} : nZ l = nZ m ↔ l = m := by
  constructor
  · intro h
    exact List.map_inj_right (fun x y e => Int.ofNat.inj e) |>.mp h
  · exact fun h => by rw [h]
theorem nZ_mem {l : List Nat} {c : Nat} : ((c : Nat) : Int) ∈ nZ l ↔ c ∈ l := by
  constructor
  · intro h
    obtain ⟨b, hb, e⟩ := List.mem_map.mp h
    have : b = c := Int.ofNat.inj e
    subst this; exact hb
  · exact fun h => List.mem_map.mpr ⟨c, h, rfl⟩
theorem where_eq {α : Type} {p : α → Bool} {l : List α} {n : Nat} (h : l.length = n) : (List.range n).filter (fun i => decide (i ∈ whereN p l)) = whereN p l := by
  subst h
  unfold whereN
  apply List.filter_congr
  intro i hi
  simp only [List.mem_filter, hi, true_and]
  simp
theorem p__law_size_of_cover {N : List (List Nat)} {n : Nat} {P O : List (Option Nat)} {RM CM : List Bool} (C : Cov N n P O RM CM) (hsz : N.length ≤ 1000 ∧ n ≤ 1000) (hrw : ∀ row ∈ N, row.length ≤ 1000) {Z : PEnds}
    (q : ∀ o3 o4 o5 o6 o7, Z.rt (.fz (.int (nm P : Int))) [.fz (covD RM CM), .fz (T2 N), .fz (.int (n : Int)), o3, o4, o5, o6, o7]) : b__law_size_of_cover spIsInt Z [.fz (covD RM CM), .fz (T2 N), .fz (.int (n : Int)), .un, .un, .un, .un, .un] := by
  have hL : (whereN (! ·) RM).length ≤ N.length := by rw [← C.K.lr]; exact whereN_len
  have hR : (whereN id CM).length ≤ n := by rw [← C.K.lc]; exact whereN_len
  have hsum := cov_size C
  have wL := where_eq (p := (! ·)) C.K.lr
  have wR := where_eq (p := id) C.K.lc
  have hz : ∀ (r : Nat) (row : List Nat), N[r]? = some row → r ∉ whereN (! ·) RM → ∀ c ∈ row, c ∈ whereN id CM := fun r row h1 h2 c h3 => by
    have hl : r < RM.length := by rw [C.K.lr]; exact (List.getElem?_eq_some_iff.mp h1).1
    have : RM[r]? = some true := by
      cases z : RM[r] with
      | false => exact absurd (whereN_mem.mpr ⟨false, by rw [List.getElem?_eq_getElem hl, z], rfl⟩) h2
      | true => rw [List.getElem?_eq_getElem hl, z]
    exact whereN_mem.mpr ⟨true, C.K.cl r row c this h1 h3, rfl⟩
  unfold b__law_size_of_cover covD
  unfold covD at q
  generalize whereN (! ·) RM = L at *
  generalize whereN id CM = R at *
  have i0 : ∀ (Q : PW.O → Prop), fIx (.tup [.tup (nL L), .tup (nL R)]) (.int 0) Q ↔ Q (.fz (.tup (nL L))) := fun Q => fIx_seq (d := .tup [.tup (nL L), .tup (nL R)]) rfl (i := 0) rfl
  have i1 : ∀ (Q : PW.O → Prop), fIx (.tup [.tup (nL L), .tup (nL R)]) (.int 1) Q ↔ Q (.fz (.tup (nL R))) := fun Q => fIx_seq (d := .tup [.tup (nL L), .tup (nL R)]) rfl (i := 1) rfl
  simp only [pSeq, Option.map_some, Option.map_none, pNext, pIf, pAsg, pRet, pRetN, pDrop, pFor, pForV, pAsgG, pAug, pSetIx, pBrk, pCnt, pFz, pFr, pIn, pVar, pArg, pMv, pC, pCons, pNil, p2, pB, pBl, pCB, ress, res, rv_non, rv_bl, rv_int, rv_str, rv_ty, rv_lst, rv_tup, rv_rls, rv_xr, rv_nc, noCe, stO, true_and, and_true, Bool.not_false, Bool.not_true, rv_oD, isNon_oD, gtN, gtsCons, gtsNil, pNot, pOr, pAnd, pVal, pTru, pNeg, pNotV, pAndV, pOrV, pIfE, pDisp, allInl, pCut, pNoPt, pPt, pSeqSrc, pEnum, enSrc, pRng1, rOf1, pRng2, rOf2, owAt, pApp, pPopAt, pPop, pClear, pLc, pLcV, pYes, noOw, wipeE, restE, rst, pRaise, resL, pCall, argsOf, argO, refIx, wbC, wb, wb1, outsOf, outP, List.getElem?_cons_zero, List.getElem?_cons_succ, List.getElem?_nil, List.set_cons_zero, List.set_cons_succ, List.length_cons, List.length_nil, List.cons_append, List.nil_append, List.append_nil, List.drop_succ_cons, List.drop_zero, List.drop_nil, List.replicate_zero, List.replicate_succ, List.getD_cons_zero, List.getD_cons_succ, Nat.reduceSub, Nat.reduceAdd, Nat.sub_self, if_true, if_false, Bool.false_eq_true, q_frz1, q_frz2, q_stR1, q_stR2, q_free1, q_free2, q_free3, q_isN1, q_isN2, q_fIsN, q_fCI, q_fI, q_fI0, q_add1, q_add2, q_add3, q_mul1, q_mul2, q_isBl, q_isInt, q_seq1, q_seq2, q_seq3, q_len1, q_len2, q_len3, q_int1, q_abs, q_two, q_list1, q_list2, q_tuple1, q_tuple2, q_tru1, q_tru2, q_rs1, q_rs2, q_cut1, q_cut2, q_cut3, q_gtT, gIsi, tyD]
  refine ⟨true, by decide, ?_⟩
  simp only [pSeq, Option.map_some, Option.map_none, pNext, pIf, pAsg, pRet, pRetN, pDrop, pFor, pForV, pAsgG, pAug, pSetIx, pBrk, pCnt, pFz, pFr, pIn, pVar, pArg, pMv, pC, pCons, pNil, p2, pB, pBl, pCB, ress, res, rv_non, rv_bl, rv_int, rv_str, rv_ty, rv_lst, rv_tup, rv_rls, rv_xr, rv_nc, noCe, stO, true_and, and_true, Bool.not_false, Bool.not_true, rv_oD, isNon_oD, gtN, gtsCons, gtsNil, pNot, pOr, pAnd, pVal, pTru, pNeg, pNotV, pAndV, pOrV, pIfE, pDisp, allInl, pCut, pNoPt, pPt, pSeqSrc, pEnum, enSrc, pRng1, rOf1, pRng2, rOf2, owAt, pApp, pPopAt, pPop, pClear, pLc, pLcV, pYes, noOw, wipeE, restE, rst, pRaise, resL, pCall, argsOf, argO, refIx, wbC, wb, wb1, outsOf, outP, List.getElem?_cons_zero, List.getElem?_cons_succ, List.getElem?_nil, List.set_cons_zero, List.set_cons_succ, List.length_cons, List.length_nil, List.cons_append, List.nil_append, List.append_nil, List.drop_succ_cons, List.drop_zero, List.drop_nil, List.replicate_zero, List.replicate_succ, List.getD_cons_zero, List.getD_cons_succ, Nat.reduceSub, Nat.reduceAdd, Nat.sub_self, if_true, if_false, Bool.false_eq_true, q_frz1, q_frz2, q_stR1, q_stR2, q_free1, q_free2, q_free3, q_isN1, q_isN2, q_fIsN, q_fCI, q_fI, q_fI0, q_add1, q_add2, q_add3, q_mul1, q_mul2, q_isBl, q_isInt, q_seq1, q_seq2, q_seq3, q_len1, q_len2, q_len3, q_int1, q_abs, q_two, q_list1, q_list2, q_tuple1, q_tuple2, q_tru1, q_tru2, q_rs1, q_rs2, q_cut1, q_cut2, q_cut3, q_gtT, fEq_int, i0, i1, gIsi, tyD]
  rw [if_neg (by decide)]
  refine ⟨true, by decide, ?_⟩
  simp only [pSeq, Option.map_some, Option.map_none, pNext, pIf, pAsg, pRet, pRetN, pDrop, pFor, pForV, pAsgG, pAug, pSetIx, pBrk, pCnt, pFz, pFr, pIn, pVar, pArg, pMv, pC, pCons, pNil, p2, pB, pBl, pCB, ress, res, rv_non, rv_bl, rv_int, rv_str, rv_ty, rv_lst, rv_tup, rv_rls, rv_xr, rv_nc, noCe, stO, true_and, and_true, Bool.not_false, Bool.not_true, rv_oD, isNon_oD, gtN, gtsCons, gtsNil, pNot, pOr, pAnd, pVal, pTru, pNeg, pNotV, pAndV, pOrV, pIfE, pDisp, allInl, pCut, pNoPt, pPt, pSeqSrc, pEnum, enSrc, pRng1, rOf1, pRng2, rOf2, owAt, pApp, pPopAt, pPop, pClear, pLc, pLcV, pYes, noOw, wipeE, restE, rst, pRaise, resL, pCall, argsOf, argO, refIx, wbC, wb, wb1, outsOf, outP, List.getElem?_cons_zero, List.getElem?_cons_succ, List.getElem?_nil, List.set_cons_zero, List.set_cons_succ, List.length_cons, List.length_nil, List.cons_append, List.nil_append, List.append_nil, List.drop_succ_cons, List.drop_zero, List.drop_nil, List.replicate_zero, List.replicate_succ, List.getD_cons_zero, List.getD_cons_succ, Nat.reduceSub, Nat.reduceAdd, Nat.sub_self, if_true, if_false, Bool.false_eq_true, q_frz1, q_frz2, q_stR1, q_stR2, q_free1, q_free2, q_free3, q_isN1, q_isN2, q_fIsN, q_fCI, q_fI, q_fI0, q_add1, q_add2, q_add3, q_mul1, q_mul2, q_isBl, q_isInt, q_seq1, q_seq2, q_seq3, q_len1, q_len2, q_len3, q_int1, q_abs, q_two, q_list1, q_list2, q_tuple1, q_tuple2, q_tru1, q_tru2, q_rs1, q_rs2, q_cut1, q_cut2, q_cut3, q_gtT, fEq_int, i0, i1, gIsi, tyD]
  refine ⟨true, by decide, ?_⟩
  simp only [pSeq, Option.map_some, Option.map_none, pNext, pIf, pAsg, pRet, pRetN, pDrop, pFor, pForV, pAsgG, pAug, pSetIx, pBrk, pCnt, pFz, pFr, pIn, pVar, pArg, pMv, pC, pCons, pNil, p2, pB, pBl, pCB, ress, res, rv_non, rv_bl, rv_int, rv_str, rv_ty, rv_lst, rv_tup, rv_rls, rv_xr, rv_nc, noCe, stO, true_and, and_true, Bool.not_false, Bool.not_true, rv_oD, isNon_oD, gtN, gtsCons, gtsNil, pNot, pOr, pAnd, pVal, pTru, pNeg, pNotV, pAndV, pOrV, pIfE, pDisp, allInl, pCut, pNoPt, pPt, pSeqSrc, pEnum, enSrc, pRng1, rOf1, pRng2, rOf2, owAt, pApp, pPopAt, pPop, pClear, pLc, pLcV, pYes, noOw, wipeE, restE, rst, pRaise, resL, pCall, argsOf, argO, refIx, wbC, wb, wb1, outsOf, outP, List.getElem?_cons_zero, List.getElem?_cons_succ, List.getElem?_nil, List.set_cons_zero, List.set_cons_succ, List.length_cons, List.length_nil, List.cons_append, List.nil_append, List.append_nil, List.drop_succ_cons, List.drop_zero, List.drop_nil, List.replicate_zero, List.replicate_succ, List.getD_cons_zero, List.getD_cons_succ, Nat.reduceSub, Nat.reduceAdd, Nat.sub_self, if_true, if_false, Bool.false_eq_true, q_frz1, q_frz2, q_stR1, q_stR2, q_free1, q_free2, q_free3, q_isN1, q_isN2, q_fIsN, q_fCI, q_fI, q_fI0, q_add1, q_add2, q_add3, q_mul1, q_mul2, q_isBl, q_isInt, q_seq1, q_seq2, q_seq3, q_len1, q_len2, q_len3, q_int1, q_abs, q_two, q_list1, q_list2, q_tuple1, q_tuple2, q_tru1, q_tru2, q_rs1, q_rs2, q_cut1, q_cut2, q_cut3, q_gtT, fEq_int, i0, i1]
  have b1 : ∀ {k : Nat} {l : List Nat}, l.length ≤ k → k ≤ 4000 → l.length ≤ sizeLine := fun h1 h2 => by rw [sizeLine_eq]; omega
  have hrng : ∀ k : Nat, rngD 0 k = (List.range k).map fun (i : Nat) => D.int (i : Int) := fun k => by simp [rngD]
  refine ⟨by simp [sizeLine_eq]; omega, by intro j hj; simp at hj; subst hj; trivial, ?_⟩
  refine lcGo_filter (L ++ R) (fun (c : Nat) => .int (c : Int)) (fun _ => false) (fun (c : Nat) => .int (c : Int)) (b1 (k := 2000) (by simp; omega) (by omega)) trivial ?_ ?_ (by simp [nL])
  · intro x hx acc Rk hacc k1 k2
    simp only [pSeq, Option.map_some, Option.map_none, pNext, pIf, pAsg, pRet, pRetN, pDrop, pFor, pForV, pAsgG, pAug, pSetIx, pBrk, pCnt, pFz, pFr, pIn, pVar, pArg, pMv, pC, pCons, pNil, p2, pB, pBl, pCB, ress, res, rv_non, rv_bl, rv_int, rv_str, rv_ty, rv_lst, rv_tup, rv_rls, rv_xr, rv_nc, noCe, stO, true_and, and_true, Bool.not_false, Bool.not_true, rv_oD, isNon_oD, gtN, gtsCons, gtsNil, pNot, pOr, pAnd, pVal, pTru, pNeg, pNotV, pAndV, pOrV, pIfE, pDisp, allInl, pCut, pNoPt, pPt, pSeqSrc, pEnum, enSrc, pRng1, rOf1, pRng2, rOf2, owAt, pApp, pPopAt, pPop, pClear, pLc, pLcV, pYes, noOw, wipeE, restE, rst, pRaise, resL, pCall, argsOf, argO, refIx, wbC, wb, wb1, outsOf, outP, List.getElem?_cons_zero, List.getElem?_cons_succ, List.getElem?_nil, List.set_cons_zero, List.set_cons_succ, List.length_cons, List.length_nil, List.cons_append, List.nil_append, List.append_nil, List.drop_succ_cons, List.drop_zero, List.drop_nil, List.replicate_zero, List.replicate_succ, List.getD_cons_zero, List.getD_cons_succ, Nat.reduceSub, Nat.reduceAdd, Nat.sub_self, if_true, if_false, Bool.false_eq_true, q_frz1, q_frz2, q_stR1, q_stR2, q_free1, q_free2, q_free3, q_isN1, q_isN2, q_fIsN, q_fCI, q_fI, q_fI0, q_add1, q_add2, q_add3, q_mul1, q_mul2, q_isBl, q_isInt, q_seq1, q_seq2, q_seq3, q_len1, q_len2, q_len3, q_int1, q_abs, q_two, q_list1, q_list2, q_tuple1, q_tuple2, q_tru1, q_tru2, q_rs1, q_rs2, q_cut1, q_cut2, q_cut3, q_gtT]
    refine callGo_mk _ (⟨.int (x : Int), trivial⟩ : {d : D // kindD d}) rfl (by simp [refIx]) rfl ?_ (fun _ _ h => h.elim)
    rintro r o ⟨rfl, rfl⟩
    simp only [pSeq, Option.map_some, Option.map_none, pNext, pIf, pAsg, pRet, pRetN, pDrop, pFor, pForV, pAsgG, pAug, pSetIx, pBrk, pCnt, pFz, pFr, pIn, pVar, pArg, pMv, pC, pCons, pNil, p2, pB, pBl, pCB, ress, res, rv_non, rv_bl, rv_int, rv_str, rv_ty, rv_lst, rv_tup, rv_rls, rv_xr, rv_nc, noCe, stO, true_and, and_true, Bool.not_false, Bool.not_true, rv_oD, isNon_oD, gtN, gtsCons, gtsNil, pNot, pOr, pAnd, pVal, pTru, pNeg, pNotV, pAndV, pOrV, pIfE, pDisp, allInl, pCut, pNoPt, pPt, pSeqSrc, pEnum, enSrc, pRng1, rOf1, pRng2, rOf2, owAt, pApp, pPopAt, pPop, pClear, pLc, pLcV, pYes, noOw, wipeE, restE, rst, pRaise, resL, pCall, argsOf, argO, refIx, wbC, wb, wb1, outsOf, outP, List.getElem?_cons_zero, List.getElem?_cons_succ, List.getElem?_nil, List.set_cons_zero, List.set_cons_succ, List.length_cons, List.length_nil, List.cons_append, List.nil_append, List.append_nil, List.drop_succ_cons, List.drop_zero, List.drop_nil, List.replicate_zero, List.replicate_succ, List.getD_cons_zero, List.getD_cons_succ, Nat.reduceSub, Nat.reduceAdd, Nat.sub_self, if_true, if_false, Bool.false_eq_true, q_frz1, q_frz2, q_stR1, q_stR2, q_free1, q_free2, q_free3, q_isN1, q_isN2, q_fIsN, q_fCI, q_fI, q_fI0, q_add1, q_add2, q_add3, q_mul1, q_mul2, q_isBl, q_isInt, q_seq1, q_seq2, q_seq3, q_len1, q_len2, q_len3, q_int1, q_abs, q_two, q_list1, q_list2, q_tuple1, q_tuple2, q_tru1, q_tru2, q_rs1, q_rs2, q_cut1, q_cut2, q_cut3, q_gtT, isIntD]
    exact ⟨by intro j hj; simp at hj; subst hj; trivial, k2 rfl⟩
  have ff : (L ++ R).filter (fun _ => false) = [] := List.filter_eq_nil_iff.mpr (by simp)
  simp only [ff, List.map_nil, pSeq, Option.map_some, Option.map_none, pNext, pIf, pAsg, pRet, pRetN, pDrop, pFor, pForV, pAsgG, pAug, pSetIx, pBrk, pCnt, pFz, pFr, pIn, pVar, pArg, pMv, pC, pCons, pNil, p2, pB, pBl, pCB, ress, res, rv_non, rv_bl, rv_int, rv_str, rv_ty, rv_lst, rv_tup, rv_rls, rv_xr, rv_nc, noCe, stO, true_and, and_true, Bool.not_false, Bool.not_true, rv_oD, isNon_oD, gtN, gtsCons, gtsNil, pNot, pOr, pAnd, pVal, pTru, pNeg, pNotV, pAndV, pOrV, pIfE, pDisp, allInl, pCut, pNoPt, pPt, pSeqSrc, pEnum, enSrc, pRng1, rOf1, pRng2, rOf2, owAt, pApp, pPopAt, pPop, pClear, pLc, pLcV, pYes, noOw, wipeE, restE, rst, pRaise, resL, pCall, argsOf, argO, refIx, wbC, wb, wb1, outsOf, outP, List.getElem?_cons_zero, List.getElem?_cons_succ, List.getElem?_nil, List.set_cons_zero, List.set_cons_succ, List.length_cons, List.length_nil, List.cons_append, List.nil_append, List.append_nil, List.drop_succ_cons, List.drop_zero, List.drop_nil, List.replicate_zero, List.replicate_succ, List.getD_cons_zero, List.getD_cons_succ, Nat.reduceSub, Nat.reduceAdd, Nat.sub_self, if_true, if_false, Bool.false_eq_true, q_frz1, q_frz2, q_stR1, q_stR2, q_free1, q_free2, q_free3, q_isN1, q_isN2, q_fIsN, q_fCI, q_fI, q_fI0, q_add1, q_add2, q_add3, q_mul1, q_mul2, q_isBl, q_isInt, q_seq1, q_seq2, q_seq3, q_len1, q_len2, q_len3, q_int1, q_abs, q_two, q_list1, q_list2, q_tuple1, q_tuple2, q_tru1, q_tru2, q_rs1, q_rs2, q_cut1, q_cut2, q_cut3, q_gtT, i0, i1]
  refine ⟨Nat.zero_le _, (fEq_nL (l := []) (m := [])).mpr ?_⟩
  simp only [decide_true, pSeq, Option.map_some, Option.map_none, pNext, pIf, pAsg, pRet, pRetN, pDrop, pFor, pForV, pAsgG, pAug, pSetIx, pBrk, pCnt, pFz, pFr, pIn, pVar, pArg, pMv, pC, pCons, pNil, p2, pB, pBl, pCB, ress, res, rv_non, rv_bl, rv_int, rv_str, rv_ty, rv_lst, rv_tup, rv_rls, rv_xr, rv_nc, noCe, stO, true_and, and_true, Bool.not_false, Bool.not_true, rv_oD, isNon_oD, gtN, gtsCons, gtsNil, pNot, pOr, pAnd, pVal, pTru, pNeg, pNotV, pAndV, pOrV, pIfE, pDisp, allInl, pCut, pNoPt, pPt, pSeqSrc, pEnum, enSrc, pRng1, rOf1, pRng2, rOf2, owAt, pApp, pPopAt, pPop, pClear, pLc, pLcV, pYes, noOw, wipeE, restE, rst, pRaise, resL, pCall, argsOf, argO, refIx, wbC, wb, wb1, outsOf, outP, List.getElem?_cons_zero, List.getElem?_cons_succ, List.getElem?_nil, List.set_cons_zero, List.set_cons_succ, List.length_cons, List.length_nil, List.cons_append, List.nil_append, List.append_nil, List.drop_succ_cons, List.drop_zero, List.drop_nil, List.replicate_zero, List.replicate_succ, List.getD_cons_zero, List.getD_cons_succ, Nat.reduceSub, Nat.reduceAdd, Nat.sub_self, if_true, if_false, Bool.false_eq_true, q_frz1, q_frz2, q_stR1, q_stR2, q_free1, q_free2, q_free3, q_isN1, q_isN2, q_fIsN, q_fCI, q_fI, q_fI0, q_add1, q_add2, q_add3, q_mul1, q_mul2, q_isBl, q_isInt, q_seq1, q_seq2, q_seq3, q_len1, q_len2, q_len3, q_int1, q_abs, q_two, q_list1, q_list2, q_tuple1, q_tuple2, q_tru1, q_tru2, q_rs1, q_rs2, q_cut1, q_cut2, q_cut3, q_gtT, i0, i1, List.length_map]
  have e1 : ((N.length : Nat) : Int).toNat = N.length := by simp
  have e2 : ((n : Nat) : Int).toNat = n := by simp
  refine ⟨by omega, by intro j hj; simp at hj; subst hj; trivial, ?_⟩
  rw [e1, hrng]
  refine lcGo_filter (List.range N.length) (fun (c : Nat) => .int (c : Int)) (fun c => decide (c ∈ L)) (fun (c : Nat) => .int (c : Int)) (b1 (k := 2000) (by simp; omega) (by omega)) trivial ?_ ?_ rfl
  · intro x hx acc Rk hacc k1 k2
    simp only [pSeq, Option.map_some, Option.map_none, pNext, pIf, pAsg, pRet, pRetN, pDrop, pFor, pForV, pAsgG, pAug, pSetIx, pBrk, pCnt, pFz, pFr, pIn, pVar, pArg, pMv, pC, pCons, pNil, p2, pB, pBl, pCB, ress, res, rv_non, rv_bl, rv_int, rv_str, rv_ty, rv_lst, rv_tup, rv_rls, rv_xr, rv_nc, noCe, stO, true_and, and_true, Bool.not_false, Bool.not_true, rv_oD, isNon_oD, gtN, gtsCons, gtsNil, pNot, pOr, pAnd, pVal, pTru, pNeg, pNotV, pAndV, pOrV, pIfE, pDisp, allInl, pCut, pNoPt, pPt, pSeqSrc, pEnum, enSrc, pRng1, rOf1, pRng2, rOf2, owAt, pApp, pPopAt, pPop, pClear, pLc, pLcV, pYes, noOw, wipeE, restE, rst, pRaise, resL, pCall, argsOf, argO, refIx, wbC, wb, wb1, outsOf, outP, List.getElem?_cons_zero, List.getElem?_cons_succ, List.getElem?_nil, List.set_cons_zero, List.set_cons_succ, List.length_cons, List.length_nil, List.cons_append, List.nil_append, List.append_nil, List.drop_succ_cons, List.drop_zero, List.drop_nil, List.replicate_zero, List.replicate_succ, List.getD_cons_zero, List.getD_cons_succ, Nat.reduceSub, Nat.reduceAdd, Nat.sub_self, if_true, if_false, Bool.false_eq_true, q_frz1, q_frz2, q_stR1, q_stR2, q_free1, q_free2, q_free3, q_isN1, q_isN2, q_fIsN, q_fCI, q_fI, q_fI0, q_add1, q_add2, q_add3, q_mul1, q_mul2, q_isBl, q_isInt, q_seq1, q_seq2, q_seq3, q_len1, q_len2, q_len3, q_int1, q_abs, q_two, q_list1, q_list2, q_tuple1, q_tuple2, q_tru1, q_tru2, q_rs1, q_rs2, q_cut1, q_cut2, q_cut3, q_gtT]
    rw [fIn_int (l := nZ L) (by rw [← nL_nZ]; rfl)]
    simp only [nZ_mem, Bool.false_eq_true, if_false]
    by_cases z : x ∈ L
    · simp only [z, decide_true, if_true, pSeq, Option.map_some, Option.map_none, pNext, pIf, pAsg, pRet, pRetN, pDrop, pFor, pForV, pAsgG, pAug, pSetIx, pBrk, pCnt, pFz, pFr, pIn, pVar, pArg, pMv, pC, pCons, pNil, p2, pB, pBl, pCB, ress, res, rv_non, rv_bl, rv_int, rv_str, rv_ty, rv_lst, rv_tup, rv_rls, rv_xr, rv_nc, noCe, stO, true_and, and_true, Bool.not_false, Bool.not_true, rv_oD, isNon_oD, gtN, gtsCons, gtsNil, pNot, pOr, pAnd, pVal, pTru, pNeg, pNotV, pAndV, pOrV, pIfE, pDisp, allInl, pCut, pNoPt, pPt, pSeqSrc, pEnum, enSrc, pRng1, rOf1, pRng2, rOf2, owAt, pApp, pPopAt, pPop, pClear, pLc, pLcV, pYes, noOw, wipeE, restE, rst, pRaise, resL, pCall, argsOf, argO, refIx, wbC, wb, wb1, outsOf, outP, List.getElem?_cons_zero, List.getElem?_cons_succ, List.getElem?_nil, List.set_cons_zero, List.set_cons_succ, List.length_cons, List.length_nil, List.cons_append, List.nil_append, List.append_nil, List.drop_succ_cons, List.drop_zero, List.drop_nil, List.replicate_zero, List.replicate_succ, List.getD_cons_zero, List.getD_cons_succ, Nat.reduceSub, Nat.reduceAdd, Nat.sub_self, if_true, if_false, Bool.false_eq_true, q_frz1, q_frz2, q_stR1, q_stR2, q_free1, q_free2, q_free3, q_isN1, q_isN2, q_fIsN, q_fCI, q_fI, q_fI0, q_add1, q_add2, q_add3, q_mul1, q_mul2, q_isBl, q_isInt, q_seq1, q_seq2, q_seq3, q_len1, q_len2, q_len3, q_int1, q_abs, q_two, q_list1, q_list2, q_tuple1, q_tuple2, q_tru1, q_tru2, q_rs1, q_rs2, q_cut1, q_cut2, q_cut3, q_gtT]
      exact ⟨hacc, by intro j hj; simp at hj; subst hj; trivial, k1 (by simpa using z)⟩
    · simp only [z, decide_false, Bool.false_eq_true, if_false, pSeq, Option.map_some, Option.map_none, pNext, pIf, pAsg, pRet, pRetN, pDrop, pFor, pForV, pAsgG, pAug, pSetIx, pBrk, pCnt, pFz, pFr, pIn, pVar, pArg, pMv, pC, pCons, pNil, p2, pB, pBl, pCB, ress, res, rv_non, rv_bl, rv_int, rv_str, rv_ty, rv_lst, rv_tup, rv_rls, rv_xr, rv_nc, noCe, stO, true_and, and_true, Bool.not_false, Bool.not_true, rv_oD, isNon_oD, gtN, gtsCons, gtsNil, pNot, pOr, pAnd, pVal, pTru, pNeg, pNotV, pAndV, pOrV, pIfE, pDisp, allInl, pCut, pNoPt, pPt, pSeqSrc, pEnum, enSrc, pRng1, rOf1, pRng2, rOf2, owAt, pApp, pPopAt, pPop, pClear, pLc, pLcV, pYes, noOw, wipeE, restE, rst, pRaise, resL, pCall, argsOf, argO, refIx, wbC, wb, wb1, outsOf, outP, List.getElem?_cons_zero, List.getElem?_cons_succ, List.getElem?_nil, List.set_cons_zero, List.set_cons_succ, List.length_cons, List.length_nil, List.cons_append, List.nil_append, List.append_nil, List.drop_succ_cons, List.drop_zero, List.drop_nil, List.replicate_zero, List.replicate_succ, List.getD_cons_zero, List.getD_cons_succ, Nat.reduceSub, Nat.reduceAdd, Nat.sub_self, if_true, if_false, Bool.false_eq_true, q_frz1, q_frz2, q_stR1, q_stR2, q_free1, q_free2, q_free3, q_isN1, q_isN2, q_fIsN, q_fCI, q_fI, q_fI0, q_add1, q_add2, q_add3, q_mul1, q_mul2, q_isBl, q_isInt, q_seq1, q_seq2, q_seq3, q_len1, q_len2, q_len3, q_int1, q_abs, q_two, q_list1, q_list2, q_tuple1, q_tuple2, q_tru1, q_tru2, q_rs1, q_rs2, q_cut1, q_cut2, q_cut3, q_gtT]
      exact ⟨by intro j hj; simp at hj; subst hj; trivial, k2 (by simpa using z)⟩
  rw [wL]
  simp only [pSeq, Option.map_some, Option.map_none, pNext, pIf, pAsg, pRet, pRetN, pDrop, pFor, pForV, pAsgG, pAug, pSetIx, pBrk, pCnt, pFz, pFr, pIn, pVar, pArg, pMv, pC, pCons, pNil, p2, pB, pBl, pCB, ress, res, rv_non, rv_bl, rv_int, rv_str, rv_ty, rv_lst, rv_tup, rv_rls, rv_xr, rv_nc, noCe, stO, true_and, and_true, Bool.not_false, Bool.not_true, rv_oD, isNon_oD, gtN, gtsCons, gtsNil, pNot, pOr, pAnd, pVal, pTru, pNeg, pNotV, pAndV, pOrV, pIfE, pDisp, allInl, pCut, pNoPt, pPt, pSeqSrc, pEnum, enSrc, pRng1, rOf1, pRng2, rOf2, owAt, pApp, pPopAt, pPop, pClear, pLc, pLcV, pYes, noOw, wipeE, restE, rst, pRaise, resL, pCall, argsOf, argO, refIx, wbC, wb, wb1, outsOf, outP, List.getElem?_cons_zero, List.getElem?_cons_succ, List.getElem?_nil, List.set_cons_zero, List.set_cons_succ, List.length_cons, List.length_nil, List.cons_append, List.nil_append, List.append_nil, List.drop_succ_cons, List.drop_zero, List.drop_nil, List.replicate_zero, List.replicate_succ, List.getD_cons_zero, List.getD_cons_succ, Nat.reduceSub, Nat.reduceAdd, Nat.sub_self, if_true, if_false, Bool.false_eq_true, q_frz1, q_frz2, q_stR1, q_stR2, q_free1, q_free2, q_free3, q_isN1, q_isN2, q_fIsN, q_fCI, q_fI, q_fI0, q_add1, q_add2, q_add3, q_mul1, q_mul2, q_isBl, q_isInt, q_seq1, q_seq2, q_seq3, q_len1, q_len2, q_len3, q_int1, q_abs, q_two, q_list1, q_list2, q_tuple1, q_tuple2, q_tru1, q_tru2, q_rs1, q_rs2, q_cut1, q_cut2, q_cut3, q_gtT]
  refine fEq_nL.mpr ?_
  simp only [decide_true, pSeq, Option.map_some, Option.map_none, pNext, pIf, pAsg, pRet, pRetN, pDrop, pFor, pForV, pAsgG, pAug, pSetIx, pBrk, pCnt, pFz, pFr, pIn, pVar, pArg, pMv, pC, pCons, pNil, p2, pB, pBl, pCB, ress, res, rv_non, rv_bl, rv_int, rv_str, rv_ty, rv_lst, rv_tup, rv_rls, rv_xr, rv_nc, noCe, stO, true_and, and_true, Bool.not_false, Bool.not_true, rv_oD, isNon_oD, gtN, gtsCons, gtsNil, pNot, pOr, pAnd, pVal, pTru, pNeg, pNotV, pAndV, pOrV, pIfE, pDisp, allInl, pCut, pNoPt, pPt, pSeqSrc, pEnum, enSrc, pRng1, rOf1, pRng2, rOf2, owAt, pApp, pPopAt, pPop, pClear, pLc, pLcV, pYes, noOw, wipeE, restE, rst, pRaise, resL, pCall, argsOf, argO, refIx, wbC, wb, wb1, outsOf, outP, List.getElem?_cons_zero, List.getElem?_cons_succ, List.getElem?_nil, List.set_cons_zero, List.set_cons_succ, List.length_cons, List.length_nil, List.cons_append, List.nil_append, List.append_nil, List.drop_succ_cons, List.drop_zero, List.drop_nil, List.replicate_zero, List.replicate_succ, List.getD_cons_zero, List.getD_cons_succ, Nat.reduceSub, Nat.reduceAdd, Nat.sub_self, if_true, if_false, Bool.false_eq_true, q_frz1, q_frz2, q_stR1, q_stR2, q_free1, q_free2, q_free3, q_isN1, q_isN2, q_fIsN, q_fCI, q_fI, q_fI0, q_add1, q_add2, q_add3, q_mul1, q_mul2, q_isBl, q_isInt, q_seq1, q_seq2, q_seq3, q_len1, q_len2, q_len3, q_int1, q_abs, q_two, q_list1, q_list2, q_tuple1, q_tuple2, q_tru1, q_tru2, q_rs1, q_rs2, q_cut1, q_cut2, q_cut3, q_gtT, i0, i1, List.length_map]
  refine ⟨by omega, by intro j hj; simp at hj; subst hj; trivial, ?_⟩
  rw [e2, hrng]
  refine lcGo_filter (List.range n) (fun (c : Nat) => .int (c : Int)) (fun c => decide (c ∈ R)) (fun (c : Nat) => .int (c : Int)) (b1 (k := 2000) (by simp; omega) (by omega)) trivial ?_ ?_ rfl
  · intro x hx acc Rk hacc k1 k2
    simp only [pSeq, Option.map_some, Option.map_none, pNext, pIf, pAsg, pRet, pRetN, pDrop, pFor, pForV, pAsgG, pAug, pSetIx, pBrk, pCnt, pFz, pFr, pIn, pVar, pArg, pMv, pC, pCons, pNil, p2, pB, pBl, pCB, ress, res, rv_non, rv_bl, rv_int, rv_str, rv_ty, rv_lst, rv_tup, rv_rls, rv_xr, rv_nc, noCe, stO, true_and, and_true, Bool.not_false, Bool.not_true, rv_oD, isNon_oD, gtN, gtsCons, gtsNil, pNot, pOr, pAnd, pVal, pTru, pNeg, pNotV, pAndV, pOrV, pIfE, pDisp, allInl, pCut, pNoPt, pPt, pSeqSrc, pEnum, enSrc, pRng1, rOf1, pRng2, rOf2, owAt, pApp, pPopAt, pPop, pClear, pLc, pLcV, pYes, noOw, wipeE, restE, rst, pRaise, resL, pCall, argsOf, argO, refIx, wbC, wb, wb1, outsOf, outP, List.getElem?_cons_zero, List.getElem?_cons_succ, List.getElem?_nil, List.set_cons_zero, List.set_cons_succ, List.length_cons, List.length_nil, List.cons_append, List.nil_append, List.append_nil, List.drop_succ_cons, List.drop_zero, List.drop_nil, List.replicate_zero, List.replicate_succ, List.getD_cons_zero, List.getD_cons_succ, Nat.reduceSub, Nat.reduceAdd, Nat.sub_self, if_true, if_false, Bool.false_eq_true, q_frz1, q_frz2, q_stR1, q_stR2, q_free1, q_free2, q_free3, q_isN1, q_isN2, q_fIsN, q_fCI, q_fI, q_fI0, q_add1, q_add2, q_add3, q_mul1, q_mul2, q_isBl, q_isInt, q_seq1, q_seq2, q_seq3, q_len1, q_len2, q_len3, q_int1, q_abs, q_two, q_list1, q_list2, q_tuple1, q_tuple2, q_tru1, q_tru2, q_rs1, q_rs2, q_cut1, q_cut2, q_cut3, q_gtT]
    rw [fIn_int (l := nZ R) (by rw [← nL_nZ]; rfl)]
    simp only [nZ_mem, Bool.false_eq_true, if_false]
    by_cases z : x ∈ R
    · simp only [z, decide_true, if_true, pSeq, Option.map_some, Option.map_none, pNext, pIf, pAsg, pRet, pRetN, pDrop, pFor, pForV, pAsgG, pAug, pSetIx, pBrk, pCnt, pFz, pFr, pIn, pVar, pArg, pMv, pC, pCons, pNil, p2, pB, pBl, pCB, ress, res, rv_non, rv_bl, rv_int, rv_str, rv_ty, rv_lst, rv_tup, rv_rls, rv_xr, rv_nc, noCe, stO, true_and, and_true, Bool.not_false, Bool.not_true, rv_oD, isNon_oD, gtN, gtsCons, gtsNil, pNot, pOr, pAnd, pVal, pTru, pNeg, pNotV, pAndV, pOrV, pIfE, pDisp, allInl, pCut, pNoPt, pPt, pSeqSrc, pEnum, enSrc, pRng1, rOf1, pRng2, rOf2, owAt, pApp, pPopAt, pPop, pClear, pLc, pLcV, pYes, noOw, wipeE, restE, rst, pRaise, resL, pCall, argsOf, argO, refIx, wbC, wb, wb1, outsOf, outP, List.getElem?_cons_zero, List.getElem?_cons_succ, List.getElem?_nil, List.set_cons_zero, List.set_cons_succ, List.length_cons, List.length_nil, List.cons_append, List.nil_append, List.append_nil, List.drop_succ_cons, List.drop_zero, List.drop_nil, List.replicate_zero, List.replicate_succ, List.getD_cons_zero, List.getD_cons_succ, Nat.reduceSub, Nat.reduceAdd, Nat.sub_self, if_true, if_false, Bool.false_eq_true, q_frz1, q_frz2, q_stR1, q_stR2, q_free1, q_free2, q_free3, q_isN1, q_isN2, q_fIsN, q_fCI, q_fI, q_fI0, q_add1, q_add2, q_add3, q_mul1, q_mul2, q_isBl, q_isInt, q_seq1, q_seq2, q_seq3, q_len1, q_len2, q_len3, q_int1, q_abs, q_two, q_list1, q_list2, q_tuple1, q_tuple2, q_tru1, q_tru2, q_rs1, q_rs2, q_cut1, q_cut2, q_cut3, q_gtT]
      exact ⟨hacc, by intro j hj; simp at hj; subst hj; trivial, k1 (by simpa using z)⟩
    · simp only [z, decide_false, Bool.false_eq_true, if_false, pSeq, Option.map_some, Option.map_none, pNext, pIf, pAsg, pRet, pRetN, pDrop, pFor, pForV, pAsgG, pAug, pSetIx, pBrk, pCnt, pFz, pFr, pIn, pVar, pArg, pMv, pC, pCons, pNil, p2, pB, pBl, pCB, ress, res, rv_non, rv_bl, rv_int, rv_str, rv_ty, rv_lst, rv_tup, rv_rls, rv_xr, rv_nc, noCe, stO, true_and, and_true, Bool.not_false, Bool.not_true, rv_oD, isNon_oD, gtN, gtsCons, gtsNil, pNot, pOr, pAnd, pVal, pTru, pNeg, pNotV, pAndV, pOrV, pIfE, pDisp, allInl, pCut, pNoPt, pPt, pSeqSrc, pEnum, enSrc, pRng1, rOf1, pRng2, rOf2, owAt, pApp, pPopAt, pPop, pClear, pLc, pLcV, pYes, noOw, wipeE, restE, rst, pRaise, resL, pCall, argsOf, argO, refIx, wbC, wb, wb1, outsOf, outP, List.getElem?_cons_zero, List.getElem?_cons_succ, List.getElem?_nil, List.set_cons_zero, List.set_cons_succ, List.length_cons, List.length_nil, List.cons_append, List.nil_append, List.append_nil, List.drop_succ_cons, List.drop_zero, List.drop_nil, List.replicate_zero, List.replicate_succ, List.getD_cons_zero, List.getD_cons_succ, Nat.reduceSub, Nat.reduceAdd, Nat.sub_self, if_true, if_false, Bool.false_eq_true, q_frz1, q_frz2, q_stR1, q_stR2, q_free1, q_free2, q_free3, q_isN1, q_isN2, q_fIsN, q_fCI, q_fI, q_fI0, q_add1, q_add2, q_add3, q_mul1, q_mul2, q_isBl, q_isInt, q_seq1, q_seq2, q_seq3, q_len1, q_len2, q_len3, q_int1, q_abs, q_two, q_list1, q_list2, q_tuple1, q_tuple2, q_tru1, q_tru2, q_rs1, q_rs2, q_cut1, q_cut2, q_cut3, q_gtT]
      exact ⟨by intro j hj; simp at hj; subst hj; trivial, k2 (by simpa using z)⟩
  rw [wR]
  simp only [pSeq, Option.map_some, Option.map_none, pNext, pIf, pAsg, pRet, pRetN, pDrop, pFor, pForV, pAsgG, pAug, pSetIx, pBrk, pCnt, pFz, pFr, pIn, pVar, pArg, pMv, pC, pCons, pNil, p2, pB, pBl, pCB, ress, res, rv_non, rv_bl, rv_int, rv_str, rv_ty, rv_lst, rv_tup, rv_rls, rv_xr, rv_nc, noCe, stO, true_and, and_true, Bool.not_false, Bool.not_true, rv_oD, isNon_oD, gtN, gtsCons, gtsNil, pNot, pOr, pAnd, pVal, pTru, pNeg, pNotV, pAndV, pOrV, pIfE, pDisp, allInl, pCut, pNoPt, pPt, pSeqSrc, pEnum, enSrc, pRng1, rOf1, pRng2, rOf2, owAt, pApp, pPopAt, pPop, pClear, pLc, pLcV, pYes, noOw, wipeE, restE, rst, pRaise, resL, pCall, argsOf, argO, refIx, wbC, wb, wb1, outsOf, outP, List.getElem?_cons_zero, List.getElem?_cons_succ, List.getElem?_nil, List.set_cons_zero, List.set_cons_succ, List.length_cons, List.length_nil, List.cons_append, List.nil_append, List.append_nil, List.drop_succ_cons, List.drop_zero, List.drop_nil, List.replicate_zero, List.replicate_succ, List.getD_cons_zero, List.getD_cons_succ, Nat.reduceSub, Nat.reduceAdd, Nat.sub_self, if_true, if_false, Bool.false_eq_true, q_frz1, q_frz2, q_stR1, q_stR2, q_free1, q_free2, q_free3, q_isN1, q_isN2, q_fIsN, q_fCI, q_fI, q_fI0, q_add1, q_add2, q_add3, q_mul1, q_mul2, q_isBl, q_isInt, q_seq1, q_seq2, q_seq3, q_len1, q_len2, q_len3, q_int1, q_abs, q_two, q_list1, q_list2, q_tuple1, q_tuple2, q_tru1, q_tru2, q_rs1, q_rs2, q_cut1, q_cut2, q_cut3, q_gtT]
  refine fEq_nL.mpr ?_
  simp only [decide_true, pSeq, Option.map_some, Option.map_none, pNext, pIf, pAsg, pRet, pRetN, pDrop, pFor, pForV, pAsgG, pAug, pSetIx, pBrk, pCnt, pFz, pFr, pIn, pVar, pArg, pMv, pC, pCons, pNil, p2, pB, pBl, pCB, ress, res, rv_non, rv_bl, rv_int, rv_str, rv_ty, rv_lst, rv_tup, rv_rls, rv_xr, rv_nc, noCe, stO, true_and, and_true, Bool.not_false, Bool.not_true, rv_oD, isNon_oD, gtN, gtsCons, gtsNil, pNot, pOr, pAnd, pVal, pTru, pNeg, pNotV, pAndV, pOrV, pIfE, pDisp, allInl, pCut, pNoPt, pPt, pSeqSrc, pEnum, enSrc, pRng1, rOf1, pRng2, rOf2, owAt, pApp, pPopAt, pPop, pClear, pLc, pLcV, pYes, noOw, wipeE, restE, rst, pRaise, resL, pCall, argsOf, argO, refIx, wbC, wb, wb1, outsOf, outP, List.getElem?_cons_zero, List.getElem?_cons_succ, List.getElem?_nil, List.set_cons_zero, List.set_cons_succ, List.length_cons, List.length_nil, List.cons_append, List.nil_append, List.append_nil, List.drop_succ_cons, List.drop_zero, List.drop_nil, List.replicate_zero, List.replicate_succ, List.getD_cons_zero, List.getD_cons_succ, Nat.reduceSub, Nat.reduceAdd, Nat.sub_self, if_true, if_false, Bool.false_eq_true, q_frz1, q_frz2, q_stR1, q_stR2, q_free1, q_free2, q_free3, q_isN1, q_isN2, q_fIsN, q_fCI, q_fI, q_fI0, q_add1, q_add2, q_add3, q_mul1, q_mul2, q_isBl, q_isInt, q_seq1, q_seq2, q_seq3, q_len1, q_len2, q_len3, q_int1, q_abs, q_two, q_list1, q_list2, q_tuple1, q_tuple2, q_tru1, q_tru2, q_rs1, q_rs2, q_cut1, q_cut2, q_cut3, q_gtT, i0, i1, List.length_map]
  refine ⟨by omega, ?_⟩
  rw [e1]
  refine forGo_inv (fun i e => ∃ (o6 o7 : PW.O), e = [.fz (.tup [.tup (nL L), .tup (nL R)]), .fz (T2 N), .fz (.int (n : Int)), .un, .ow false (nL L), .ow false (nL R), o6, o7] ∧ freeO o6 ∧ freeO o7) (fun _ _ _ _ => trivial) ?_ ?_ ⟨.un, .un, rfl, trivial, trivial⟩
  · rintro i dd e Rk hdd ⟨o6, o7, rfl, f6, f7⟩ hRk
    have hi : i < N.length := by
      have := (List.getElem?_eq_some_iff.mp hdd).1
      simpa [rngD] using this
    have hdd' : dd = .int (i : Int) := by
      simp [rngD, List.getElem?_map, List.getElem?_range hi] at hdd
      exact hdd.symm
    subst hdd'
    have hr : N[i]? = some N[i] := List.getElem?_eq_getElem hi
    have hrl := hrw _ (List.mem_of_getElem? hr)
    generalize N[i] = row at hr hrl
    simp only [pSeq, Option.map_some, Option.map_none, pNext, pIf, pAsg, pRet, pRetN, pDrop, pFor, pForV, pAsgG, pAug, pSetIx, pBrk, pCnt, pFz, pFr, pIn, pVar, pArg, pMv, pC, pCons, pNil, p2, pB, pBl, pCB, ress, res, rv_non, rv_bl, rv_int, rv_str, rv_ty, rv_lst, rv_tup, rv_rls, rv_xr, rv_nc, noCe, stO, true_and, and_true, Bool.not_false, Bool.not_true, rv_oD, isNon_oD, gtN, gtsCons, gtsNil, pNot, pOr, pAnd, pVal, pTru, pNeg, pNotV, pAndV, pOrV, pIfE, pDisp, allInl, pCut, pNoPt, pPt, pSeqSrc, pEnum, enSrc, pRng1, rOf1, pRng2, rOf2, owAt, pApp, pPopAt, pPop, pClear, pLc, pLcV, pYes, noOw, wipeE, restE, rst, pRaise, resL, pCall, argsOf, argO, refIx, wbC, wb, wb1, outsOf, outP, List.getElem?_cons_zero, List.getElem?_cons_succ, List.getElem?_nil, List.set_cons_zero, List.set_cons_succ, List.length_cons, List.length_nil, List.cons_append, List.nil_append, List.append_nil, List.drop_succ_cons, List.drop_zero, List.drop_nil, List.replicate_zero, List.replicate_succ, List.getD_cons_zero, List.getD_cons_succ, Nat.reduceSub, Nat.reduceAdd, Nat.sub_self, if_true, if_false, Bool.false_eq_true, q_frz1, q_frz2, q_stR1, q_stR2, q_free1, q_free2, q_free3, q_isN1, q_isN2, q_fIsN, q_fCI, q_fI, q_fI0, q_add1, q_add2, q_add3, q_mul1, q_mul2, q_isBl, q_isInt, q_seq1, q_seq2, q_seq3, q_len1, q_len2, q_len3, q_int1, q_abs, q_two, q_list1, q_list2, q_tuple1, q_tuple2, q_tru1, q_tru2, q_rs1, q_rs2, q_cut1, q_cut2, q_cut3, q_gtT, f6, f7]
    rw [fIx_seq (d := T2 N) rfl (T2_get hr)]
    simp only [pSeq, Option.map_some, Option.map_none, pNext, pIf, pAsg, pRet, pRetN, pDrop, pFor, pForV, pAsgG, pAug, pSetIx, pBrk, pCnt, pFz, pFr, pIn, pVar, pArg, pMv, pC, pCons, pNil, p2, pB, pBl, pCB, ress, res, rv_non, rv_bl, rv_int, rv_str, rv_ty, rv_lst, rv_tup, rv_rls, rv_xr, rv_nc, noCe, stO, true_and, and_true, Bool.not_false, Bool.not_true, rv_oD, isNon_oD, gtN, gtsCons, gtsNil, pNot, pOr, pAnd, pVal, pTru, pNeg, pNotV, pAndV, pOrV, pIfE, pDisp, allInl, pCut, pNoPt, pPt, pSeqSrc, pEnum, enSrc, pRng1, rOf1, pRng2, rOf2, owAt, pApp, pPopAt, pPop, pClear, pLc, pLcV, pYes, noOw, wipeE, restE, rst, pRaise, resL, pCall, argsOf, argO, refIx, wbC, wb, wb1, outsOf, outP, List.getElem?_cons_zero, List.getElem?_cons_succ, List.getElem?_nil, List.set_cons_zero, List.set_cons_succ, List.length_cons, List.length_nil, List.cons_append, List.nil_append, List.append_nil, List.drop_succ_cons, List.drop_zero, List.drop_nil, List.replicate_zero, List.replicate_succ, List.getD_cons_zero, List.getD_cons_succ, Nat.reduceSub, Nat.reduceAdd, Nat.sub_self, if_true, if_false, Bool.false_eq_true, q_frz1, q_frz2, q_stR1, q_stR2, q_free1, q_free2, q_free3, q_isN1, q_isN2, q_fIsN, q_fCI, q_fI, q_fI0, q_add1, q_add2, q_add3, q_mul1, q_mul2, q_isBl, q_isInt, q_seq1, q_seq2, q_seq3, q_len1, q_len2, q_len3, q_int1, q_abs, q_two, q_list1, q_list2, q_tuple1, q_tuple2, q_tru1, q_tru2, q_rs1, q_rs2, q_cut1, q_cut2, q_cut3, q_gtT, f6, f7]
    refine ⟨by intro j hj; simp at hj; subst hj; trivial, ?_⟩
    refine lcGo_filter row (fun (c : Nat) => .int (c : Int)) (fun c => !decide (c ∈ R)) (fun (c : Nat) => .int (c : Int)) (b1 (k := 2000) (by omega) (by omega)) trivial ?_ ?_ rfl
    · intro x hx acc Rk hacc k1 k2
      simp only [pSeq, Option.map_some, Option.map_none, pNext, pIf, pAsg, pRet, pRetN, pDrop, pFor, pForV, pAsgG, pAug, pSetIx, pBrk, pCnt, pFz, pFr, pIn, pVar, pArg, pMv, pC, pCons, pNil, p2, pB, pBl, pCB, ress, res, rv_non, rv_bl, rv_int, rv_str, rv_ty, rv_lst, rv_tup, rv_rls, rv_xr, rv_nc, noCe, stO, true_and, and_true, Bool.not_false, Bool.not_true, rv_oD, isNon_oD, gtN, gtsCons, gtsNil, pNot, pOr, pAnd, pVal, pTru, pNeg, pNotV, pAndV, pOrV, pIfE, pDisp, allInl, pCut, pNoPt, pPt, pSeqSrc, pEnum, enSrc, pRng1, rOf1, pRng2, rOf2, owAt, pApp, pPopAt, pPop, pClear, pLc, pLcV, pYes, noOw, wipeE, restE, rst, pRaise, resL, pCall, argsOf, argO, refIx, wbC, wb, wb1, outsOf, outP, List.getElem?_cons_zero, List.getElem?_cons_succ, List.getElem?_nil, List.set_cons_zero, List.set_cons_succ, List.length_cons, List.length_nil, List.cons_append, List.nil_append, List.append_nil, List.drop_succ_cons, List.drop_zero, List.drop_nil, List.replicate_zero, List.replicate_succ, List.getD_cons_zero, List.getD_cons_succ, Nat.reduceSub, Nat.reduceAdd, Nat.sub_self, if_true, if_false, Bool.false_eq_true, q_frz1, q_frz2, q_stR1, q_stR2, q_free1, q_free2, q_free3, q_isN1, q_isN2, q_fIsN, q_fCI, q_fI, q_fI0, q_add1, q_add2, q_add3, q_mul1, q_mul2, q_isBl, q_isInt, q_seq1, q_seq2, q_seq3, q_len1, q_len2, q_len3, q_int1, q_abs, q_two, q_list1, q_list2, q_tuple1, q_tuple2, q_tru1, q_tru2, q_rs1, q_rs2, q_cut1, q_cut2, q_cut3, q_gtT]
      rw [fIn_int (l := nZ R) (by rw [← nL_nZ]; rfl)]
      simp only [nZ_mem, if_true]
      by_cases z : x ∈ R
      · simp only [z, decide_true, Bool.not_true, Bool.false_eq_true, if_false, pSeq, Option.map_some, Option.map_none, pNext, pIf, pAsg, pRet, pRetN, pDrop, pFor, pForV, pAsgG, pAug, pSetIx, pBrk, pCnt, pFz, pFr, pIn, pVar, pArg, pMv, pC, pCons, pNil, p2, pB, pBl, pCB, ress, res, rv_non, rv_bl, rv_int, rv_str, rv_ty, rv_lst, rv_tup, rv_rls, rv_xr, rv_nc, noCe, stO, true_and, and_true, Bool.not_false, Bool.not_true, rv_oD, isNon_oD, gtN, gtsCons, gtsNil, pNot, pOr, pAnd, pVal, pTru, pNeg, pNotV, pAndV, pOrV, pIfE, pDisp, allInl, pCut, pNoPt, pPt, pSeqSrc, pEnum, enSrc, pRng1, rOf1, pRng2, rOf2, owAt, pApp, pPopAt, pPop, pClear, pLc, pLcV, pYes, noOw, wipeE, restE, rst, pRaise, resL, pCall, argsOf, argO, refIx, wbC, wb, wb1, outsOf, outP, List.getElem?_cons_zero, List.getElem?_cons_succ, List.getElem?_nil, List.set_cons_zero, List.set_cons_succ, List.length_cons, List.length_nil, List.cons_append, List.nil_append, List.append_nil, List.drop_succ_cons, List.drop_zero, List.drop_nil, List.replicate_zero, List.replicate_succ, List.getD_cons_zero, List.getD_cons_succ, Nat.reduceSub, Nat.reduceAdd, Nat.sub_self, if_true, if_false, Bool.false_eq_true, q_frz1, q_frz2, q_stR1, q_stR2, q_free1, q_free2, q_free3, q_isN1, q_isN2, q_fIsN, q_fCI, q_fI, q_fI0, q_add1, q_add2, q_add3, q_mul1, q_mul2, q_isBl, q_isInt, q_seq1, q_seq2, q_seq3, q_len1, q_len2, q_len3, q_int1, q_abs, q_two, q_list1, q_list2, q_tuple1, q_tuple2, q_tru1, q_tru2, q_rs1, q_rs2, q_cut1, q_cut2, q_cut3, q_gtT]
        exact ⟨by intro j hj; simp at hj; subst hj; trivial, k2 (by simpa using z)⟩
      · simp only [z, decide_false, Bool.not_false, if_true, pSeq, Option.map_some, Option.map_none, pNext, pIf, pAsg, pRet, pRetN, pDrop, pFor, pForV, pAsgG, pAug, pSetIx, pBrk, pCnt, pFz, pFr, pIn, pVar, pArg, pMv, pC, pCons, pNil, p2, pB, pBl, pCB, ress, res, rv_non, rv_bl, rv_int, rv_str, rv_ty, rv_lst, rv_tup, rv_rls, rv_xr, rv_nc, noCe, stO, true_and, and_true, Bool.not_false, Bool.not_true, rv_oD, isNon_oD, gtN, gtsCons, gtsNil, pNot, pOr, pAnd, pVal, pTru, pNeg, pNotV, pAndV, pOrV, pIfE, pDisp, allInl, pCut, pNoPt, pPt, pSeqSrc, pEnum, enSrc, pRng1, rOf1, pRng2, rOf2, owAt, pApp, pPopAt, pPop, pClear, pLc, pLcV, pYes, noOw, wipeE, restE, rst, pRaise, resL, pCall, argsOf, argO, refIx, wbC, wb, wb1, outsOf, outP, List.getElem?_cons_zero, List.getElem?_cons_succ, List.getElem?_nil, List.set_cons_zero, List.set_cons_succ, List.length_cons, List.length_nil, List.cons_append, List.nil_append, List.append_nil, List.drop_succ_cons, List.drop_zero, List.drop_nil, List.replicate_zero, List.replicate_succ, List.getD_cons_zero, List.getD_cons_succ, Nat.reduceSub, Nat.reduceAdd, Nat.sub_self, if_true, if_false, Bool.false_eq_true, q_frz1, q_frz2, q_stR1, q_stR2, q_free1, q_free2, q_free3, q_isN1, q_isN2, q_fIsN, q_fCI, q_fI, q_fI0, q_add1, q_add2, q_add3, q_mul1, q_mul2, q_isBl, q_isInt, q_seq1, q_seq2, q_seq3, q_len1, q_len2, q_len3, q_int1, q_abs, q_two, q_list1, q_list2, q_tuple1, q_tuple2, q_tru1, q_tru2, q_rs1, q_rs2, q_cut1, q_cut2, q_cut3, q_gtT]
        exact ⟨hacc, by intro j hj; simp at hj; subst hj; trivial, k1 (by simpa using z)⟩
    simp only [pSeq, Option.map_some, Option.map_none, pNext, pIf, pAsg, pRet, pRetN, pDrop, pFor, pForV, pAsgG, pAug, pSetIx, pBrk, pCnt, pFz, pFr, pIn, pVar, pArg, pMv, pC, pCons, pNil, p2, pB, pBl, pCB, ress, res, rv_non, rv_bl, rv_int, rv_str, rv_ty, rv_lst, rv_tup, rv_rls, rv_xr, rv_nc, noCe, stO, true_and, and_true, Bool.not_false, Bool.not_true, rv_oD, isNon_oD, gtN, gtsCons, gtsNil, pNot, pOr, pAnd, pVal, pTru, pNeg, pNotV, pAndV, pOrV, pIfE, pDisp, allInl, pCut, pNoPt, pPt, pSeqSrc, pEnum, enSrc, pRng1, rOf1, pRng2, rOf2, owAt, pApp, pPopAt, pPop, pClear, pLc, pLcV, pYes, noOw, wipeE, restE, rst, pRaise, resL, pCall, argsOf, argO, refIx, wbC, wb, wb1, outsOf, outP, List.getElem?_cons_zero, List.getElem?_cons_succ, List.getElem?_nil, List.set_cons_zero, List.set_cons_succ, List.length_cons, List.length_nil, List.cons_append, List.nil_append, List.append_nil, List.drop_succ_cons, List.drop_zero, List.drop_nil, List.replicate_zero, List.replicate_succ, List.getD_cons_zero, List.getD_cons_succ, Nat.reduceSub, Nat.reduceAdd, Nat.sub_self, if_true, if_false, Bool.false_eq_true, q_frz1, q_frz2, q_stR1, q_stR2, q_free1, q_free2, q_free3, q_isN1, q_isN2, q_fIsN, q_fCI, q_fI, q_fI0, q_add1, q_add2, q_add3, q_mul1, q_mul2, q_isBl, q_isInt, q_seq1, q_seq2, q_seq3, q_len1, q_len2, q_len3, q_int1, q_abs, q_two, q_list1, q_list2, q_tuple1, q_tuple2, q_tru1, q_tru2, q_rs1, q_rs2, q_cut1, q_cut2, q_cut3, q_gtT, f7]
    rw [fIn_int (l := nZ L) (by rw [← nL_nZ]; rfl)]
    simp only [nZ_mem, if_true]
    by_cases z : i ∈ L
    · simp only [z, decide_true, Bool.not_true, Bool.false_eq_true, if_false, pSeq, Option.map_some, Option.map_none, pNext, pIf, pAsg, pRet, pRetN, pDrop, pFor, pForV, pAsgG, pAug, pSetIx, pBrk, pCnt, pFz, pFr, pIn, pVar, pArg, pMv, pC, pCons, pNil, p2, pB, pBl, pCB, ress, res, rv_non, rv_bl, rv_int, rv_str, rv_ty, rv_lst, rv_tup, rv_rls, rv_xr, rv_nc, noCe, stO, true_and, and_true, Bool.not_false, Bool.not_true, rv_oD, isNon_oD, gtN, gtsCons, gtsNil, pNot, pOr, pAnd, pVal, pTru, pNeg, pNotV, pAndV, pOrV, pIfE, pDisp, allInl, pCut, pNoPt, pPt, pSeqSrc, pEnum, enSrc, pRng1, rOf1, pRng2, rOf2, owAt, pApp, pPopAt, pPop, pClear, pLc, pLcV, pYes, noOw, wipeE, restE, rst, pRaise, resL, pCall, argsOf, argO, refIx, wbC, wb, wb1, outsOf, outP, List.getElem?_cons_zero, List.getElem?_cons_succ, List.getElem?_nil, List.set_cons_zero, List.set_cons_succ, List.length_cons, List.length_nil, List.cons_append, List.nil_append, List.append_nil, List.drop_succ_cons, List.drop_zero, List.drop_nil, List.replicate_zero, List.replicate_succ, List.getD_cons_zero, List.getD_cons_succ, Nat.reduceSub, Nat.reduceAdd, Nat.sub_self, if_true, if_false, Bool.false_eq_true, q_frz1, q_frz2, q_stR1, q_stR2, q_free1, q_free2, q_free3, q_isN1, q_isN2, q_fIsN, q_fCI, q_fI, q_fI0, q_add1, q_add2, q_add3, q_mul1, q_mul2, q_isBl, q_isInt, q_seq1, q_seq2, q_seq3, q_len1, q_len2, q_len3, q_int1, q_abs, q_two, q_list1, q_list2, q_tuple1, q_tuple2, q_tru1, q_tru2, q_rs1, q_rs2, q_cut1, q_cut2, q_cut3, q_gtT]
      exact hRk _ ⟨.fz (.int (i : Int)), .ow false _, rfl, trivial, by rw [q_free3]; trivial⟩
    · have hbare : row.filter (fun c => !decide (c ∈ R)) = [] := List.filter_eq_nil_iff.mpr fun c hc => by
        have := hz i row hr z c hc
        simp [this]
      simp only [z, decide_false, Bool.not_false, if_true, pSeq, Option.map_some, Option.map_none, pNext, pIf, pAsg, pRet, pRetN, pDrop, pFor, pForV, pAsgG, pAug, pSetIx, pBrk, pCnt, pFz, pFr, pIn, pVar, pArg, pMv, pC, pCons, pNil, p2, pB, pBl, pCB, ress, res, rv_non, rv_bl, rv_int, rv_str, rv_ty, rv_lst, rv_tup, rv_rls, rv_xr, rv_nc, noCe, stO, true_and, and_true, Bool.not_false, Bool.not_true, rv_oD, isNon_oD, gtN, gtsCons, gtsNil, pNot, pOr, pAnd, pVal, pTru, pNeg, pNotV, pAndV, pOrV, pIfE, pDisp, allInl, pCut, pNoPt, pPt, pSeqSrc, pEnum, enSrc, pRng1, rOf1, pRng2, rOf2, owAt, pApp, pPopAt, pPop, pClear, pLc, pLcV, pYes, noOw, wipeE, restE, rst, pRaise, resL, pCall, argsOf, argO, refIx, wbC, wb, wb1, outsOf, outP, List.getElem?_cons_zero, List.getElem?_cons_succ, List.getElem?_nil, List.set_cons_zero, List.set_cons_succ, List.length_cons, List.length_nil, List.cons_append, List.nil_append, List.append_nil, List.drop_succ_cons, List.drop_zero, List.drop_nil, List.replicate_zero, List.replicate_succ, List.getD_cons_zero, List.getD_cons_succ, Nat.reduceSub, Nat.reduceAdd, Nat.sub_self, if_true, if_false, Bool.false_eq_true, q_frz1, q_frz2, q_stR1, q_stR2, q_free1, q_free2, q_free3, q_isN1, q_isN2, q_fIsN, q_fCI, q_fI, q_fI0, q_add1, q_add2, q_add3, q_mul1, q_mul2, q_isBl, q_isInt, q_seq1, q_seq2, q_seq3, q_len1, q_len2, q_len3, q_int1, q_abs, q_two, q_list1, q_list2, q_tuple1, q_tuple2, q_tru1, q_tru2, q_rs1, q_rs2, q_cut1, q_cut2, q_cut3, q_gtT, hbare, List.map_nil]
      refine ⟨Nat.zero_le _, (fEq_nL (l := []) (m := [])).mpr ?_⟩
      simp only [decide_true, if_true, Bool.not_true, Bool.false_eq_true, if_false]
      exact hRk _ ⟨.fz (.int (i : Int)), .ow false _, rfl, trivial, by rw [q_free3]; trivial⟩
  · rintro e ⟨o6, o7, rfl, f6, f7⟩
    simp only [pSeq, Option.map_some, Option.map_none, pNext, pIf, pAsg, pRet, pRetN, pDrop, pFor, pForV, pAsgG, pAug, pSetIx, pBrk, pCnt, pFz, pFr, pIn, pVar, pArg, pMv, pC, pCons, pNil, p2, pB, pBl, pCB, ress, res, rv_non, rv_bl, rv_int, rv_str, rv_ty, rv_lst, rv_tup, rv_rls, rv_xr, rv_nc, noCe, stO, true_and, and_true, Bool.not_false, Bool.not_true, rv_oD, isNon_oD, gtN, gtsCons, gtsNil, pNot, pOr, pAnd, pVal, pTru, pNeg, pNotV, pAndV, pOrV, pIfE, pDisp, allInl, pCut, pNoPt, pPt, pSeqSrc, pEnum, enSrc, pRng1, rOf1, pRng2, rOf2, owAt, pApp, pPopAt, pPop, pClear, pLc, pLcV, pYes, noOw, wipeE, restE, rst, pRaise, resL, pCall, argsOf, argO, refIx, wbC, wb, wb1, outsOf, outP, List.getElem?_cons_zero, List.getElem?_cons_succ, List.getElem?_nil, List.set_cons_zero, List.set_cons_succ, List.length_cons, List.length_nil, List.cons_append, List.nil_append, List.append_nil, List.drop_succ_cons, List.drop_zero, List.drop_nil, List.replicate_zero, List.replicate_succ, List.getD_cons_zero, List.getD_cons_succ, Nat.reduceSub, Nat.reduceAdd, Nat.sub_self, if_true, if_false, Bool.false_eq_true, q_frz1, q_frz2, q_stR1, q_stR2, q_free1, q_free2, q_free3, q_isN1, q_isN2, q_fIsN, q_fCI, q_fI, q_fI0, q_add1, q_add2, q_add3, q_mul1, q_mul2, q_isBl, q_isInt, q_seq1, q_seq2, q_seq3, q_len1, q_len2, q_len3, q_int1, q_abs, q_two, q_list1, q_list2, q_tuple1, q_tuple2, q_tru1, q_tru2, q_rs1, q_rs2, q_cut1, q_cut2, q_cut3, q_gtT, List.length_map]
    have := q .un (.ow false (nL L)) (.ow false (nL R)) o6 o7
    rw [← hsum] at this
    simpa using this
section
variable {P : Program} {w : World} {K : PySem.W.Frag} {mg : Str → Option Value} {base : Heap} {C_BadCount C_BadNumber C_BadTable C_ReelError : Addr} {f : Addr} {fd : FuncData}
structure ASc where
  N : List (List Nat)
  n : Nat
  P : List (Option Nat)
  O : List (Option Nat)
  RM : List Bool
  CM : List Bool
  C : Cov N n P O RM CM
  hsz : N.length ≤ 1000 ∧ n ≤ 1000
  hrw : ∀ row ∈ N, row.length ≤ 1000
abbrev spSc : PSp := mkSp (fun (a : ASc) args => args = [.fz (covD a.RM a.CM), .fz (T2 a.N), .fz (.int (a.n : Int))]) (fun a r o => r = .fz (.int (nm a.P : Int)) ∧ o = [.un, .un, .un]) noEx
theorem ok__law_size_of_cover (T : Txt K mg C_BadCount C_BadNumber C_BadTable C_ReelError) (c1 : CalD P w K mg base 1 "_law_is_int" spIsInt)
    (Fn : Fun K "_law_size_of_cover" "_law_size_of_cover" s__law_size_of_cover f fd) : FnOk P w K mg base (L2.CX P w) 2 f fd [("told" : Str), ("rows" : Str), ("columns" : Str)] (spM K spSc) :=
  Fn.M sc__law_size_of_cover (fun a args h => by rw [show args = _ from h]; rfl) (fun cdv A outer s H E hr => d__law_size_of_cover T c1 hr) (fun a args h => by
    rw [show args = _ from h]
    exact p__law_size_of_cover a.C a.hsz a.hrw (fun _ _ _ _ _ => ⟨rfl, rfl⟩))
end
end K12
set_option Elab.async false
set_option linter.all false
set_option maxRecDepth 100000
set_option maxHeartbeats 4000000
namespace K12
open PySem PySem.Spec PyProof.Rows L2 PW
/-! ### _law_meets -/
theorem rowOk_len {m : Int} : ∀ {l : List Int} {b : Int}, b < m → rowOk m b l = true → (l.length : Int) ≤ m - b - 1
  | [], b, hb, _ => by simp; omega
  | c :: r, b, hb, h => by
    simp [rowOk] at h
    have := rowOk_len h.1.2 h.2
    simp; omega
theorem Good.len {R : List (List Int)} {m : Int} (g : Good R m) : ∀ row ∈ R, row.length ≤ 128 := fun row hr => by
  have h0 := g.m0
  have h1 := g.m1
  have := rowOk_len (b := -1) (by omega) (g.rows row hr)
  omega
structure AMt where
  d : D
  N : List (List Nat)
  n : Nat
  hd : TabZ d (N.map nZ)
  g : Good (N.map nZ) (n : Int)
theorem natLog {n : Nat} (h : n ≤ 1000) : ((n : Int)).natAbs.log2 < 1920 := by
  rw [Int.natAbs_natCast]
  exact Nat.lt_of_le_of_lt (Nat.log2_le_self _) (by omega)
theorem nZ2_inj {N N' : List (List Nat)} (h : N.map nZ = N'.map nZ) : N = N' := List.map_inj_right (fun x y e => nZ_inj.mp e) |>.mp h
theorem p__law_meets {CC CN CT : Addr} (a : AMt) {Z : PEnds} (q : ∀ o3 o4 o5, Z.rt (.fz (.bl true)) [.fz a.d, .fz (T2 a.N), .fz (.int (a.n : Int)), o3, o4, o5]) :
    b__law_meets spSc spSp (spGp CC CN CT) (spPc CC CN CT) Z [.fz a.d, .fz (T2 a.N), .fz (.int (a.n : Int)), .un, .un, .un] := by
  obtain ⟨xs, hxs, hlen, hrow⟩ := a.hd.ex
  have hrv : ∀ e, rv e a.d = a.d := fun e => seq_ne hxs
  have g0 := a.g.m0
  have g1 := a.g.m1
  have g2 := a.g.l
  have hnw : ∀ x, ¬ Wrong CC CN CT (a.N.map nZ) (a.n : Int) x := fun x hw => by
    cases hw with
    | many h => omega
    | cols h h2 => omega
    | row h h2 h3 i row h4 h5 h6 =>
      have := a.g.rows row (List.mem_of_getElem? h4)
      rw [h5] at this; cases this
  unfold b__law_meets
  simp only [pSeq, Option.map_some, Option.map_none, pNext, pIf, pAsg, pRet, pRetN, pDrop, pFor, pForV, pAsgG, pAug, pSetIx, pBrk, pCnt, pFz, pFr, pIn, pVar, pArg, pMv, pC, pCons, pNil, p2, pB, pBl, pCB, ress, res, rv_non, rv_bl, rv_int, rv_str, rv_ty, rv_lst, rv_tup, rv_rls, rv_xr, rv_nc, noCe, stO, true_and, and_true, Bool.not_false, Bool.not_true, rv_oD, isNon_oD, gtN, gtsCons, gtsNil, pNot, pOr, pAnd, pVal, pTru, pNeg, pNotV, pAndV, pOrV, pIfE, pDisp, allInl, pCut, pNoPt, pPt, pSeqSrc, pEnum, enSrc, pRng1, rOf1, pRng2, rOf2, owAt, pApp, pPopAt, pPop, pClear, pLc, pLcV, pYes, noOw, wipeE, restE, rst, pRaise, resL, pCall, argsOf, argO, refIx, wbC, wb, wb1, outsOf, outP, List.getElem?_cons_zero, List.getElem?_cons_succ, List.getElem?_nil, List.set_cons_zero, List.set_cons_succ, List.length_cons, List.length_nil, List.cons_append, List.nil_append, List.append_nil, List.drop_succ_cons, List.drop_zero, List.drop_nil, List.replicate_zero, List.replicate_succ, List.getD_cons_zero, List.getD_cons_succ, Nat.reduceSub, Nat.reduceAdd, Nat.sub_self, if_true, if_false, Bool.false_eq_true, q_frz1, q_frz2, q_stR1, q_stR2, q_free1, q_free2, q_free3, q_isN1, q_isN2, q_fIsN, q_fCI, q_fI, q_fI0, q_add1, q_add2, q_add3, q_mul1, q_mul2, q_isBl, q_isInt, q_seq1, q_seq2, q_seq3, q_len1, q_len2, q_len3, q_int1, q_abs, q_two, q_list1, q_list2, q_tuple1, q_tuple2, q_tru1, q_tru2, q_rs1, q_rs2, q_cut1, q_cut2, q_cut3, q_gtT, hrv]
  refine callGo_mk _ (⟨a.d, a.N.map nZ, a.n, a.hd, by omega, natLog (by omega)⟩ : ACt) rfl (by simp [refIx]) rfl ?_ (fun x _ h => absurd h.1 (hnw x))
  rintro r o ⟨N1, n1, P1, O1, e1, e2, -, B1, rfl, rfl⟩
  have e1' := nZ2_inj e1
  have e2' : a.n = n1 := Int.ofNat.inj e2
  subst e1' e2'
  simp only [pSeq, Option.map_some, Option.map_none, pNext, pIf, pAsg, pRet, pRetN, pDrop, pFor, pForV, pAsgG, pAug, pSetIx, pBrk, pCnt, pFz, pFr, pIn, pVar, pArg, pMv, pC, pCons, pNil, p2, pB, pBl, pCB, ress, res, rv_non, rv_bl, rv_int, rv_str, rv_ty, rv_lst, rv_tup, rv_rls, rv_xr, rv_nc, noCe, stO, true_and, and_true, Bool.not_false, Bool.not_true, rv_oD, isNon_oD, gtN, gtsCons, gtsNil, pNot, pOr, pAnd, pVal, pTru, pNeg, pNotV, pAndV, pOrV, pIfE, pDisp, allInl, pCut, pNoPt, pPt, pSeqSrc, pEnum, enSrc, pRng1, rOf1, pRng2, rOf2, owAt, pApp, pPopAt, pPop, pClear, pLc, pLcV, pYes, noOw, wipeE, restE, rst, pRaise, resL, pCall, argsOf, argO, refIx, wbC, wb, wb1, outsOf, outP, List.getElem?_cons_zero, List.getElem?_cons_succ, List.getElem?_nil, List.set_cons_zero, List.set_cons_succ, List.length_cons, List.length_nil, List.cons_append, List.nil_append, List.append_nil, List.drop_succ_cons, List.drop_zero, List.drop_nil, List.replicate_zero, List.replicate_succ, List.getD_cons_zero, List.getD_cons_succ, Nat.reduceSub, Nat.reduceAdd, Nat.sub_self, if_true, if_false, Bool.false_eq_true, q_frz1, q_frz2, q_stR1, q_stR2, q_free1, q_free2, q_free3, q_isN1, q_isN2, q_fIsN, q_fCI, q_fI, q_fI0, q_add1, q_add2, q_add3, q_mul1, q_mul2, q_isBl, q_isInt, q_seq1, q_seq2, q_seq3, q_len1, q_len2, q_len3, q_int1, q_abs, q_two, q_list1, q_list2, q_tuple1, q_tuple2, q_tru1, q_tru2, q_rs1, q_rs2, q_cut1, q_cut2, q_cut3, q_gtT, hrv, pCallK, id]
  refine callGo_mk _ (⟨a.d, a.N.map nZ, a.n, a.hd, by omega, natLog (by omega)⟩ : ACt) rfl (by simp [refIx]) rfl ?_ (fun x _ h => absurd h.1 (hnw x))
  rintro r o ⟨N2, n2, P2, O2, RM, CM, e1, e2, -, C2, rfl, rfl⟩
  have e1' := nZ2_inj e1
  have e2' : a.n = n2 := Int.ofNat.inj e2
  subst e1' e2'
  simp only [pSeq, Option.map_some, Option.map_none, pNext, pIf, pAsg, pRet, pRetN, pDrop, pFor, pForV, pAsgG, pAug, pSetIx, pBrk, pCnt, pFz, pFr, pIn, pVar, pArg, pMv, pC, pCons, pNil, p2, pB, pBl, pCB, ress, res, rv_non, rv_bl, rv_int, rv_str, rv_ty, rv_lst, rv_tup, rv_rls, rv_xr, rv_nc, noCe, stO, true_and, and_true, Bool.not_false, Bool.not_true, rv_oD, isNon_oD, gtN, gtsCons, gtsNil, pNot, pOr, pAnd, pVal, pTru, pNeg, pNotV, pAndV, pOrV, pIfE, pDisp, allInl, pCut, pNoPt, pPt, pSeqSrc, pEnum, enSrc, pRng1, rOf1, pRng2, rOf2, owAt, pApp, pPopAt, pPop, pClear, pLc, pLcV, pYes, noOw, wipeE, restE, rst, pRaise, resL, pCall, argsOf, argO, refIx, wbC, wb, wb1, outsOf, outP, List.getElem?_cons_zero, List.getElem?_cons_succ, List.getElem?_nil, List.set_cons_zero, List.set_cons_succ, List.length_cons, List.length_nil, List.cons_append, List.nil_append, List.append_nil, List.drop_succ_cons, List.drop_zero, List.drop_nil, List.replicate_zero, List.replicate_succ, List.getD_cons_zero, List.getD_cons_succ, Nat.reduceSub, Nat.reduceAdd, Nat.sub_self, if_true, if_false, Bool.false_eq_true, q_frz1, q_frz2, q_stR1, q_stR2, q_free1, q_free2, q_free3, q_isN1, q_isN2, q_fIsN, q_fCI, q_fI, q_fI0, q_add1, q_add2, q_add3, q_mul1, q_mul2, q_isBl, q_isInt, q_seq1, q_seq2, q_seq3, q_len1, q_len2, q_len3, q_int1, q_abs, q_two, q_list1, q_list2, q_tuple1, q_tuple2, q_tru1, q_tru2, q_rs1, q_rs2, q_cut1, q_cut2, q_cut3, q_gtT, hrv, seqD_seq hxs]
  refine ⟨by intro j hj; simp at hj; subst hj; trivial, ?_⟩
  refine lcGo_inv (fun i acc e => acc = ((a.N.map nZ).map I1).take i ∧ e = [.fz a.d, .fz (T2 a.N), .fz (.int (a.n : Int)), .fz (.tup (oL P1)), .fz (covD RM CM), .un]) (fun _ _ _ _ _ => trivial) ?_ ?_ ⟨by simp, rfl⟩
  · rintro i x acc e Rk hx ⟨rfl, rfl⟩ hRk
    have hi : i < (a.N.map nZ).length := by rw [← hlen]; exact (List.getElem?_eq_some_iff.mp hx).1
    obtain ⟨x', hx', hsx⟩ := hrow i _ (List.getElem?_eq_getElem hi)
    rw [hx, Option.some.injEq] at hx'
    subst hx'
    have hrx : ∀ e, rv e x = x := fun e => seq_ne hsx
    simp only [pSeq, Option.map_some, Option.map_none, pNext, pIf, pAsg, pRet, pRetN, pDrop, pFor, pForV, pAsgG, pAug, pSetIx, pBrk, pCnt, pFz, pFr, pIn, pVar, pArg, pMv, pC, pCons, pNil, p2, pB, pBl, pCB, ress, res, rv_non, rv_bl, rv_int, rv_str, rv_ty, rv_lst, rv_tup, rv_rls, rv_xr, rv_nc, noCe, stO, true_and, and_true, Bool.not_false, Bool.not_true, rv_oD, isNon_oD, gtN, gtsCons, gtsNil, pNot, pOr, pAnd, pVal, pTru, pNeg, pNotV, pAndV, pOrV, pIfE, pDisp, allInl, pCut, pNoPt, pPt, pSeqSrc, pEnum, enSrc, pRng1, rOf1, pRng2, rOf2, owAt, pApp, pPopAt, pPop, pClear, pLc, pLcV, pYes, noOw, wipeE, restE, rst, pRaise, resL, pCall, argsOf, argO, refIx, wbC, wb, wb1, outsOf, outP, List.getElem?_cons_zero, List.getElem?_cons_succ, List.getElem?_nil, List.set_cons_zero, List.set_cons_succ, List.length_cons, List.length_nil, List.cons_append, List.nil_append, List.append_nil, List.drop_succ_cons, List.drop_zero, List.drop_nil, List.replicate_zero, List.replicate_succ, List.getD_cons_zero, List.getD_cons_succ, Nat.reduceSub, Nat.reduceAdd, Nat.sub_self, if_true, if_false, Bool.false_eq_true, q_frz1, q_frz2, q_stR1, q_stR2, q_free1, q_free2, q_free3, q_isN1, q_isN2, q_fIsN, q_fCI, q_fI, q_fI0, q_add1, q_add2, q_add3, q_mul1, q_mul2, q_isBl, q_isInt, q_seq1, q_seq2, q_seq3, q_len1, q_len2, q_len3, q_int1, q_abs, q_two, q_list1, q_list2, q_tuple1, q_tuple2, q_tru1, q_tru2, q_rs1, q_rs2, q_cut1, q_cut2, q_cut3, q_gtT, hrx]
    rw [gList_seq hsx]
    simp only [pSeq, Option.map_some, Option.map_none, pNext, pIf, pAsg, pRet, pRetN, pDrop, pFor, pForV, pAsgG, pAug, pSetIx, pBrk, pCnt, pFz, pFr, pIn, pVar, pArg, pMv, pC, pCons, pNil, p2, pB, pBl, pCB, ress, res, rv_non, rv_bl, rv_int, rv_str, rv_ty, rv_lst, rv_tup, rv_rls, rv_xr, rv_nc, noCe, stO, true_and, and_true, Bool.not_false, Bool.not_true, rv_oD, isNon_oD, gtN, gtsCons, gtsNil, pNot, pOr, pAnd, pVal, pTru, pNeg, pNotV, pAndV, pOrV, pIfE, pDisp, allInl, pCut, pNoPt, pPt, pSeqSrc, pEnum, enSrc, pRng1, rOf1, pRng2, rOf2, owAt, pApp, pPopAt, pPop, pClear, pLc, pLcV, pYes, noOw, wipeE, restE, rst, pRaise, resL, pCall, argsOf, argO, refIx, wbC, wb, wb1, outsOf, outP, List.getElem?_cons_zero, List.getElem?_cons_succ, List.getElem?_nil, List.set_cons_zero, List.set_cons_succ, List.length_cons, List.length_nil, List.cons_append, List.nil_append, List.append_nil, List.drop_succ_cons, List.drop_zero, List.drop_nil, List.replicate_zero, List.replicate_succ, List.getD_cons_zero, List.getD_cons_succ, Nat.reduceSub, Nat.reduceAdd, Nat.sub_self, if_true, if_false, Bool.false_eq_true, q_frz1, q_frz2, q_stR1, q_stR2, q_free1, q_free2, q_free3, q_isN1, q_isN2, q_fIsN, q_fCI, q_fI, q_fI0, q_add1, q_add2, q_add3, q_mul1, q_mul2, q_isBl, q_isInt, q_seq1, q_seq2, q_seq3, q_len1, q_len2, q_len3, q_int1, q_abs, q_two, q_list1, q_list2, q_tuple1, q_tuple2, q_tru1, q_tru2, q_rs1, q_rs2, q_cut1, q_cut2, q_cut3, q_gtT]
    refine ⟨?_, by intro j hj; simp at hj; subst hj; trivial, hRk _ _ ⟨?_, rfl⟩⟩
    · have : (List.take i ((a.N.map nZ).map I1)).length ≤ i := by simp; omega
      rw [sizeLine_eq]; omega
    · have hi' : i < ((a.N.map nZ).map I1).length := by simpa using hi
      rw [List.take_succ_eq_append_getElem hi']
      simp [I1, iL]
  rintro acc e ⟨rfl, rfl⟩
  have ht : List.take xs.length ((a.N.map nZ).map I1) = (a.N.map nZ).map I1 := List.take_of_length_le (by simp [hlen])
  rw [ht]
  simp only [pSeq, Option.map_some, Option.map_none, pNext, pIf, pAsg, pRet, pRetN, pDrop, pFor, pForV, pAsgG, pAug, pSetIx, pBrk, pCnt, pFz, pFr, pIn, pVar, pArg, pMv, pC, pCons, pNil, p2, pB, pBl, pCB, ress, res, rv_non, rv_bl, rv_int, rv_str, rv_ty, rv_lst, rv_tup, rv_rls, rv_xr, rv_nc, noCe, stO, true_and, and_true, Bool.not_false, Bool.not_true, rv_oD, isNon_oD, gtN, gtsCons, gtsNil, pNot, pOr, pAnd, pVal, pTru, pNeg, pNotV, pAndV, pOrV, pIfE, pDisp, allInl, pCut, pNoPt, pPt, pSeqSrc, pEnum, enSrc, pRng1, rOf1, pRng2, rOf2, owAt, pApp, pPopAt, pPop, pClear, pLc, pLcV, pYes, noOw, wipeE, restE, rst, pRaise, resL, pCall, argsOf, argO, refIx, wbC, wb, wb1, outsOf, outP, List.getElem?_cons_zero, List.getElem?_cons_succ, List.getElem?_nil, List.set_cons_zero, List.set_cons_succ, List.length_cons, List.length_nil, List.cons_append, List.nil_append, List.append_nil, List.drop_succ_cons, List.drop_zero, List.drop_nil, List.replicate_zero, List.replicate_succ, List.getD_cons_zero, List.getD_cons_succ, Nat.reduceSub, Nat.reduceAdd, Nat.sub_self, if_true, if_false, Bool.false_eq_true, q_frz1, q_frz2, q_stR1, q_stR2, q_free1, q_free2, q_free3, q_isN1, q_isN2, q_fIsN, q_fCI, q_fI, q_fI0, q_add1, q_add2, q_add3, q_mul1, q_mul2, q_isBl, q_isInt, q_seq1, q_seq2, q_seq3, q_len1, q_len2, q_len3, q_int1, q_abs, q_two, q_list1, q_list2, q_tuple1, q_tuple2, q_tru1, q_tru2, q_rs1, q_rs2, q_cut1, q_cut2, q_cut3, q_gtT]
  refine fEq_I2.mpr ?_
  simp only [decide_true, Bool.not_true, Bool.false_eq_true, if_false, if_true, pSeq, Option.map_some, Option.map_none, pNext, pIf, pAsg, pRet, pRetN, pDrop, pFor, pForV, pAsgG, pAug, pSetIx, pBrk, pCnt, pFz, pFr, pIn, pVar, pArg, pMv, pC, pCons, pNil, p2, pB, pBl, pCB, ress, res, rv_non, rv_bl, rv_int, rv_str, rv_ty, rv_lst, rv_tup, rv_rls, rv_xr, rv_nc, noCe, stO, true_and, and_true, Bool.not_false, Bool.not_true, rv_oD, isNon_oD, gtN, gtsCons, gtsNil, pNot, pOr, pAnd, pVal, pTru, pNeg, pNotV, pAndV, pOrV, pIfE, pDisp, allInl, pCut, pNoPt, pPt, pSeqSrc, pEnum, enSrc, pRng1, rOf1, pRng2, rOf2, owAt, pApp, pPopAt, pPop, pClear, pLc, pLcV, pYes, noOw, wipeE, restE, rst, pRaise, resL, pCall, argsOf, argO, refIx, wbC, wb, wb1, outsOf, outP, List.getElem?_cons_zero, List.getElem?_cons_succ, List.getElem?_nil, List.set_cons_zero, List.set_cons_succ, List.length_cons, List.length_nil, List.cons_append, List.nil_append, List.append_nil, List.drop_succ_cons, List.drop_zero, List.drop_nil, List.replicate_zero, List.replicate_succ, List.getD_cons_zero, List.getD_cons_succ, Nat.reduceSub, Nat.reduceAdd, Nat.sub_self, if_true, if_false, Bool.false_eq_true, q_frz1, q_frz2, q_stR1, q_stR2, q_free1, q_free2, q_free3, q_isN1, q_isN2, q_fIsN, q_fCI, q_fI, q_fI0, q_add1, q_add2, q_add3, q_mul1, q_mul2, q_isBl, q_isInt, q_seq1, q_seq2, q_seq3, q_len1, q_len2, q_len3, q_int1, q_abs, q_two, q_list1, q_list2, q_tuple1, q_tuple2, q_tru1, q_tru2, q_rs1, q_rs2, q_cut1, q_cut2, q_cut3, q_gtT]
  have hlN : a.N.length ≤ 128 := by simpa using g2
  refine callGo_mk _ (⟨a.N, a.n, P1, O1, B1.M, by omega⟩ : ASp) rfl (by simp [refIx]) rfl ?_ (fun _ _ h => h.elim)
  rintro r o ⟨rfl, rfl⟩
  simp only [pSeq, Option.map_some, Option.map_none, pNext, pIf, pAsg, pRet, pRetN, pDrop, pFor, pForV, pAsgG, pAug, pSetIx, pBrk, pCnt, pFz, pFr, pIn, pVar, pArg, pMv, pC, pCons, pNil, p2, pB, pBl, pCB, ress, res, rv_non, rv_bl, rv_int, rv_str, rv_ty, rv_lst, rv_tup, rv_rls, rv_xr, rv_nc, noCe, stO, true_and, and_true, Bool.not_false, Bool.not_true, rv_oD, isNon_oD, gtN, gtsCons, gtsNil, pNot, pOr, pAnd, pVal, pTru, pNeg, pNotV, pAndV, pOrV, pIfE, pDisp, allInl, pCut, pNoPt, pPt, pSeqSrc, pEnum, enSrc, pRng1, rOf1, pRng2, rOf2, owAt, pApp, pPopAt, pPop, pClear, pLc, pLcV, pYes, noOw, wipeE, restE, rst, pRaise, resL, pCall, argsOf, argO, refIx, wbC, wb, wb1, outsOf, outP, List.getElem?_cons_zero, List.getElem?_cons_succ, List.getElem?_nil, List.set_cons_zero, List.set_cons_succ, List.length_cons, List.length_nil, List.cons_append, List.nil_append, List.append_nil, List.drop_succ_cons, List.drop_zero, List.drop_nil, List.replicate_zero, List.replicate_succ, List.getD_cons_zero, List.getD_cons_succ, Nat.reduceSub, Nat.reduceAdd, Nat.sub_self, if_true, if_false, Bool.false_eq_true, q_frz1, q_frz2, q_stR1, q_stR2, q_free1, q_free2, q_free3, q_isN1, q_isN2, q_fIsN, q_fCI, q_fI, q_fI0, q_add1, q_add2, q_add3, q_mul1, q_mul2, q_isBl, q_isInt, q_seq1, q_seq2, q_seq3, q_len1, q_len2, q_len3, q_int1, q_abs, q_two, q_list1, q_list2, q_tuple1, q_tuple2, q_tru1, q_tru2, q_rs1, q_rs2, q_cut1, q_cut2, q_cut3, q_gtT]
  refine callGo_mk _ (⟨a.N, a.n, P2, O2, RM, CM, C2, by omega, fun row hr => ?_⟩ : ASc) rfl (by simp [refIx]) rfl ?_ (fun _ _ h => h.elim)
  · have := a.g.len (nZ row) (List.mem_map.mpr ⟨row, hr, rfl⟩)
    simp at this; omega
  rintro r o ⟨rfl, rfl⟩
  simp only [pSeq, Option.map_some, Option.map_none, pNext, pIf, pAsg, pRet, pRetN, pDrop, pFor, pForV, pAsgG, pAug, pSetIx, pBrk, pCnt, pFz, pFr, pIn, pVar, pArg, pMv, pC, pCons, pNil, p2, pB, pBl, pCB, ress, res, rv_non, rv_bl, rv_int, rv_str, rv_ty, rv_lst, rv_tup, rv_rls, rv_xr, rv_nc, noCe, stO, true_and, and_true, Bool.not_false, Bool.not_true, rv_oD, isNon_oD, gtN, gtsCons, gtsNil, pNot, pOr, pAnd, pVal, pTru, pNeg, pNotV, pAndV, pOrV, pIfE, pDisp, allInl, pCut, pNoPt, pPt, pSeqSrc, pEnum, enSrc, pRng1, rOf1, pRng2, rOf2, owAt, pApp, pPopAt, pPop, pClear, pLc, pLcV, pYes, noOw, wipeE, restE, rst, pRaise, resL, pCall, argsOf, argO, refIx, wbC, wb, wb1, outsOf, outP, List.getElem?_cons_zero, List.getElem?_cons_succ, List.getElem?_nil, List.set_cons_zero, List.set_cons_succ, List.length_cons, List.length_nil, List.cons_append, List.nil_append, List.append_nil, List.drop_succ_cons, List.drop_zero, List.drop_nil, List.replicate_zero, List.replicate_succ, List.getD_cons_zero, List.getD_cons_succ, Nat.reduceSub, Nat.reduceAdd, Nat.sub_self, if_true, if_false, Bool.false_eq_true, q_frz1, q_frz2, q_stR1, q_stR2, q_free1, q_free2, q_free3, q_isN1, q_isN2, q_fIsN, q_fCI, q_fI, q_fI0, q_add1, q_add2, q_add3, q_mul1, q_mul2, q_isBl, q_isInt, q_seq1, q_seq2, q_seq3, q_len1, q_len2, q_len3, q_int1, q_abs, q_two, q_list1, q_list2, q_tuple1, q_tuple2, q_tru1, q_tru2, q_rs1, q_rs2, q_cut1, q_cut2, q_cut3, q_gtT, fEq_int]
  rw [best_eq B1 C2.B]
  simpa using q _ _ _
section
variable {P : Program} {w : World} {K : PySem.W.Frag} {mg : Str → Option Value} {base : Heap} {C_BadCount C_BadNumber C_BadTable C_ReelError : Addr} {f : Addr} {fd : FuncData}
abbrev spMt : PSp := mkSp (fun (a : AMt) args => args = [.fz a.d, .fz (T2 a.N), .fz (.int (a.n : Int))]) (fun a r o => r = .fz (.bl true) ∧ o = [.un, .un, .un]) noEx
theorem ok__law_meets (T : Txt K mg C_BadCount C_BadNumber C_BadTable C_ReelError) (c1 : CalD P w K mg base 2 "_law_size_of_cover" spSc) (c2 : CalD P w K mg base 2 "_law_size_of_pairing" spSp) (c3 : CalD P w K mg base 5 "greatest_pairing" (spGp C_BadCount C_BadNumber C_BadTable)) (c4 : CalK P w K mg base 5 "pairing_cover" ["rows", "columns"] (spPc C_BadCount C_BadNumber C_BadTable))
    (Fn : Fun K "_law_meets" "_law_meets" s__law_meets f fd) : FnOk P w K mg base (L2.CX P w) 6 f fd [("given" : Str), ("rows" : Str), ("columns" : Str)] (spM K spMt) :=
  Fn.M sc__law_meets (fun a args h => by rw [show args = _ from h]; rfl) (fun cdv A outer s H E hr => d__law_meets T c1 c2 c3 c4 hr) (fun a args h => by
    rw [show args = _ from h]
    exact p__law_meets a (fun _ _ _ => ⟨rfl, rfl⟩))
end
end K12
set_option Elab.async false
set_option linter.all false
set_option maxRecDepth 100000
set_option maxHeartbeats 4000000
namespace K12
open PySem PySem.Spec PyProof.Rows L2 PW
/-! ### _law_refusal -/
inductive Kd where
  | cnt
  | num
  | tab
def Kd.name : Kd → Str
  | .cnt => "BadCount"
  | .num => "BadNumber"
  | .tab => "BadTable"
def er (CC CN CT : Addr) : Kd → Str → Int → Er
  | .cnt, w, n => ⟨CC, [("many", .int n), ("what", .str w)]⟩
  | .num, w, n => ⟨CN, [("number", .int n), ("what", .str w)]⟩
  | .tab, _, n => ⟨CT, [("at", .int n)]⟩
structure ARf extends ACt where
  k : Kd
  what : Str
  num : Int
  hw : k = .tab → what = ""
  hx : ∀ CC CN CT x, Wrong CC CN CT R m x → x = er CC CN CT k what num
  hng : ¬ Good R m
def told (k : Kd) (what : Str) (num : Int) : List D := [.str k.name, .str what, .int num, .bl false, .bl true]
structure Tabs (CC CN CT CR : Addr) (tC tN tT : Addr → Option Bool) (tb : Addr → D → Option Bool) : Prop where
  c1 : tC CC = some true
  c2 : tC CN = some false
  c3 : tC CT = some false
  n2 : tN CN = some true
  n3 : tN CT = some false
  t3 : tT CT = some true
  b1 : tb CC (.ref CN) = some false
  b2 : tb CC (.ref CT) = some false
  b3 : tb CC (.ref CR) = some true
  b4 : tb CN (.ref CC) = some false
  b5 : tb CN (.ref CT) = some false
  b6 : tb CN (.ref CR) = some true
  b7 : tb CT (.ref CC) = some false
  b8 : tb CT (.ref CN) = some false
  b9 : tb CT (.ty "ValueError") = some true
  b10 : tb CT (.ref CR) = some true
theorem p__law_refusal {CC CN CT CR : Addr} {tC tN tT : Addr → Option Bool} {tb : Addr → D → Option Bool} (B : Tabs CC CN CT CR tC tN tT tb) (a : ARf) {which : Int} {Z : PEnds}
    (q : ∀ o3 o4 o5 o6, Z.rt (.ow false (told a.k a.what a.num)) [.fz (.int which), .fz a.d, .fz (.int a.m), o3, o4, o5, o6]) :
    b__law_refusal (spGp CC CN CT) (spPc CC CN CT) CC CN CT CR tC tN tT tb Z [.fz (.int which), .fz a.d, .fz (.int a.m), .un, .un, .un, .un] := by
  obtain ⟨xs, hxs, hlen, hrow⟩ := a.hd.ex
  have hrv : ∀ e, rv e a.d = a.d := fun e => seq_ne hxs
  unfold b__law_refusal
  simp only [pSeq, Option.map_some, Option.map_none, pNext, pIf, pAsg, pRet, pRetN, pDrop, pFor, pForV, pAsgG, pAug, pSetIx, pBrk, pCnt, pFz, pFr, pIn, pVar, pArg, pMv, pC, pCons, pNil, p2, pB, pBl, pCB, ress, res, rv_non, rv_bl, rv_int, rv_str, rv_ty, rv_lst, rv_tup, rv_rls, rv_xr, rv_nc, noCe, stO, true_and, and_true, Bool.not_false, Bool.not_true, rv_oD, isNon_oD, gtN, gtsCons, gtsNil, pNot, pOr, pAnd, pVal, pTru, pNeg, pNotV, pAndV, pOrV, pIfE, pDisp, allInl, pCut, pNoPt, pPt, pSeqSrc, pEnum, enSrc, pRng1, rOf1, pRng2, rOf2, owAt, pApp, pPopAt, pPop, pClear, pLc, pLcV, pYes, noOw, wipeE, restE, rst, pRaise, resL, pCall, argsOf, argO, refIx, wbC, wb, wb1, outsOf, outP, List.getElem?_cons_zero, List.getElem?_cons_succ, List.getElem?_nil, List.set_cons_zero, List.set_cons_succ, List.length_cons, List.length_nil, List.cons_append, List.nil_append, List.append_nil, List.drop_succ_cons, List.drop_zero, List.drop_nil, List.replicate_zero, List.replicate_succ, List.getD_cons_zero, List.getD_cons_succ, Nat.reduceSub, Nat.reduceAdd, Nat.sub_self, if_true, if_false, Bool.false_eq_true, q_frz1, q_frz2, q_stR1, q_stR2, q_free1, q_free2, q_free3, q_isN1, q_isN2, q_fIsN, q_fCI, q_fI, q_fI0, q_add1, q_add2, q_add3, q_mul1, q_mul2, q_isBl, q_isInt, q_seq1, q_seq2, q_seq3, q_len1, q_len2, q_len3, q_int1, q_abs, q_two, q_list1, q_list2, q_tuple1, q_tuple2, q_tru1, q_tru2, q_rs1, q_rs2, q_cut1, q_cut2, q_cut3, q_gtT, hrv, pTry, fEq_int]
  have gp : ∀ r o, postGp a.toACt r o → False := fun r o ⟨_, _, _, _, _, _, g, _⟩ => a.hng g
  have gc : ∀ r o, postPc a.toACt r o → False := fun r o ⟨_, _, _, _, _, _, _, _, g, _⟩ => a.hng g
  split
  all_goals refine callGo_mk _ a.toACt rfl (by simp [refIx]) rfl (fun r o h => (by first | exact (gp r o h).elim | exact (gc r o h).elim)) ?_
  all_goals
    rintro x o ⟨hx, rfl⟩
    have hx := a.hx CC CN CT x hx
    subst hx
    simp only [pSeq, Option.map_some, Option.map_none, pNext, pIf, pAsg, pRet, pRetN, pDrop, pFor, pForV, pAsgG, pAug, pSetIx, pBrk, pCnt, pFz, pFr, pIn, pVar, pArg, pMv, pC, pCons, pNil, p2, pB, pBl, pCB, ress, res, rv_non, rv_bl, rv_int, rv_str, rv_ty, rv_lst, rv_tup, rv_rls, rv_xr, rv_nc, noCe, stO, true_and, and_true, Bool.not_false, Bool.not_true, rv_oD, isNon_oD, gtN, gtsCons, gtsNil, pNot, pOr, pAnd, pVal, pTru, pNeg, pNotV, pAndV, pOrV, pIfE, pDisp, allInl, pCut, pNoPt, pPt, pSeqSrc, pEnum, enSrc, pRng1, rOf1, pRng2, rOf2, owAt, pApp, pPopAt, pPop, pClear, pLc, pLcV, pYes, noOw, wipeE, restE, rst, pRaise, resL, pCall, argsOf, argO, refIx, wbC, wb, wb1, outsOf, outP, List.getElem?_cons_zero, List.getElem?_cons_succ, List.getElem?_nil, List.set_cons_zero, List.set_cons_succ, List.length_cons, List.length_nil, List.cons_append, List.nil_append, List.append_nil, List.drop_succ_cons, List.drop_zero, List.drop_nil, List.replicate_zero, List.replicate_succ, List.getD_cons_zero, List.getD_cons_succ, Nat.reduceSub, Nat.reduceAdd, Nat.sub_self, if_true, if_false, Bool.false_eq_true, q_frz1, q_frz2, q_stR1, q_stR2, q_free1, q_free2, q_free3, q_isN1, q_isN2, q_fIsN, q_fCI, q_fI, q_fI0, q_add1, q_add2, q_add3, q_mul1, q_mul2, q_isBl, q_isInt, q_seq1, q_seq2, q_seq3, q_len1, q_len2, q_len3, q_int1, q_abs, q_two, q_list1, q_list2, q_tuple1, q_tuple2, q_tru1, q_tru2, q_rs1, q_rs2, q_cut1, q_cut2, q_cut3, q_gtT]
    cases hk : a.k with
    | cnt =>
      rw [hk] at q
      simp only [er, hManyA, pSeq, Option.map_some, Option.map_none, pNext, pIf, pAsg, pRet, pRetN, pDrop, pFor, pForV, pAsgG, pAug, pSetIx, pBrk, pCnt, pFz, pFr, pIn, pVar, pArg, pMv, pC, pCons, pNil, p2, pB, pBl, pCB, ress, res, rv_non, rv_bl, rv_int, rv_str, rv_ty, rv_lst, rv_tup, rv_rls, rv_xr, rv_nc, noCe, stO, true_and, and_true, Bool.not_false, Bool.not_true, rv_oD, isNon_oD, gtN, gtsCons, gtsNil, pNot, pOr, pAnd, pVal, pTru, pNeg, pNotV, pAndV, pOrV, pIfE, pDisp, allInl, pCut, pNoPt, pPt, pSeqSrc, pEnum, enSrc, pRng1, rOf1, pRng2, rOf2, owAt, pApp, pPopAt, pPop, pClear, pLc, pLcV, pYes, noOw, wipeE, restE, rst, pRaise, resL, pCall, argsOf, argO, refIx, wbC, wb, wb1, outsOf, outP, List.getElem?_cons_zero, List.getElem?_cons_succ, List.getElem?_nil, List.set_cons_zero, List.set_cons_succ, List.length_cons, List.length_nil, List.cons_append, List.nil_append, List.append_nil, List.drop_succ_cons, List.drop_zero, List.drop_nil, List.replicate_zero, List.replicate_succ, List.getD_cons_zero, List.getD_cons_succ, Nat.reduceSub, Nat.reduceAdd, Nat.sub_self, if_true, if_false, Bool.false_eq_true, q_frz1, q_frz2, q_stR1, q_stR2, q_free1, q_free2, q_free3, q_isN1, q_isN2, q_fIsN, q_fCI, q_fI, q_fI0, q_add1, q_add2, q_add3, q_mul1, q_mul2, q_isBl, q_isInt, q_seq1, q_seq2, q_seq3, q_len1, q_len2, q_len3, q_int1, q_abs, q_two, q_list1, q_list2, q_tuple1, q_tuple2, q_tru1, q_tru2, q_rs1, q_rs2, q_cut1, q_cut2, q_cut3, q_gtT, B.c1]
      refine ⟨true, rfl, fun _ x dd => ⟨by simp [sizeLine_eq], rfl, rfl, rfl, false, by simp [anyTb, B.b1, B.b2], ?_⟩, fun h => Bool.noConfusion h⟩
      simp only [pSeq, Option.map_some, Option.map_none, pNext, pIf, pAsg, pRet, pRetN, pDrop, pFor, pForV, pAsgG, pAug, pSetIx, pBrk, pCnt, pFz, pFr, pIn, pVar, pArg, pMv, pC, pCons, pNil, p2, pB, pBl, pCB, ress, res, rv_non, rv_bl, rv_int, rv_str, rv_ty, rv_lst, rv_tup, rv_rls, rv_xr, rv_nc, noCe, stO, true_and, and_true, Bool.not_false, Bool.not_true, rv_oD, isNon_oD, gtN, gtsCons, gtsNil, pNot, pOr, pAnd, pVal, pTru, pNeg, pNotV, pAndV, pOrV, pIfE, pDisp, allInl, pCut, pNoPt, pPt, pSeqSrc, pEnum, enSrc, pRng1, rOf1, pRng2, rOf2, owAt, pApp, pPopAt, pPop, pClear, pLc, pLcV, pYes, noOw, wipeE, restE, rst, pRaise, resL, pCall, argsOf, argO, refIx, wbC, wb, wb1, outsOf, outP, List.getElem?_cons_zero, List.getElem?_cons_succ, List.getElem?_nil, List.set_cons_zero, List.set_cons_succ, List.length_cons, List.length_nil, List.cons_append, List.nil_append, List.append_nil, List.drop_succ_cons, List.drop_zero, List.drop_nil, List.replicate_zero, List.replicate_succ, List.getD_cons_zero, List.getD_cons_succ, Nat.reduceSub, Nat.reduceAdd, Nat.sub_self, if_true, if_false, Bool.false_eq_true, q_frz1, q_frz2, q_stR1, q_stR2, q_free1, q_free2, q_free3, q_isN1, q_isN2, q_fIsN, q_fCI, q_fI, q_fI0, q_add1, q_add2, q_add3, q_mul1, q_mul2, q_isBl, q_isInt, q_seq1, q_seq2, q_seq3, q_len1, q_len2, q_len3, q_int1, q_abs, q_two, q_list1, q_list2, q_tuple1, q_tuple2, q_tru1, q_tru2, q_rs1, q_rs2, q_cut1, q_cut2, q_cut3, q_gtT, pXf]
      refine ⟨_, rfl, ?_⟩
      refine ⟨_, rfl, ?_⟩
      refine ⟨rfl, rfl, rfl, true, B.b3, ?_⟩
      exact ⟨by simp [sizeLine_eq], q _ _ _ _⟩
    | num =>
      rw [hk] at q
      simp only [er, hManyA, pSeq, Option.map_some, Option.map_none, pNext, pIf, pAsg, pRet, pRetN, pDrop, pFor, pForV, pAsgG, pAug, pSetIx, pBrk, pCnt, pFz, pFr, pIn, pVar, pArg, pMv, pC, pCons, pNil, p2, pB, pBl, pCB, ress, res, rv_non, rv_bl, rv_int, rv_str, rv_ty, rv_lst, rv_tup, rv_rls, rv_xr, rv_nc, noCe, stO, true_and, and_true, Bool.not_false, Bool.not_true, rv_oD, isNon_oD, gtN, gtsCons, gtsNil, pNot, pOr, pAnd, pVal, pTru, pNeg, pNotV, pAndV, pOrV, pIfE, pDisp, allInl, pCut, pNoPt, pPt, pSeqSrc, pEnum, enSrc, pRng1, rOf1, pRng2, rOf2, owAt, pApp, pPopAt, pPop, pClear, pLc, pLcV, pYes, noOw, wipeE, restE, rst, pRaise, resL, pCall, argsOf, argO, refIx, wbC, wb, wb1, outsOf, outP, List.getElem?_cons_zero, List.getElem?_cons_succ, List.getElem?_nil, List.set_cons_zero, List.set_cons_succ, List.length_cons, List.length_nil, List.cons_append, List.nil_append, List.append_nil, List.drop_succ_cons, List.drop_zero, List.drop_nil, List.replicate_zero, List.replicate_succ, List.getD_cons_zero, List.getD_cons_succ, Nat.reduceSub, Nat.reduceAdd, Nat.sub_self, if_true, if_false, Bool.false_eq_true, q_frz1, q_frz2, q_stR1, q_stR2, q_free1, q_free2, q_free3, q_isN1, q_isN2, q_fIsN, q_fCI, q_fI, q_fI0, q_add1, q_add2, q_add3, q_mul1, q_mul2, q_isBl, q_isInt, q_seq1, q_seq2, q_seq3, q_len1, q_len2, q_len3, q_int1, q_abs, q_two, q_list1, q_list2, q_tuple1, q_tuple2, q_tru1, q_tru2, q_rs1, q_rs2, q_cut1, q_cut2, q_cut3, q_gtT, B.c2, B.n2]
      refine ⟨false, rfl, fun h => Bool.noConfusion h, fun _ => ⟨true, rfl, fun _ x dd => ⟨by simp [sizeLine_eq], rfl, rfl, rfl, false, by simp [anyTb, B.b4, B.b5], ?_⟩, fun h => Bool.noConfusion h⟩⟩
      simp only [pSeq, Option.map_some, Option.map_none, pNext, pIf, pAsg, pRet, pRetN, pDrop, pFor, pForV, pAsgG, pAug, pSetIx, pBrk, pCnt, pFz, pFr, pIn, pVar, pArg, pMv, pC, pCons, pNil, p2, pB, pBl, pCB, ress, res, rv_non, rv_bl, rv_int, rv_str, rv_ty, rv_lst, rv_tup, rv_rls, rv_xr, rv_nc, noCe, stO, true_and, and_true, Bool.not_false, Bool.not_true, rv_oD, isNon_oD, gtN, gtsCons, gtsNil, pNot, pOr, pAnd, pVal, pTru, pNeg, pNotV, pAndV, pOrV, pIfE, pDisp, allInl, pCut, pNoPt, pPt, pSeqSrc, pEnum, enSrc, pRng1, rOf1, pRng2, rOf2, owAt, pApp, pPopAt, pPop, pClear, pLc, pLcV, pYes, noOw, wipeE, restE, rst, pRaise, resL, pCall, argsOf, argO, refIx, wbC, wb, wb1, outsOf, outP, List.getElem?_cons_zero, List.getElem?_cons_succ, List.getElem?_nil, List.set_cons_zero, List.set_cons_succ, List.length_cons, List.length_nil, List.cons_append, List.nil_append, List.append_nil, List.drop_succ_cons, List.drop_zero, List.drop_nil, List.replicate_zero, List.replicate_succ, List.getD_cons_zero, List.getD_cons_succ, Nat.reduceSub, Nat.reduceAdd, Nat.sub_self, if_true, if_false, Bool.false_eq_true, q_frz1, q_frz2, q_stR1, q_stR2, q_free1, q_free2, q_free3, q_isN1, q_isN2, q_fIsN, q_fCI, q_fI, q_fI0, q_add1, q_add2, q_add3, q_mul1, q_mul2, q_isBl, q_isInt, q_seq1, q_seq2, q_seq3, q_len1, q_len2, q_len3, q_int1, q_abs, q_two, q_list1, q_list2, q_tuple1, q_tuple2, q_tru1, q_tru2, q_rs1, q_rs2, q_cut1, q_cut2, q_cut3, q_gtT, pXf]
      refine ⟨_, rfl, ?_⟩
      refine ⟨_, rfl, ?_⟩
      refine ⟨rfl, rfl, rfl, true, B.b6, ?_⟩
      exact ⟨by simp [sizeLine_eq], q _ _ _ _⟩
    | tab =>
      rw [hk] at q
      simp only [er, hManyA, pSeq, Option.map_some, Option.map_none, pNext, pIf, pAsg, pRet, pRetN, pDrop, pFor, pForV, pAsgG, pAug, pSetIx, pBrk, pCnt, pFz, pFr, pIn, pVar, pArg, pMv, pC, pCons, pNil, p2, pB, pBl, pCB, ress, res, rv_non, rv_bl, rv_int, rv_str, rv_ty, rv_lst, rv_tup, rv_rls, rv_xr, rv_nc, noCe, stO, true_and, and_true, Bool.not_false, Bool.not_true, rv_oD, isNon_oD, gtN, gtsCons, gtsNil, pNot, pOr, pAnd, pVal, pTru, pNeg, pNotV, pAndV, pOrV, pIfE, pDisp, allInl, pCut, pNoPt, pPt, pSeqSrc, pEnum, enSrc, pRng1, rOf1, pRng2, rOf2, owAt, pApp, pPopAt, pPop, pClear, pLc, pLcV, pYes, noOw, wipeE, restE, rst, pRaise, resL, pCall, argsOf, argO, refIx, wbC, wb, wb1, outsOf, outP, List.getElem?_cons_zero, List.getElem?_cons_succ, List.getElem?_nil, List.set_cons_zero, List.set_cons_succ, List.length_cons, List.length_nil, List.cons_append, List.nil_append, List.append_nil, List.drop_succ_cons, List.drop_zero, List.drop_nil, List.replicate_zero, List.replicate_succ, List.getD_cons_zero, List.getD_cons_succ, Nat.reduceSub, Nat.reduceAdd, Nat.sub_self, if_true, if_false, Bool.false_eq_true, q_frz1, q_frz2, q_stR1, q_stR2, q_free1, q_free2, q_free3, q_isN1, q_isN2, q_fIsN, q_fCI, q_fI, q_fI0, q_add1, q_add2, q_add3, q_mul1, q_mul2, q_isBl, q_isInt, q_seq1, q_seq2, q_seq3, q_len1, q_len2, q_len3, q_int1, q_abs, q_two, q_list1, q_list2, q_tuple1, q_tuple2, q_tru1, q_tru2, q_rs1, q_rs2, q_cut1, q_cut2, q_cut3, q_gtT, B.c3, B.n3, B.t3]
      refine ⟨false, rfl, fun h => Bool.noConfusion h, fun _ => ⟨false, rfl, fun h => Bool.noConfusion h, fun _ => ⟨true, rfl, fun _ x dd => ⟨by simp [sizeLine_eq], rfl, rfl, rfl, false, by simp [anyTb, B.b7, B.b8], ?_⟩, fun h => Bool.noConfusion h⟩⟩⟩
      simp only [pSeq, Option.map_some, Option.map_none, pNext, pIf, pAsg, pRet, pRetN, pDrop, pFor, pForV, pAsgG, pAug, pSetIx, pBrk, pCnt, pFz, pFr, pIn, pVar, pArg, pMv, pC, pCons, pNil, p2, pB, pBl, pCB, ress, res, rv_non, rv_bl, rv_int, rv_str, rv_ty, rv_lst, rv_tup, rv_rls, rv_xr, rv_nc, noCe, stO, true_and, and_true, Bool.not_false, Bool.not_true, rv_oD, isNon_oD, gtN, gtsCons, gtsNil, pNot, pOr, pAnd, pVal, pTru, pNeg, pNotV, pAndV, pOrV, pIfE, pDisp, allInl, pCut, pNoPt, pPt, pSeqSrc, pEnum, enSrc, pRng1, rOf1, pRng2, rOf2, owAt, pApp, pPopAt, pPop, pClear, pLc, pLcV, pYes, noOw, wipeE, restE, rst, pRaise, resL, pCall, argsOf, argO, refIx, wbC, wb, wb1, outsOf, outP, List.getElem?_cons_zero, List.getElem?_cons_succ, List.getElem?_nil, List.set_cons_zero, List.set_cons_succ, List.length_cons, List.length_nil, List.cons_append, List.nil_append, List.append_nil, List.drop_succ_cons, List.drop_zero, List.drop_nil, List.replicate_zero, List.replicate_succ, List.getD_cons_zero, List.getD_cons_succ, Nat.reduceSub, Nat.reduceAdd, Nat.sub_self, if_true, if_false, Bool.false_eq_true, q_frz1, q_frz2, q_stR1, q_stR2, q_free1, q_free2, q_free3, q_isN1, q_isN2, q_fIsN, q_fCI, q_fI, q_fI0, q_add1, q_add2, q_add3, q_mul1, q_mul2, q_isBl, q_isInt, q_seq1, q_seq2, q_seq3, q_len1, q_len2, q_len3, q_int1, q_abs, q_two, q_list1, q_list2, q_tuple1, q_tuple2, q_tru1, q_tru2, q_rs1, q_rs2, q_cut1, q_cut2, q_cut3, q_gtT, pXf]
      refine ⟨rfl, rfl, rfl, true, B.b9, ?_⟩
      simp only [pSeq, Option.map_some, Option.map_none, pNext, pIf, pAsg, pRet, pRetN, pDrop, pFor, pForV, pAsgG, pAug, pSetIx, pBrk, pCnt, pFz, pFr, pIn, pVar, pArg, pMv, pC, pCons, pNil, p2, pB, pBl, pCB, ress, res, rv_non, rv_bl, rv_int, rv_str, rv_ty, rv_lst, rv_tup, rv_rls, rv_xr, rv_nc, noCe, stO, true_and, and_true, Bool.not_false, Bool.not_true, rv_oD, isNon_oD, gtN, gtsCons, gtsNil, pNot, pOr, pAnd, pVal, pTru, pNeg, pNotV, pAndV, pOrV, pIfE, pDisp, allInl, pCut, pNoPt, pPt, pSeqSrc, pEnum, enSrc, pRng1, rOf1, pRng2, rOf2, owAt, pApp, pPopAt, pPop, pClear, pLc, pLcV, pYes, noOw, wipeE, restE, rst, pRaise, resL, pCall, argsOf, argO, refIx, wbC, wb, wb1, outsOf, outP, List.getElem?_cons_zero, List.getElem?_cons_succ, List.getElem?_nil, List.set_cons_zero, List.set_cons_succ, List.length_cons, List.length_nil, List.cons_append, List.nil_append, List.append_nil, List.drop_succ_cons, List.drop_zero, List.drop_nil, List.replicate_zero, List.replicate_succ, List.getD_cons_zero, List.getD_cons_succ, Nat.reduceSub, Nat.reduceAdd, Nat.sub_self, if_true, if_false, Bool.false_eq_true, q_frz1, q_frz2, q_stR1, q_stR2, q_free1, q_free2, q_free3, q_isN1, q_isN2, q_fIsN, q_fCI, q_fI, q_fI0, q_add1, q_add2, q_add3, q_mul1, q_mul2, q_isBl, q_isInt, q_seq1, q_seq2, q_seq3, q_len1, q_len2, q_len3, q_int1, q_abs, q_two, q_list1, q_list2, q_tuple1, q_tuple2, q_tru1, q_tru2, q_rs1, q_rs2, q_cut1, q_cut2, q_cut3, q_gtT]
      refine ⟨_, rfl, ?_⟩
      refine ⟨rfl, rfl, rfl, true, B.b10, ?_⟩
      have := a.hw hk
      rw [this] at q
      exact ⟨by simp [sizeLine_eq], q _ _ _ _⟩
section
variable {P : Program} {w : World} {K : PySem.W.Frag} {mg : Str → Option Value} {base : Heap} {C_BadCount C_BadNumber C_BadTable C_ReelError : Addr} {f : Addr} {fd : FuncData}
abbrev spRf : PSp := mkSp (fun (a : Int × ARf) args => args = [.fz (.int a.1), .fz a.2.d, .fz (.int a.2.m)]) (fun a r o => r = .ow false (told a.2.k a.2.what a.2.num) ∧ o = [.un, .un, .un]) noEx
theorem ok__law_refusal (T : Txt K mg C_BadCount C_BadNumber C_BadTable C_ReelError) (c1 : CalD P w K mg base 5 "greatest_pairing" (spGp C_BadCount C_BadNumber C_BadTable)) (c2 : CalD P w K mg base 5 "pairing_cover" (spPc C_BadCount C_BadNumber C_BadTable))
    {tC tN tT : Addr → Option Bool} {tb : Addr → D → Option Bool} (B : Tabs C_BadCount C_BadNumber C_BadTable C_ReelError tC tN tT tb)
    (h1 : ∀ C b, tC C = some b → PySem.W.exmOne K (.ref C) (.ref C_BadCount) = some b) (h2 : ∀ C, tC C = some true → ExcC K C) (h3 : ∀ C, tC C = some true → TbOk K (.ref C) (tb C))
    (h4 : ∀ C b, tN C = some b → PySem.W.exmOne K (.ref C) (.ref C_BadNumber) = some b) (h5 : ∀ C, tN C = some true → ExcC K C) (h6 : ∀ C, tN C = some true → TbOk K (.ref C) (tb C))
    (h7 : ∀ C b, tT C = some b → PySem.W.exmOne K (.ref C) (.ref C_BadTable) = some b) (h8 : ∀ C, tT C = some true → ExcC K C) (h9 : ∀ C, tT C = some true → TbOk K (.ref C) (tb C))
    (Fn : Fun K "_law_refusal" "_law_refusal" s__law_refusal f fd) : FnOk P w K mg base (L2.CX P w) 6 f fd [("which" : Str), ("rows" : Str), ("columns" : Str)] (spM K spRf) :=
  Fn.M sc__law_refusal (fun a args h => by rw [show args = _ from h]; rfl) (fun cdv A outer s H E hr => d__law_refusal T c1 c2 h1 h2 h3 h4 h5 h6 h7 h8 h9 hr) (fun a args h => by
    rw [show args = _ from h]
    exact p__law_refusal B a.2 (fun _ _ _ _ => ⟨rfl, rfl⟩))
end
end K12
set_option Elab.async false
set_option linter.all false
set_option maxRecDepth 100000
set_option maxHeartbeats 4000000
namespace K12
open PySem PySem.Spec PyProof.Rows L2 PW
/-! ### _law_refuses -/
theorem tabZ_I2 (R : List (List Int)) : TabZ (I2 R) R := ⟨R.map I1, rfl, by simp, fun r row h => ⟨I1 row, by rw [List.getElem?_map, h]; rfl, rfl⟩⟩
structure ARs where
  R : List (List Int)
  m : Int
  hl : R.length ≤ 1000
  hm : m.natAbs.log2 < 1920
  k : Kd
  what : Str
  num : Int
  hw : k = .tab → what = ""
  hx : ∀ CC CN CT x, Wrong CC CN CT R m x → x = er CC CN CT k what num
  hng : ¬ Good R m
  hs : PyData.strOk what = true
abbrev ARs.rf (a : ARs) : ARf := ⟨⟨I2 a.R, a.R, a.m, tabZ_I2 _, a.hl, a.hm⟩, a.k, a.what, a.num, a.hw, a.hx, a.hng⟩
theorem Kd.ok (k : Kd) : PyData.strOk k.name = true := by cases k <;> decide +kernel
theorem fEq_told {k : Kd} {what : Str} {num : Int} (hs : PyData.strOk what = true) {neg : Bool} {Q : Bool → Prop} : fEq neg (.lst (told k what num)) (.lst [.str k.name, .str what, .int num, .bl false, .bl true]) Q ↔ Q (if neg then false else true) := by
  unfold told
  have e : (D.lst [.str k.name, .str what, .int num, .bl false, .bl true]).py = some (.list [.str k.name, .str what, .int num, .bool false, .bool true]) := rfl
  unfold fEq
  rw [e]
  have h1 : SeqAt.shaped (.list [.str k.name, .str what, .int num, .bool false, .bool true]) = true := by
    simp [SeqAt.shaped, PyData.canLay0, PyData.canLayAll0, PyData.depth, PyData.depthAll, hs, k.ok]
  have h2 : PyData.eqv (.list [.str k.name, .str what, .int num, .bool false, .bool true]) (.list [.str k.name, .str what, .int num, .bool false, .bool true]) = true := by
    simp [PyData.eqv, PyData.eqvAll]
  simp only [h1, h2, true_and]
  cases neg <;> exact Iff.rfl
theorem p__law_refuses (a : ARs) {Z : PEnds} (q : ∀ o5 o6 o7 o8, Z.rt (.fz (.bl true)) [.fz (I2 a.R), .fz (.int a.m), .fz (.str a.k.name), .fz (.str a.what), .fz (.int a.num), o5, o6, o7, o8]) :
    b__law_refuses spIsInt spRf Z [.fz (I2 a.R), .fz (.int a.m), .fz (.str a.k.name), .fz (.str a.what), .fz (.int a.num), .un, .un, .un, .un] := by
  unfold b__law_refuses
  simp only [pSeq, Option.map_some, Option.map_none, pNext, pIf, pAsg, pRet, pRetN, pDrop, pFor, pForV, pAsgG, pAug, pSetIx, pBrk, pCnt, pFz, pFr, pIn, pVar, pArg, pMv, pC, pCons, pNil, p2, pB, pBl, pCB, ress, res, rv_non, rv_bl, rv_int, rv_str, rv_ty, rv_lst, rv_tup, rv_rls, rv_xr, rv_nc, noCe, stO, true_and, and_true, Bool.not_false, Bool.not_true, rv_oD, isNon_oD, gtN, gtsCons, gtsNil, pNot, pOr, pAnd, pVal, pTru, pNeg, pNotV, pAndV, pOrV, pIfE, pDisp, allInl, pCut, pNoPt, pPt, pSeqSrc, pEnum, enSrc, pRng1, rOf1, pRng2, rOf2, owAt, pApp, pPopAt, pPop, pClear, pLc, pLcV, pYes, noOw, wipeE, restE, rst, pRaise, resL, pCall, argsOf, argO, refIx, wbC, wb, wb1, outsOf, outP, List.getElem?_cons_zero, List.getElem?_cons_succ, List.getElem?_nil, List.set_cons_zero, List.set_cons_succ, List.length_cons, List.length_nil, List.cons_append, List.nil_append, List.append_nil, List.drop_succ_cons, List.drop_zero, List.drop_nil, List.replicate_zero, List.replicate_succ, List.getD_cons_zero, List.getD_cons_succ, Nat.reduceSub, Nat.reduceAdd, Nat.sub_self, if_true, if_false, Bool.false_eq_true, q_frz1, q_frz2, q_stR1, q_stR2, q_free1, q_free2, q_free3, q_isN1, q_isN2, q_fIsN, q_fCI, q_fI, q_fI0, q_add1, q_add2, q_add3, q_mul1, q_mul2, q_isBl, q_isInt, q_seq1, q_seq2, q_seq3, q_len1, q_len2, q_len3, q_int1, q_abs, q_two, q_list1, q_list2, q_tuple1, q_tuple2, q_tru1, q_tru2, q_rs1, q_rs2, q_cut1, q_cut2, q_cut3, q_gtT]
  refine ⟨⟨by decide, by decide⟩, ?_⟩
  refine forGo_inv (fun i e => ∃ o5 o6 o8, e = [.fz (I2 a.R), .fz (.int a.m), .fz (.str a.k.name), .fz (.str a.what), .fz (.int a.num), o5, o6, .un, o8] ∧ freeO o5 ∧ freeO o6 ∧ freeO o8) (fun _ _ _ _ => trivial) ?_ ?_ ⟨.un, .un, .un, rfl, trivial, trivial, trivial⟩
  · rintro i dd e Rk hdd ⟨o5, o6, o8, rfl, f5, f6, f8⟩ hRk
    obtain ⟨w, rfl⟩ : ∃ w : Int, dd = .int w := by
      simp only [rngD, List.getElem?_map] at hdd
      obtain ⟨w, _, h⟩ := Option.map_eq_some_iff.mp hdd
      exact ⟨_, h.symm⟩
    have hsI : seqOf (I2 a.R) = some (a.R.map I1) := rfl
    simp only [pSeq, Option.map_some, Option.map_none, pNext, pIf, pAsg, pRet, pRetN, pDrop, pFor, pForV, pAsgG, pAug, pSetIx, pBrk, pCnt, pFz, pFr, pIn, pVar, pArg, pMv, pC, pCons, pNil, p2, pB, pBl, pCB, ress, res, rv_non, rv_bl, rv_int, rv_str, rv_ty, rv_lst, rv_tup, rv_rls, rv_xr, rv_nc, noCe, stO, true_and, and_true, Bool.not_false, Bool.not_true, rv_oD, isNon_oD, gtN, gtsCons, gtsNil, pNot, pOr, pAnd, pVal, pTru, pNeg, pNotV, pAndV, pOrV, pIfE, pDisp, allInl, pCut, pNoPt, pPt, pSeqSrc, pEnum, enSrc, pRng1, rOf1, pRng2, rOf2, owAt, pApp, pPopAt, pPop, pClear, pLc, pLcV, pYes, noOw, wipeE, restE, rst, pRaise, resL, pCall, argsOf, argO, refIx, wbC, wb, wb1, outsOf, outP, List.getElem?_cons_zero, List.getElem?_cons_succ, List.getElem?_nil, List.set_cons_zero, List.set_cons_succ, List.length_cons, List.length_nil, List.cons_append, List.nil_append, List.append_nil, List.drop_succ_cons, List.drop_zero, List.drop_nil, List.replicate_zero, List.replicate_succ, List.getD_cons_zero, List.getD_cons_succ, Nat.reduceSub, Nat.reduceAdd, Nat.sub_self, if_true, if_false, Bool.false_eq_true, q_frz1, q_frz2, q_stR1, q_stR2, q_free1, q_free2, q_free3, q_isN1, q_isN2, q_fIsN, q_fCI, q_fI, q_fI0, q_add1, q_add2, q_add3, q_mul1, q_mul2, q_isBl, q_isInt, q_seq1, q_seq2, q_seq3, q_len1, q_len2, q_len3, q_int1, q_abs, q_two, q_list1, q_list2, q_tuple1, q_tuple2, q_tru1, q_tru2, q_rs1, q_rs2, q_cut1, q_cut2, q_cut3, q_gtT, f5, f6, f8, I2]
    refine ⟨by intro j hj; simp at hj; subst hj; trivial, ?_⟩
    refine lcGo_filter a.R I1 (fun _ => true) I1 (by rw [sizeLine_eq]; have := a.hl; omega) trivial ?_ ?_ rfl
    · intro x hx acc Rk' hacc k1 k2
      simp only [pSeq, Option.map_some, Option.map_none, pNext, pIf, pAsg, pRet, pRetN, pDrop, pFor, pForV, pAsgG, pAug, pSetIx, pBrk, pCnt, pFz, pFr, pIn, pVar, pArg, pMv, pC, pCons, pNil, p2, pB, pBl, pCB, ress, res, rv_non, rv_bl, rv_int, rv_str, rv_ty, rv_lst, rv_tup, rv_rls, rv_xr, rv_nc, noCe, stO, true_and, and_true, Bool.not_false, Bool.not_true, rv_oD, isNon_oD, gtN, gtsCons, gtsNil, pNot, pOr, pAnd, pVal, pTru, pNeg, pNotV, pAndV, pOrV, pIfE, pDisp, allInl, pCut, pNoPt, pPt, pSeqSrc, pEnum, enSrc, pRng1, rOf1, pRng2, rOf2, owAt, pApp, pPopAt, pPop, pClear, pLc, pLcV, pYes, noOw, wipeE, restE, rst, pRaise, resL, pCall, argsOf, argO, refIx, wbC, wb, wb1, outsOf, outP, List.getElem?_cons_zero, List.getElem?_cons_succ, List.getElem?_nil, List.set_cons_zero, List.set_cons_succ, List.length_cons, List.length_nil, List.cons_append, List.nil_append, List.append_nil, List.drop_succ_cons, List.drop_zero, List.drop_nil, List.replicate_zero, List.replicate_succ, List.getD_cons_zero, List.getD_cons_succ, Nat.reduceSub, Nat.reduceAdd, Nat.sub_self, if_true, if_false, Bool.false_eq_true, q_frz1, q_frz2, q_stR1, q_stR2, q_free1, q_free2, q_free3, q_isN1, q_isN2, q_fIsN, q_fCI, q_fI, q_fI0, q_add1, q_add2, q_add3, q_mul1, q_mul2, q_isBl, q_isInt, q_seq1, q_seq2, q_seq3, q_len1, q_len2, q_len3, q_int1, q_abs, q_two, q_list1, q_list2, q_tuple1, q_tuple2, q_tru1, q_tru2, q_rs1, q_rs2, q_cut1, q_cut2, q_cut3, q_gtT]
      exact ⟨hacc, by intro j hj; simp at hj; subst hj; trivial, k1 rfl⟩
    have hft : a.R.filter (fun _ => true) = a.R := by simp
    rw [hft]
    simp only [pSeq, Option.map_some, Option.map_none, pNext, pIf, pAsg, pRet, pRetN, pDrop, pFor, pForV, pAsgG, pAug, pSetIx, pBrk, pCnt, pFz, pFr, pIn, pVar, pArg, pMv, pC, pCons, pNil, p2, pB, pBl, pCB, ress, res, rv_non, rv_bl, rv_int, rv_str, rv_ty, rv_lst, rv_tup, rv_rls, rv_xr, rv_nc, noCe, stO, true_and, and_true, Bool.not_false, Bool.not_true, rv_oD, isNon_oD, gtN, gtsCons, gtsNil, pNot, pOr, pAnd, pVal, pTru, pNeg, pNotV, pAndV, pOrV, pIfE, pDisp, allInl, pCut, pNoPt, pPt, pSeqSrc, pEnum, enSrc, pRng1, rOf1, pRng2, rOf2, owAt, pApp, pPopAt, pPop, pClear, pLc, pLcV, pYes, noOw, wipeE, restE, rst, pRaise, resL, pCall, argsOf, argO, refIx, wbC, wb, wb1, outsOf, outP, List.getElem?_cons_zero, List.getElem?_cons_succ, List.getElem?_nil, List.set_cons_zero, List.set_cons_succ, List.length_cons, List.length_nil, List.cons_append, List.nil_append, List.append_nil, List.drop_succ_cons, List.drop_zero, List.drop_nil, List.replicate_zero, List.replicate_succ, List.getD_cons_zero, List.getD_cons_succ, Nat.reduceSub, Nat.reduceAdd, Nat.sub_self, if_true, if_false, Bool.false_eq_true, q_frz1, q_frz2, q_stR1, q_stR2, q_free1, q_free2, q_free3, q_isN1, q_isN2, q_fIsN, q_fCI, q_fI, q_fI0, q_add1, q_add2, q_add3, q_mul1, q_mul2, q_isBl, q_isInt, q_seq1, q_seq2, q_seq3, q_len1, q_len2, q_len3, q_int1, q_abs, q_two, q_list1, q_list2, q_tuple1, q_tuple2, q_tru1, q_tru2, q_rs1, q_rs2, q_cut1, q_cut2, q_cut3, q_gtT, f5, f6, f8]
    refine callGo_mk _ (w, a.rf) rfl (by simp [refIx]) rfl ?_ (fun _ _ h => h.elim)
    rintro r o ⟨rfl, rfl⟩
    simp only [pSeq, Option.map_some, Option.map_none, pNext, pIf, pAsg, pRet, pRetN, pDrop, pFor, pForV, pAsgG, pAug, pSetIx, pBrk, pCnt, pFz, pFr, pIn, pVar, pArg, pMv, pC, pCons, pNil, p2, pB, pBl, pCB, ress, res, rv_non, rv_bl, rv_int, rv_str, rv_ty, rv_lst, rv_tup, rv_rls, rv_xr, rv_nc, noCe, stO, true_and, and_true, Bool.not_false, Bool.not_true, rv_oD, isNon_oD, gtN, gtsCons, gtsNil, pNot, pOr, pAnd, pVal, pTru, pNeg, pNotV, pAndV, pOrV, pIfE, pDisp, allInl, pCut, pNoPt, pPt, pSeqSrc, pEnum, enSrc, pRng1, rOf1, pRng2, rOf2, owAt, pApp, pPopAt, pPop, pClear, pLc, pLcV, pYes, noOw, wipeE, restE, rst, pRaise, resL, pCall, argsOf, argO, refIx, wbC, wb, wb1, outsOf, outP, List.getElem?_cons_zero, List.getElem?_cons_succ, List.getElem?_nil, List.set_cons_zero, List.set_cons_succ, List.length_cons, List.length_nil, List.cons_append, List.nil_append, List.append_nil, List.drop_succ_cons, List.drop_zero, List.drop_nil, List.replicate_zero, List.replicate_succ, List.getD_cons_zero, List.getD_cons_succ, Nat.reduceSub, Nat.reduceAdd, Nat.sub_self, if_true, if_false, Bool.false_eq_true, q_frz1, q_frz2, q_stR1, q_stR2, q_free1, q_free2, q_free3, q_isN1, q_isN2, q_fIsN, q_fCI, q_fI, q_fI0, q_add1, q_add2, q_add3, q_mul1, q_mul2, q_isBl, q_isInt, q_seq1, q_seq2, q_seq3, q_len1, q_len2, q_len3, q_int1, q_abs, q_two, q_list1, q_list2, q_tuple1, q_tuple2, q_tru1, q_tru2, q_rs1, q_rs2, q_cut1, q_cut2, q_cut3, q_gtT, f5, f6, f8]
    refine ⟨by simp [sizeLine_eq], (fEq_told a.hs).mpr ?_⟩
    simp only [if_true, Bool.false_eq_true, if_false]
    refine fEq_I2.mpr ?_
    simp only [decide_true, Bool.not_true, Bool.false_eq_true, if_false, if_true, pSeq, Option.map_some, Option.map_none, pNext, pIf, pAsg, pRet, pRetN, pDrop, pFor, pForV, pAsgG, pAug, pSetIx, pBrk, pCnt, pFz, pFr, pIn, pVar, pArg, pMv, pC, pCons, pNil, p2, pB, pBl, pCB, ress, res, rv_non, rv_bl, rv_int, rv_str, rv_ty, rv_lst, rv_tup, rv_rls, rv_xr, rv_nc, noCe, stO, true_and, and_true, Bool.not_false, Bool.not_true, rv_oD, isNon_oD, gtN, gtsCons, gtsNil, pNot, pOr, pAnd, pVal, pTru, pNeg, pNotV, pAndV, pOrV, pIfE, pDisp, allInl, pCut, pNoPt, pPt, pSeqSrc, pEnum, enSrc, pRng1, rOf1, pRng2, rOf2, owAt, pApp, pPopAt, pPop, pClear, pLc, pLcV, pYes, noOw, wipeE, restE, rst, pRaise, resL, pCall, argsOf, argO, refIx, wbC, wb, wb1, outsOf, outP, List.getElem?_cons_zero, List.getElem?_cons_succ, List.getElem?_nil, List.set_cons_zero, List.set_cons_succ, List.length_cons, List.length_nil, List.cons_append, List.nil_append, List.append_nil, List.drop_succ_cons, List.drop_zero, List.drop_nil, List.replicate_zero, List.replicate_succ, List.getD_cons_zero, List.getD_cons_succ, Nat.reduceSub, Nat.reduceAdd, Nat.sub_self, if_true, if_false, Bool.false_eq_true, q_frz1, q_frz2, q_stR1, q_stR2, q_free1, q_free2, q_free3, q_isN1, q_isN2, q_fIsN, q_fCI, q_fI, q_fI0, q_add1, q_add2, q_add3, q_mul1, q_mul2, q_isBl, q_isInt, q_seq1, q_seq2, q_seq3, q_len1, q_len2, q_len3, q_int1, q_abs, q_two, q_list1, q_list2, q_tuple1, q_tuple2, q_tru1, q_tru2, q_rs1, q_rs2, q_cut1, q_cut2, q_cut3, q_gtT]
    have i2 : ∀ Q : PW.O → Prop, fIx (.lst (told a.k a.what a.num)) (.int 2) Q ↔ Q (.fz (.int a.num)) := fun Q => fIx_seq (d := .lst (told a.k a.what a.num)) rfl (i := 2) rfl
    rw [i2]
    simp only [pSeq, Option.map_some, Option.map_none, pNext, pIf, pAsg, pRet, pRetN, pDrop, pFor, pForV, pAsgG, pAug, pSetIx, pBrk, pCnt, pFz, pFr, pIn, pVar, pArg, pMv, pC, pCons, pNil, p2, pB, pBl, pCB, ress, res, rv_non, rv_bl, rv_int, rv_str, rv_ty, rv_lst, rv_tup, rv_rls, rv_xr, rv_nc, noCe, stO, true_and, and_true, Bool.not_false, Bool.not_true, rv_oD, isNon_oD, gtN, gtsCons, gtsNil, pNot, pOr, pAnd, pVal, pTru, pNeg, pNotV, pAndV, pOrV, pIfE, pDisp, allInl, pCut, pNoPt, pPt, pSeqSrc, pEnum, enSrc, pRng1, rOf1, pRng2, rOf2, owAt, pApp, pPopAt, pPop, pClear, pLc, pLcV, pYes, noOw, wipeE, restE, rst, pRaise, resL, pCall, argsOf, argO, refIx, wbC, wb, wb1, outsOf, outP, List.getElem?_cons_zero, List.getElem?_cons_succ, List.getElem?_nil, List.set_cons_zero, List.set_cons_succ, List.length_cons, List.length_nil, List.cons_append, List.nil_append, List.append_nil, List.drop_succ_cons, List.drop_zero, List.drop_nil, List.replicate_zero, List.replicate_succ, List.getD_cons_zero, List.getD_cons_succ, Nat.reduceSub, Nat.reduceAdd, Nat.sub_self, if_true, if_false, Bool.false_eq_true, q_frz1, q_frz2, q_stR1, q_stR2, q_free1, q_free2, q_free3, q_isN1, q_isN2, q_fIsN, q_fCI, q_fI, q_fI0, q_add1, q_add2, q_add3, q_mul1, q_mul2, q_isBl, q_isInt, q_seq1, q_seq2, q_seq3, q_len1, q_len2, q_len3, q_int1, q_abs, q_two, q_list1, q_list2, q_tuple1, q_tuple2, q_tru1, q_tru2, q_rs1, q_rs2, q_cut1, q_cut2, q_cut3, q_gtT]
    refine callGo_mk _ (⟨.int a.num, trivial⟩ : {d : D // kindD d}) rfl (by simp [refIx]) rfl ?_ (fun _ _ h => h.elim)
    rintro r o ⟨rfl, rfl⟩
    simp only [pSeq, Option.map_some, Option.map_none, pNext, pIf, pAsg, pRet, pRetN, pDrop, pFor, pForV, pAsgG, pAug, pSetIx, pBrk, pCnt, pFz, pFr, pIn, pVar, pArg, pMv, pC, pCons, pNil, p2, pB, pBl, pCB, ress, res, rv_non, rv_bl, rv_int, rv_str, rv_ty, rv_lst, rv_tup, rv_rls, rv_xr, rv_nc, noCe, stO, true_and, and_true, Bool.not_false, Bool.not_true, rv_oD, isNon_oD, gtN, gtsCons, gtsNil, pNot, pOr, pAnd, pVal, pTru, pNeg, pNotV, pAndV, pOrV, pIfE, pDisp, allInl, pCut, pNoPt, pPt, pSeqSrc, pEnum, enSrc, pRng1, rOf1, pRng2, rOf2, owAt, pApp, pPopAt, pPop, pClear, pLc, pLcV, pYes, noOw, wipeE, restE, rst, pRaise, resL, pCall, argsOf, argO, refIx, wbC, wb, wb1, outsOf, outP, List.getElem?_cons_zero, List.getElem?_cons_succ, List.getElem?_nil, List.set_cons_zero, List.set_cons_succ, List.length_cons, List.length_nil, List.cons_append, List.nil_append, List.append_nil, List.drop_succ_cons, List.drop_zero, List.drop_nil, List.replicate_zero, List.replicate_succ, List.getD_cons_zero, List.getD_cons_succ, Nat.reduceSub, Nat.reduceAdd, Nat.sub_self, if_true, if_false, Bool.false_eq_true, q_frz1, q_frz2, q_stR1, q_stR2, q_free1, q_free2, q_free3, q_isN1, q_isN2, q_fIsN, q_fCI, q_fI, q_fI0, q_add1, q_add2, q_add3, q_mul1, q_mul2, q_isBl, q_isInt, q_seq1, q_seq2, q_seq3, q_len1, q_len2, q_len3, q_int1, q_abs, q_two, q_list1, q_list2, q_tuple1, q_tuple2, q_tru1, q_tru2, q_rs1, q_rs2, q_cut1, q_cut2, q_cut3, q_gtT, isIntD]
    exact hRk _ ⟨.fz (.int w), .fz (.lst (a.R.map I1)), .ow false (told a.k a.what a.num), rfl, trivial, trivial, by rw [q_free3]; trivial⟩
  · rintro e ⟨o5, o6, o8, rfl, f5, f6, f8⟩
    simp only [pSeq, Option.map_some, Option.map_none, pNext, pIf, pAsg, pRet, pRetN, pDrop, pFor, pForV, pAsgG, pAug, pSetIx, pBrk, pCnt, pFz, pFr, pIn, pVar, pArg, pMv, pC, pCons, pNil, p2, pB, pBl, pCB, ress, res, rv_non, rv_bl, rv_int, rv_str, rv_ty, rv_lst, rv_tup, rv_rls, rv_xr, rv_nc, noCe, stO, true_and, and_true, Bool.not_false, Bool.not_true, rv_oD, isNon_oD, gtN, gtsCons, gtsNil, pNot, pOr, pAnd, pVal, pTru, pNeg, pNotV, pAndV, pOrV, pIfE, pDisp, allInl, pCut, pNoPt, pPt, pSeqSrc, pEnum, enSrc, pRng1, rOf1, pRng2, rOf2, owAt, pApp, pPopAt, pPop, pClear, pLc, pLcV, pYes, noOw, wipeE, restE, rst, pRaise, resL, pCall, argsOf, argO, refIx, wbC, wb, wb1, outsOf, outP, List.getElem?_cons_zero, List.getElem?_cons_succ, List.getElem?_nil, List.set_cons_zero, List.set_cons_succ, List.length_cons, List.length_nil, List.cons_append, List.nil_append, List.append_nil, List.drop_succ_cons, List.drop_zero, List.drop_nil, List.replicate_zero, List.replicate_succ, List.getD_cons_zero, List.getD_cons_succ, Nat.reduceSub, Nat.reduceAdd, Nat.sub_self, if_true, if_false, Bool.false_eq_true, q_frz1, q_frz2, q_stR1, q_stR2, q_free1, q_free2, q_free3, q_isN1, q_isN2, q_fIsN, q_fCI, q_fI, q_fI0, q_add1, q_add2, q_add3, q_mul1, q_mul2, q_isBl, q_isInt, q_seq1, q_seq2, q_seq3, q_len1, q_len2, q_len3, q_int1, q_abs, q_two, q_list1, q_list2, q_tuple1, q_tuple2, q_tru1, q_tru2, q_rs1, q_rs2, q_cut1, q_cut2, q_cut3, q_gtT]
    exact q _ _ _ _
section
variable {P : Program} {w : World} {K : PySem.W.Frag} {mg : Str → Option Value} {base : Heap} {C_BadCount C_BadNumber C_BadTable C_ReelError : Addr} {f : Addr} {fd : FuncData}
abbrev spRs : PSp := mkSp (fun (a : ARs) args => args = [.fz (I2 a.R), .fz (.int a.m), .fz (.str a.k.name), .fz (.str a.what), .fz (.int a.num)]) (fun a r o => r = .fz (.bl true) ∧ o = [.un, .un, .un, .un, .un]) noEx
theorem ok__law_refuses (T : Txt K mg C_BadCount C_BadNumber C_BadTable C_ReelError) (c1 : CalD P w K mg base 1 "_law_is_int" spIsInt) (c2 : CalD P w K mg base 6 "_law_refusal" spRf)
    (Fn : Fun K "_law_refuses" "_law_refuses" s__law_refuses f fd) : FnOk P w K mg base (L2.CX P w) 7 f fd [("rows" : Str), ("columns" : Str), ("kind" : Str), ("what" : Str), ("number" : Str)] (spM K spRs) :=
  Fn.M sc__law_refuses (fun a args h => by rw [show args = _ from h]; rfl) (fun cdv A outer s H E hr => d__law_refuses T c1 c2 hr) (fun a args h => by
    rw [show args = _ from h]
    exact p__law_refuses a (fun _ _ _ _ => ⟨rfl, rfl⟩))
end
end K12
set_option Elab.async false
set_option linter.all false
set_option maxRecDepth 100000
set_option maxHeartbeats 4000000
namespace K12
open PySem PySem.Spec PyProof.Rows L2 PW
/-! ### _law_out_of_range -/
theorem t12 : (10 : Int) ^ Int.toNat 12 = 1000000000000 := by decide
theorem logOk {m : Int} (h1 : -(10 ^ 15) < m) (h2 : m < 10 ^ 15) : m.natAbs.log2 < 1920 := by
  by_cases z : m.natAbs = 0
  · rw [z]; decide
  · have : m.natAbs.log2 < 50 := (Nat.log2_lt z).mpr (by omega)
    omega
theorem divOk {m : Int} (h1 : 0 < m) (h2 : m < 10 ^ 15) : CDivW 0 m := ⟨h1, by have := logOk (m := m) (by omega) h2; omega⟩
def manyRs (R : List (List Int)) (m : Int) (h : 128 < R.length) (hl : R.length ≤ 1000) (hm : m.natAbs.log2 < 1920) : ARs :=
  ⟨R, m, hl, hm, .cnt, "rows", R.length, fun h => Kd.noConfusion h, fun CC CN CT x hw => by
    cases hw with
    | many _ => rfl
    | cols h2 => omega
    | row h2 => omega, fun g => by have := g.l; omega, by decide +kernel⟩
def colsRs (R : List (List Int)) (m : Int) (h : R.length ≤ 128) (hb : m < 0 ∨ 128 < m) (hm : m.natAbs.log2 < 1920) : ARs :=
  ⟨R, m, by omega, hm, .num, "columns", m, fun h => Kd.noConfusion h, fun CC CN CT x hw => by
    cases hw with
    | many _ => omega
    | cols h2 => rfl
    | row h2 => omega, fun g => by have := g.m0; have := g.m1; omega, by decide +kernel⟩
def rowRs (R : List (List Int)) (m : Int) (i : Nat) (row : List Int) (h : R.length ≤ 128) (h0 : 0 ≤ m) (h1 : m ≤ 128) (hi : R[i]? = some row) (hb : rowOk m (-1) row = false) (hpre : ∀ (j : Nat) (r : List Int), j < i → R[j]? = some r → rowOk m (-1) r = true) : ARs :=
  ⟨R, m, by omega, logOk (by omega) (by omega), .tab, "", (i : Int), fun _ => rfl, fun CC CN CT x hw => by
    cases hw with
    | many _ => omega
    | cols h2 => omega
    | row k1 k2 k3 j row' k4 k5 k6 =>
      have : j = i := by
        rcases Nat.lt_trichotomy j i with z | z | z
        · have := hpre j row' z k4
          rw [k5] at this; cases this
        · exact z
        · have := k6 i row z hi
          rw [hb] at this; cases this
      subst this
      rfl, fun g => Bool.noConfusion (hb.symm.trans (g.rows row (List.mem_of_getElem? hi))), by decide +kernel⟩
theorem p__law_out_of_range {ns : List Int} (hp : PoolOk ns) {Z : PEnds} (q : ∀ ns' o1 o2 o3 o4 o5 o6, PoolOk ns' → Z.rt (.fz (.bl true)) [.ow true (ns'.map .int), o1, o2, o3, o4, o5, o6]) :
    b__law_out_of_range spDr spRs Z [.ow true (ns.map .int), .un, .un, .un, .un, .un, .un] := by
  unfold b__law_out_of_range
  simp only [pSeq, Option.map_some, Option.map_none, pNext, pIf, pAsg, pRet, pRetN, pDrop, pFor, pForV, pAsgG, pAug, pSetIx, pBrk, pCnt, pFz, pFr, pIn, pVar, pArg, pMv, pC, pCons, pNil, p2, pB, pBl, pCB, ress, res, rv_non, rv_bl, rv_int, rv_str, rv_ty, rv_lst, rv_tup, rv_rls, rv_xr, rv_nc, noCe, stO, true_and, and_true, Bool.not_false, Bool.not_true, rv_oD, isNon_oD, gtN, gtsCons, gtsNil, pNot, pOr, pAnd, pVal, pTru, pNeg, pNotV, pAndV, pOrV, pIfE, pDisp, allInl, pCut, pNoPt, pPt, pSeqSrc, pEnum, enSrc, pRng1, rOf1, pRng2, rOf2, owAt, pApp, pPopAt, pPop, pClear, pLc, pLcV, pYes, noOw, wipeE, restE, rst, pRaise, resL, pCall, argsOf, argO, refIx, wbC, wb, wb1, outsOf, outP, List.getElem?_cons_zero, List.getElem?_cons_succ, List.getElem?_nil, List.set_cons_zero, List.set_cons_succ, List.length_cons, List.length_nil, List.cons_append, List.nil_append, List.append_nil, List.drop_succ_cons, List.drop_zero, List.drop_nil, List.replicate_zero, List.replicate_succ, List.getD_cons_zero, List.getD_cons_succ, Nat.reduceSub, Nat.reduceAdd, Nat.sub_self, if_true, if_false, Bool.false_eq_true, q_frz1, q_frz2, q_stR1, q_stR2, q_free1, q_free2, q_free3, q_isN1, q_isN2, q_fIsN, q_fCI, q_fI, q_fI0, q_add1, q_add2, q_add3, q_mul1, q_mul2, q_isBl, q_isInt, q_seq1, q_seq2, q_seq3, q_len1, q_len2, q_len3, q_int1, q_abs, q_two, q_list1, q_list2, q_tuple1, q_tuple2, q_tru1, q_tru2, q_rs1, q_rs2, q_cut1, q_cut2, q_cut3, q_gtT, t12]
  refine ⟨⟨by decide, by decide⟩, ?_⟩
  refine callGo_mk _ (⟨ns, _, divOk (by decide) (by decide), hp⟩ : ADr) rfl (by simp [refIx]) rfl ?_ (fun _ _ h => h.elim)
  rintro r o ⟨v1, ns1, h10, h11, hp1, rfl, rfl⟩
  simp only [pSeq, Option.map_some, Option.map_none, pNext, pIf, pAsg, pRet, pRetN, pDrop, pFor, pForV, pAsgG, pAug, pSetIx, pBrk, pCnt, pFz, pFr, pIn, pVar, pArg, pMv, pC, pCons, pNil, p2, pB, pBl, pCB, ress, res, rv_non, rv_bl, rv_int, rv_str, rv_ty, rv_lst, rv_tup, rv_rls, rv_xr, rv_nc, noCe, stO, true_and, and_true, Bool.not_false, Bool.not_true, rv_oD, isNon_oD, gtN, gtsCons, gtsNil, pNot, pOr, pAnd, pVal, pTru, pNeg, pNotV, pAndV, pOrV, pIfE, pDisp, allInl, pCut, pNoPt, pPt, pSeqSrc, pEnum, enSrc, pRng1, rOf1, pRng2, rOf2, owAt, pApp, pPopAt, pPop, pClear, pLc, pLcV, pYes, noOw, wipeE, restE, rst, pRaise, resL, pCall, argsOf, argO, refIx, wbC, wb, wb1, outsOf, outP, List.getElem?_cons_zero, List.getElem?_cons_succ, List.getElem?_nil, List.set_cons_zero, List.set_cons_succ, List.length_cons, List.length_nil, List.cons_append, List.nil_append, List.append_nil, List.drop_succ_cons, List.drop_zero, List.drop_nil, List.replicate_zero, List.replicate_succ, List.getD_cons_zero, List.getD_cons_succ, Nat.reduceSub, Nat.reduceAdd, Nat.sub_self, if_true, if_false, Bool.false_eq_true, q_frz1, q_frz2, q_stR1, q_stR2, q_free1, q_free2, q_free3, q_isN1, q_isN2, q_fIsN, q_fCI, q_fI, q_fI0, q_add1, q_add2, q_add3, q_mul1, q_mul2, q_isBl, q_isInt, q_seq1, q_seq2, q_seq3, q_len1, q_len2, q_len3, q_int1, q_abs, q_two, q_list1, q_list2, q_tuple1, q_tuple2, q_tru1, q_tru2, q_rs1, q_rs2, q_cut1, q_cut2, q_cut3, q_gtT, t12]
  refine ⟨⟨by decide, by decide⟩, ?_⟩
  refine callGo_mk _ (⟨ns1, _, divOk (by decide) (by decide), hp1⟩ : ADr) rfl (by simp [refIx]) rfl ?_ (fun _ _ h => h.elim)
  rintro r o ⟨v2, ns2, h20, h21, hp2, rfl, rfl⟩
  simp only [pSeq, Option.map_some, Option.map_none, pNext, pIf, pAsg, pRet, pRetN, pDrop, pFor, pForV, pAsgG, pAug, pSetIx, pBrk, pCnt, pFz, pFr, pIn, pVar, pArg, pMv, pC, pCons, pNil, p2, pB, pBl, pCB, ress, res, rv_non, rv_bl, rv_int, rv_str, rv_ty, rv_lst, rv_tup, rv_rls, rv_xr, rv_nc, noCe, stO, true_and, and_true, Bool.not_false, Bool.not_true, rv_oD, isNon_oD, gtN, gtsCons, gtsNil, pNot, pOr, pAnd, pVal, pTru, pNeg, pNotV, pAndV, pOrV, pIfE, pDisp, allInl, pCut, pNoPt, pPt, pSeqSrc, pEnum, enSrc, pRng1, rOf1, pRng2, rOf2, owAt, pApp, pPopAt, pPop, pClear, pLc, pLcV, pYes, noOw, wipeE, restE, rst, pRaise, resL, pCall, argsOf, argO, refIx, wbC, wb, wb1, outsOf, outP, List.getElem?_cons_zero, List.getElem?_cons_succ, List.getElem?_nil, List.set_cons_zero, List.set_cons_succ, List.length_cons, List.length_nil, List.cons_append, List.nil_append, List.append_nil, List.drop_succ_cons, List.drop_zero, List.drop_nil, List.replicate_zero, List.replicate_succ, List.getD_cons_zero, List.getD_cons_succ, Nat.reduceSub, Nat.reduceAdd, Nat.sub_self, if_true, if_false, Bool.false_eq_true, q_frz1, q_frz2, q_stR1, q_stR2, q_free1, q_free2, q_free3, q_isN1, q_isN2, q_fIsN, q_fCI, q_fI, q_fI0, q_add1, q_add2, q_add3, q_mul1, q_mul2, q_isBl, q_isInt, q_seq1, q_seq2, q_seq3, q_len1, q_len2, q_len3, q_int1, q_abs, q_two, q_list1, q_list2, q_tuple1, q_tuple2, q_tru1, q_tru2, q_rs1, q_rs2, q_cut1, q_cut2, q_cut3, q_gtT]
  refine callGo_mk _ (⟨ns2, _, divOk (by decide) (by decide), hp2⟩ : ADr) rfl (by simp [refIx]) rfl ?_ (fun _ _ h => h.elim)
  rintro r o ⟨v3, ns3, h30, h31, hp3, rfl, rfl⟩
  simp only [pSeq, Option.map_some, Option.map_none, pNext, pIf, pAsg, pRet, pRetN, pDrop, pFor, pForV, pAsgG, pAug, pSetIx, pBrk, pCnt, pFz, pFr, pIn, pVar, pArg, pMv, pC, pCons, pNil, p2, pB, pBl, pCB, ress, res, rv_non, rv_bl, rv_int, rv_str, rv_ty, rv_lst, rv_tup, rv_rls, rv_xr, rv_nc, noCe, stO, true_and, and_true, Bool.not_false, Bool.not_true, rv_oD, isNon_oD, gtN, gtsCons, gtsNil, pNot, pOr, pAnd, pVal, pTru, pNeg, pNotV, pAndV, pOrV, pIfE, pDisp, allInl, pCut, pNoPt, pPt, pSeqSrc, pEnum, enSrc, pRng1, rOf1, pRng2, rOf2, owAt, pApp, pPopAt, pPop, pClear, pLc, pLcV, pYes, noOw, wipeE, restE, rst, pRaise, resL, pCall, argsOf, argO, refIx, wbC, wb, wb1, outsOf, outP, List.getElem?_cons_zero, List.getElem?_cons_succ, List.getElem?_nil, List.set_cons_zero, List.set_cons_succ, List.length_cons, List.length_nil, List.cons_append, List.nil_append, List.append_nil, List.drop_succ_cons, List.drop_zero, List.drop_nil, List.replicate_zero, List.replicate_succ, List.getD_cons_zero, List.getD_cons_succ, Nat.reduceSub, Nat.reduceAdd, Nat.sub_self, if_true, if_false, Bool.false_eq_true, q_frz1, q_frz2, q_stR1, q_stR2, q_free1, q_free2, q_free3, q_isN1, q_isN2, q_fIsN, q_fCI, q_fI, q_fI0, q_add1, q_add2, q_add3, q_mul1, q_mul2, q_isBl, q_isInt, q_seq1, q_seq2, q_seq3, q_len1, q_len2, q_len3, q_int1, q_abs, q_two, q_list1, q_list2, q_tuple1, q_tuple2, q_tru1, q_tru2, q_rs1, q_rs2, q_cut1, q_cut2, q_cut3, q_gtT]
  have hrng : ∀ k : Nat, rngD 0 k = (List.range k).map fun (i : Nat) => D.int (i : Int) := fun k => by simp [rngD]
  have b11 : v1 < 1000000000000 - 129 := h11
  have b21 : v2 < 1000000000000 := h21
  have b31 : v3 < 9 := h31
  refine ⟨⟨by omega, by omega⟩, by intro j hj; simp at hj; subst hj; trivial, ?_⟩
  rw [hrng]
  refine lcGo_filter (List.range (129 + v3).toNat) (fun (c : Nat) => .int (c : Int)) (fun _ => true) (fun _ => I1 [7]) (by simp [sizeLine_eq]; omega) trivial ?_ ?_ rfl
  · intro x hx acc Rk hacc k1 k2
    simp only [pSeq, Option.map_some, Option.map_none, pNext, pIf, pAsg, pRet, pRetN, pDrop, pFor, pForV, pAsgG, pAug, pSetIx, pBrk, pCnt, pFz, pFr, pIn, pVar, pArg, pMv, pC, pCons, pNil, p2, pB, pBl, pCB, ress, res, rv_non, rv_bl, rv_int, rv_str, rv_ty, rv_lst, rv_tup, rv_rls, rv_xr, rv_nc, noCe, stO, true_and, and_true, Bool.not_false, Bool.not_true, rv_oD, isNon_oD, gtN, gtsCons, gtsNil, pNot, pOr, pAnd, pVal, pTru, pNeg, pNotV, pAndV, pOrV, pIfE, pDisp, allInl, pCut, pNoPt, pPt, pSeqSrc, pEnum, enSrc, pRng1, rOf1, pRng2, rOf2, owAt, pApp, pPopAt, pPop, pClear, pLc, pLcV, pYes, noOw, wipeE, restE, rst, pRaise, resL, pCall, argsOf, argO, refIx, wbC, wb, wb1, outsOf, outP, List.getElem?_cons_zero, List.getElem?_cons_succ, List.getElem?_nil, List.set_cons_zero, List.set_cons_succ, List.length_cons, List.length_nil, List.cons_append, List.nil_append, List.append_nil, List.drop_succ_cons, List.drop_zero, List.drop_nil, List.replicate_zero, List.replicate_succ, List.getD_cons_zero, List.getD_cons_succ, Nat.reduceSub, Nat.reduceAdd, Nat.sub_self, if_true, if_false, Bool.false_eq_true, q_frz1, q_frz2, q_stR1, q_stR2, q_free1, q_free2, q_free3, q_isN1, q_isN2, q_fIsN, q_fCI, q_fI, q_fI0, q_add1, q_add2, q_add3, q_mul1, q_mul2, q_isBl, q_isInt, q_seq1, q_seq2, q_seq3, q_len1, q_len2, q_len3, q_int1, q_abs, q_two, q_list1, q_list2, q_tuple1, q_tuple2, q_tru1, q_tru2, q_rs1, q_rs2, q_cut1, q_cut2, q_cut3, q_gtT]
    exact ⟨by simp [sizeLine_eq], hacc, by intro j hj; simp at hj; subst hj; trivial, k1 rfl⟩
  have hcr : ((List.range (129 + v3).toNat).filter (fun _ => true)).map (fun _ => I1 [7]) = (List.replicate (129 + v3).toNat [(7 : Int)]).map I1 := by
    rw [List.filter_eq_self.mpr (by simp)]
    simp [List.map_const']
  rw [hcr]
  have hlen : (List.replicate (129 + v3).toNat [(7 : Int)]).length = (129 + v3).toNat := by simp
  generalize List.replicate (129 + v3).toNat [(7 : Int)] = crowd at hlen
  have c1 : 128 < crowd.length := by omega
  have c2 : crowd.length ≤ 1000 := by omega
  simp only [pSeq, Option.map_some, Option.map_none, pNext, pIf, pAsg, pRet, pRetN, pDrop, pFor, pForV, pAsgG, pAug, pSetIx, pBrk, pCnt, pFz, pFr, pIn, pVar, pArg, pMv, pC, pCons, pNil, p2, pB, pBl, pCB, ress, res, rv_non, rv_bl, rv_int, rv_str, rv_ty, rv_lst, rv_tup, rv_rls, rv_xr, rv_nc, noCe, stO, true_and, and_true, Bool.not_false, Bool.not_true, rv_oD, isNon_oD, gtN, gtsCons, gtsNil, pNot, pOr, pAnd, pVal, pTru, pNeg, pNotV, pAndV, pOrV, pIfE, pDisp, allInl, pCut, pNoPt, pPt, pSeqSrc, pEnum, enSrc, pRng1, rOf1, pRng2, rOf2, owAt, pApp, pPopAt, pPop, pClear, pLc, pLcV, pYes, noOw, wipeE, restE, rst, pRaise, resL, pCall, argsOf, argO, refIx, wbC, wb, wb1, outsOf, outP, List.getElem?_cons_zero, List.getElem?_cons_succ, List.getElem?_nil, List.set_cons_zero, List.set_cons_succ, List.length_cons, List.length_nil, List.cons_append, List.nil_append, List.append_nil, List.drop_succ_cons, List.drop_zero, List.drop_nil, List.replicate_zero, List.replicate_succ, List.getD_cons_zero, List.getD_cons_succ, Nat.reduceSub, Nat.reduceAdd, Nat.sub_self, if_true, if_false, Bool.false_eq_true, q_frz1, q_frz2, q_stR1, q_stR2, q_free1, q_free2, q_free3, q_isN1, q_isN2, q_fIsN, q_fCI, q_fI, q_fI0, q_add1, q_add2, q_add3, q_mul1, q_mul2, q_isBl, q_isInt, q_seq1, q_seq2, q_seq3, q_len1, q_len2, q_len3, q_int1, q_abs, q_two, q_list1, q_list2, q_tuple1, q_tuple2, q_tru1, q_tru2, q_rs1, q_rs2, q_cut1, q_cut2, q_cut3, q_gtT]
  refine ⟨by simp [sizeLine_eq], ?_⟩
  refine forGo_inv (fun i e => ∃ o3 o5, (i = 0 → o3 = .ow false (crowd.map I1)) ∧ (0 < i → o3 = .fz (I2 crowd)) ∧ e = [.ow true (ns3.map .int), .fz (.int (129 + v1)), .fz (.int (-1 - v2)), o3, .un, o5, .un] ∧ freeO o5) (fun _ _ _ _ => trivial) ?_ ?_ ⟨_, .un, fun _ => rfl, fun h => absurd h (Nat.lt_irrefl _), rfl, trivial⟩
  · rintro i dd e Rk hdd ⟨o3, o5, k0, k1, rfl, f5⟩ hRk
    obtain ⟨m, rfl, hm⟩ : ∃ m : Int, dd = .int m ∧ m.natAbs.log2 < 1920 := by
      have := List.mem_of_getElem? hdd
      simp at this
      rcases this with rfl | rfl | rfl
      · exact ⟨_, rfl, by decide⟩
      · exact ⟨_, rfl, logOk (by omega) (by omega)⟩
      · exact ⟨_, rfl, logOk (by omega) (by omega)⟩
    by_cases z : i = 0
    · rw [k0 z]
      simp only [pSeq, Option.map_some, Option.map_none, pNext, pIf, pAsg, pRet, pRetN, pDrop, pFor, pForV, pAsgG, pAug, pSetIx, pBrk, pCnt, pFz, pFr, pIn, pVar, pArg, pMv, pC, pCons, pNil, p2, pB, pBl, pCB, ress, res, rv_non, rv_bl, rv_int, rv_str, rv_ty, rv_lst, rv_tup, rv_rls, rv_xr, rv_nc, noCe, stO, true_and, and_true, Bool.not_false, Bool.not_true, rv_oD, isNon_oD, gtN, gtsCons, gtsNil, pNot, pOr, pAnd, pVal, pTru, pNeg, pNotV, pAndV, pOrV, pIfE, pDisp, allInl, pCut, pNoPt, pPt, pSeqSrc, pEnum, enSrc, pRng1, rOf1, pRng2, rOf2, owAt, pApp, pPopAt, pPop, pClear, pLc, pLcV, pYes, noOw, wipeE, restE, rst, pRaise, resL, pCall, argsOf, argO, refIx, wbC, wb, wb1, outsOf, outP, List.getElem?_cons_zero, List.getElem?_cons_succ, List.getElem?_nil, List.set_cons_zero, List.set_cons_succ, List.length_cons, List.length_nil, List.cons_append, List.nil_append, List.append_nil, List.drop_succ_cons, List.drop_zero, List.drop_nil, List.replicate_zero, List.replicate_succ, List.getD_cons_zero, List.getD_cons_succ, Nat.reduceSub, Nat.reduceAdd, Nat.sub_self, if_true, if_false, Bool.false_eq_true, q_frz1, q_frz2, q_stR1, q_stR2, q_free1, q_free2, q_free3, q_isN1, q_isN2, q_fIsN, q_fCI, q_fI, q_fI0, q_add1, q_add2, q_add3, q_mul1, q_mul2, q_isBl, q_isInt, q_seq1, q_seq2, q_seq3, q_len1, q_len2, q_len3, q_int1, q_abs, q_two, q_list1, q_list2, q_tuple1, q_tuple2, q_tru1, q_tru2, q_rs1, q_rs2, q_cut1, q_cut2, q_cut3, q_gtT, f5, List.length_map]
      refine callGo_mk _ (manyRs crowd m c1 c2 hm) rfl (by simp [refIx]) rfl ?_ (fun _ _ h => h.elim)
      rintro r o ⟨rfl, rfl⟩
      simp only [pSeq, Option.map_some, Option.map_none, pNext, pIf, pAsg, pRet, pRetN, pDrop, pFor, pForV, pAsgG, pAug, pSetIx, pBrk, pCnt, pFz, pFr, pIn, pVar, pArg, pMv, pC, pCons, pNil, p2, pB, pBl, pCB, ress, res, rv_non, rv_bl, rv_int, rv_str, rv_ty, rv_lst, rv_tup, rv_rls, rv_xr, rv_nc, noCe, stO, true_and, and_true, Bool.not_false, Bool.not_true, rv_oD, isNon_oD, gtN, gtsCons, gtsNil, pNot, pOr, pAnd, pVal, pTru, pNeg, pNotV, pAndV, pOrV, pIfE, pDisp, allInl, pCut, pNoPt, pPt, pSeqSrc, pEnum, enSrc, pRng1, rOf1, pRng2, rOf2, owAt, pApp, pPopAt, pPop, pClear, pLc, pLcV, pYes, noOw, wipeE, restE, rst, pRaise, resL, pCall, argsOf, argO, refIx, wbC, wb, wb1, outsOf, outP, List.getElem?_cons_zero, List.getElem?_cons_succ, List.getElem?_nil, List.set_cons_zero, List.set_cons_succ, List.length_cons, List.length_nil, List.cons_append, List.nil_append, List.append_nil, List.drop_succ_cons, List.drop_zero, List.drop_nil, List.replicate_zero, List.replicate_succ, List.getD_cons_zero, List.getD_cons_succ, Nat.reduceSub, Nat.reduceAdd, Nat.sub_self, if_true, if_false, Bool.false_eq_true, q_frz1, q_frz2, q_stR1, q_stR2, q_free1, q_free2, q_free3, q_isN1, q_isN2, q_fIsN, q_fCI, q_fI, q_fI0, q_add1, q_add2, q_add3, q_mul1, q_mul2, q_isBl, q_isInt, q_seq1, q_seq2, q_seq3, q_len1, q_len2, q_len3, q_int1, q_abs, q_two, q_list1, q_list2, q_tuple1, q_tuple2, q_tru1, q_tru2, q_rs1, q_rs2, q_cut1, q_cut2, q_cut3, q_gtT]
      exact hRk _ ⟨_, _, fun h => absurd h (Nat.succ_ne_zero _), fun _ => rfl, rfl, trivial⟩
    · rw [k1 (Nat.pos_of_ne_zero z)]
      simp only [pSeq, Option.map_some, Option.map_none, pNext, pIf, pAsg, pRet, pRetN, pDrop, pFor, pForV, pAsgG, pAug, pSetIx, pBrk, pCnt, pFz, pFr, pIn, pVar, pArg, pMv, pC, pCons, pNil, p2, pB, pBl, pCB, ress, res, rv_non, rv_bl, rv_int, rv_str, rv_ty, rv_lst, rv_tup, rv_rls, rv_xr, rv_nc, noCe, stO, true_and, and_true, Bool.not_false, Bool.not_true, rv_oD, isNon_oD, gtN, gtsCons, gtsNil, pNot, pOr, pAnd, pVal, pTru, pNeg, pNotV, pAndV, pOrV, pIfE, pDisp, allInl, pCut, pNoPt, pPt, pSeqSrc, pEnum, enSrc, pRng1, rOf1, pRng2, rOf2, owAt, pApp, pPopAt, pPop, pClear, pLc, pLcV, pYes, noOw, wipeE, restE, rst, pRaise, resL, pCall, argsOf, argO, refIx, wbC, wb, wb1, outsOf, outP, List.getElem?_cons_zero, List.getElem?_cons_succ, List.getElem?_nil, List.set_cons_zero, List.set_cons_succ, List.length_cons, List.length_nil, List.cons_append, List.nil_append, List.append_nil, List.drop_succ_cons, List.drop_zero, List.drop_nil, List.replicate_zero, List.replicate_succ, List.getD_cons_zero, List.getD_cons_succ, Nat.reduceSub, Nat.reduceAdd, Nat.sub_self, if_true, if_false, Bool.false_eq_true, q_frz1, q_frz2, q_stR1, q_stR2, q_free1, q_free2, q_free3, q_isN1, q_isN2, q_fIsN, q_fCI, q_fI, q_fI0, q_add1, q_add2, q_add3, q_mul1, q_mul2, q_isBl, q_isInt, q_seq1, q_seq2, q_seq3, q_len1, q_len2, q_len3, q_int1, q_abs, q_two, q_list1, q_list2, q_tuple1, q_tuple2, q_tru1, q_tru2, q_rs1, q_rs2, q_cut1, q_cut2, q_cut3, q_gtT, f5, List.length_map]
      refine callGo_mk _ (manyRs crowd m c1 c2 hm) rfl (by simp [refIx]) rfl ?_ (fun _ _ h => h.elim)
      rintro r o ⟨rfl, rfl⟩
      simp only [pSeq, Option.map_some, Option.map_none, pNext, pIf, pAsg, pRet, pRetN, pDrop, pFor, pForV, pAsgG, pAug, pSetIx, pBrk, pCnt, pFz, pFr, pIn, pVar, pArg, pMv, pC, pCons, pNil, p2, pB, pBl, pCB, ress, res, rv_non, rv_bl, rv_int, rv_str, rv_ty, rv_lst, rv_tup, rv_rls, rv_xr, rv_nc, noCe, stO, true_and, and_true, Bool.not_false, Bool.not_true, rv_oD, isNon_oD, gtN, gtsCons, gtsNil, pNot, pOr, pAnd, pVal, pTru, pNeg, pNotV, pAndV, pOrV, pIfE, pDisp, allInl, pCut, pNoPt, pPt, pSeqSrc, pEnum, enSrc, pRng1, rOf1, pRng2, rOf2, owAt, pApp, pPopAt, pPop, pClear, pLc, pLcV, pYes, noOw, wipeE, restE, rst, pRaise, resL, pCall, argsOf, argO, refIx, wbC, wb, wb1, outsOf, outP, List.getElem?_cons_zero, List.getElem?_cons_succ, List.getElem?_nil, List.set_cons_zero, List.set_cons_succ, List.length_cons, List.length_nil, List.cons_append, List.nil_append, List.append_nil, List.drop_succ_cons, List.drop_zero, List.drop_nil, List.replicate_zero, List.replicate_succ, List.getD_cons_zero, List.getD_cons_succ, Nat.reduceSub, Nat.reduceAdd, Nat.sub_self, if_true, if_false, Bool.false_eq_true, q_frz1, q_frz2, q_stR1, q_stR2, q_free1, q_free2, q_free3, q_isN1, q_isN2, q_fIsN, q_fCI, q_fI, q_fI0, q_add1, q_add2, q_add3, q_mul1, q_mul2, q_isBl, q_isInt, q_seq1, q_seq2, q_seq3, q_len1, q_len2, q_len3, q_int1, q_abs, q_two, q_list1, q_list2, q_tuple1, q_tuple2, q_tru1, q_tru2, q_rs1, q_rs2, q_cut1, q_cut2, q_cut3, q_gtT]
      exact hRk _ ⟨_, _, fun h => absurd h (Nat.succ_ne_zero _), fun _ => rfl, rfl, trivial⟩
  rintro e ⟨o3, o5, k0, k1, rfl, f5⟩
  simp only [pSeq, Option.map_some, Option.map_none, pNext, pIf, pAsg, pRet, pRetN, pDrop, pFor, pForV, pAsgG, pAug, pSetIx, pBrk, pCnt, pFz, pFr, pIn, pVar, pArg, pMv, pC, pCons, pNil, p2, pB, pBl, pCB, ress, res, rv_non, rv_bl, rv_int, rv_str, rv_ty, rv_lst, rv_tup, rv_rls, rv_xr, rv_nc, noCe, stO, true_and, and_true, Bool.not_false, Bool.not_true, rv_oD, isNon_oD, gtN, gtsCons, gtsNil, pNot, pOr, pAnd, pVal, pTru, pNeg, pNotV, pAndV, pOrV, pIfE, pDisp, allInl, pCut, pNoPt, pPt, pSeqSrc, pEnum, enSrc, pRng1, rOf1, pRng2, rOf2, owAt, pApp, pPopAt, pPop, pClear, pLc, pLcV, pYes, noOw, wipeE, restE, rst, pRaise, resL, pCall, argsOf, argO, refIx, wbC, wb, wb1, outsOf, outP, List.getElem?_cons_zero, List.getElem?_cons_succ, List.getElem?_nil, List.set_cons_zero, List.set_cons_succ, List.length_cons, List.length_nil, List.cons_append, List.nil_append, List.append_nil, List.drop_succ_cons, List.drop_zero, List.drop_nil, List.replicate_zero, List.replicate_succ, List.getD_cons_zero, List.getD_cons_succ, Nat.reduceSub, Nat.reduceAdd, Nat.sub_self, if_true, if_false, Bool.false_eq_true, q_frz1, q_frz2, q_stR1, q_stR2, q_free1, q_free2, q_free3, q_isN1, q_isN2, q_fIsN, q_fCI, q_fI, q_fI0, q_add1, q_add2, q_add3, q_mul1, q_mul2, q_isBl, q_isInt, q_seq1, q_seq2, q_seq3, q_len1, q_len2, q_len3, q_int1, q_abs, q_two, q_list1, q_list2, q_tuple1, q_tuple2, q_tru1, q_tru2, q_rs1, q_rs2, q_cut1, q_cut2, q_cut3, q_gtT]
  refine ⟨by simp [sizeLine_eq], ?_⟩
  refine forGo_inv (fun i e => ∃ o5 o6, e = [.ow true (ns3.map .int), .fz (.int (129 + v1)), .fz (.int (-1 - v2)), o3, .un, o5, o6] ∧ freeO o5 ∧ freeO o6) (fun _ _ _ _ => trivial) ?_ ?_ ⟨_, .un, rfl, f5, trivial⟩
  · rintro i dd e Rk hdd ⟨o5, o6, rfl, f5, f6⟩ hRk
    obtain ⟨m, rfl, hm, hb⟩ : ∃ m : Int, dd = .int m ∧ m.natAbs.log2 < 1920 ∧ (m < 0 ∨ 128 < m) := by
      have := List.mem_of_getElem? hdd
      simp at this
      rcases this with rfl | rfl
      · exact ⟨_, rfl, logOk (by omega) (by omega), by omega⟩
      · exact ⟨_, rfl, logOk (by omega) (by omega), by omega⟩
    simp only [pSeq, Option.map_some, Option.map_none, pNext, pIf, pAsg, pRet, pRetN, pDrop, pFor, pForV, pAsgG, pAug, pSetIx, pBrk, pCnt, pFz, pFr, pIn, pVar, pArg, pMv, pC, pCons, pNil, p2, pB, pBl, pCB, ress, res, rv_non, rv_bl, rv_int, rv_str, rv_ty, rv_lst, rv_tup, rv_rls, rv_xr, rv_nc, noCe, stO, true_and, and_true, Bool.not_false, Bool.not_true, rv_oD, isNon_oD, gtN, gtsCons, gtsNil, pNot, pOr, pAnd, pVal, pTru, pNeg, pNotV, pAndV, pOrV, pIfE, pDisp, allInl, pCut, pNoPt, pPt, pSeqSrc, pEnum, enSrc, pRng1, rOf1, pRng2, rOf2, owAt, pApp, pPopAt, pPop, pClear, pLc, pLcV, pYes, noOw, wipeE, restE, rst, pRaise, resL, pCall, argsOf, argO, refIx, wbC, wb, wb1, outsOf, outP, List.getElem?_cons_zero, List.getElem?_cons_succ, List.getElem?_nil, List.set_cons_zero, List.set_cons_succ, List.length_cons, List.length_nil, List.cons_append, List.nil_append, List.append_nil, List.drop_succ_cons, List.drop_zero, List.drop_nil, List.replicate_zero, List.replicate_succ, List.getD_cons_zero, List.getD_cons_succ, Nat.reduceSub, Nat.reduceAdd, Nat.sub_self, if_true, if_false, Bool.false_eq_true, q_frz1, q_frz2, q_stR1, q_stR2, q_free1, q_free2, q_free3, q_isN1, q_isN2, q_fIsN, q_fCI, q_fI, q_fI0, q_add1, q_add2, q_add3, q_mul1, q_mul2, q_isBl, q_isInt, q_seq1, q_seq2, q_seq3, q_len1, q_len2, q_len3, q_int1, q_abs, q_two, q_list1, q_list2, q_tuple1, q_tuple2, q_tru1, q_tru2, q_rs1, q_rs2, q_cut1, q_cut2, q_cut3, q_gtT, f5, f6]
    refine ⟨by simp [sizeLine_eq], by simp [sizeLine_eq], by simp [sizeLine_eq], by simp [sizeLine_eq], by simp [sizeLine_eq], by simp [sizeLine_eq], by simp [sizeLine_eq], ?_⟩
    refine forGo_inv (fun i e => ∃ o6, e = [.ow true (ns3.map .int), .fz (.int (129 + v1)), .fz (.int (-1 - v2)), o3, .un, .fz (.int m), o6] ∧ freeO o6) (fun _ _ _ _ => trivial) ?_ ?_ ⟨o6, rfl, f6⟩
    · rintro i dd e Rk' hdd ⟨o6, rfl, f6⟩ hRk'
      obtain ⟨R, rfl, hR⟩ : ∃ R : List (List Int), dd = I2 R ∧ R.length ≤ 128 := by
        have := List.mem_of_getElem? hdd
        simp at this
        rcases this with rfl | rfl | rfl
        · exact ⟨[], rfl, by decide⟩
        · exact ⟨[[7]], rfl, by decide⟩
        · exact ⟨[[], [2, 1]], rfl, by decide⟩
      simp only [pSeq, Option.map_some, Option.map_none, pNext, pIf, pAsg, pRet, pRetN, pDrop, pFor, pForV, pAsgG, pAug, pSetIx, pBrk, pCnt, pFz, pFr, pIn, pVar, pArg, pMv, pC, pCons, pNil, p2, pB, pBl, pCB, ress, res, rv_non, rv_bl, rv_int, rv_str, rv_ty, rv_lst, rv_tup, rv_rls, rv_xr, rv_nc, noCe, stO, true_and, and_true, Bool.not_false, Bool.not_true, rv_oD, isNon_oD, gtN, gtsCons, gtsNil, pNot, pOr, pAnd, pVal, pTru, pNeg, pNotV, pAndV, pOrV, pIfE, pDisp, allInl, pCut, pNoPt, pPt, pSeqSrc, pEnum, enSrc, pRng1, rOf1, pRng2, rOf2, owAt, pApp, pPopAt, pPop, pClear, pLc, pLcV, pYes, noOw, wipeE, restE, rst, pRaise, resL, pCall, argsOf, argO, refIx, wbC, wb, wb1, outsOf, outP, List.getElem?_cons_zero, List.getElem?_cons_succ, List.getElem?_nil, List.set_cons_zero, List.set_cons_succ, List.length_cons, List.length_nil, List.cons_append, List.nil_append, List.append_nil, List.drop_succ_cons, List.drop_zero, List.drop_nil, List.replicate_zero, List.replicate_succ, List.getD_cons_zero, List.getD_cons_succ, Nat.reduceSub, Nat.reduceAdd, Nat.sub_self, if_true, if_false, Bool.false_eq_true, q_frz1, q_frz2, q_stR1, q_stR2, q_free1, q_free2, q_free3, q_isN1, q_isN2, q_fIsN, q_fCI, q_fI, q_fI0, q_add1, q_add2, q_add3, q_mul1, q_mul2, q_isBl, q_isInt, q_seq1, q_seq2, q_seq3, q_len1, q_len2, q_len3, q_int1, q_abs, q_two, q_list1, q_list2, q_tuple1, q_tuple2, q_tru1, q_tru2, q_rs1, q_rs2, q_cut1, q_cut2, q_cut3, q_gtT, f6]
      refine callGo_mk _ (colsRs R m hR hb hm) rfl (by simp [refIx]) rfl ?_ (fun _ _ h => h.elim)
      rintro r o ⟨rfl, rfl⟩
      simp only [pSeq, Option.map_some, Option.map_none, pNext, pIf, pAsg, pRet, pRetN, pDrop, pFor, pForV, pAsgG, pAug, pSetIx, pBrk, pCnt, pFz, pFr, pIn, pVar, pArg, pMv, pC, pCons, pNil, p2, pB, pBl, pCB, ress, res, rv_non, rv_bl, rv_int, rv_str, rv_ty, rv_lst, rv_tup, rv_rls, rv_xr, rv_nc, noCe, stO, true_and, and_true, Bool.not_false, Bool.not_true, rv_oD, isNon_oD, gtN, gtsCons, gtsNil, pNot, pOr, pAnd, pVal, pTru, pNeg, pNotV, pAndV, pOrV, pIfE, pDisp, allInl, pCut, pNoPt, pPt, pSeqSrc, pEnum, enSrc, pRng1, rOf1, pRng2, rOf2, owAt, pApp, pPopAt, pPop, pClear, pLc, pLcV, pYes, noOw, wipeE, restE, rst, pRaise, resL, pCall, argsOf, argO, refIx, wbC, wb, wb1, outsOf, outP, List.getElem?_cons_zero, List.getElem?_cons_succ, List.getElem?_nil, List.set_cons_zero, List.set_cons_succ, List.length_cons, List.length_nil, List.cons_append, List.nil_append, List.append_nil, List.drop_succ_cons, List.drop_zero, List.drop_nil, List.replicate_zero, List.replicate_succ, List.getD_cons_zero, List.getD_cons_succ, Nat.reduceSub, Nat.reduceAdd, Nat.sub_self, if_true, if_false, Bool.false_eq_true, q_frz1, q_frz2, q_stR1, q_stR2, q_free1, q_free2, q_free3, q_isN1, q_isN2, q_fIsN, q_fCI, q_fI, q_fI0, q_add1, q_add2, q_add3, q_mul1, q_mul2, q_isBl, q_isInt, q_seq1, q_seq2, q_seq3, q_len1, q_len2, q_len3, q_int1, q_abs, q_two, q_list1, q_list2, q_tuple1, q_tuple2, q_tru1, q_tru2, q_rs1, q_rs2, q_cut1, q_cut2, q_cut3, q_gtT]
      exact hRk' _ ⟨_, rfl, trivial⟩
    · rintro e ⟨o6, rfl, f6⟩
      exact hRk _ ⟨_, _, rfl, trivial, f6⟩
  rintro e ⟨o5, o6, rfl, f5, f6⟩
  simp only [pSeq, Option.map_some, Option.map_none, pNext, pIf, pAsg, pRet, pRetN, pDrop, pFor, pForV, pAsgG, pAug, pSetIx, pBrk, pCnt, pFz, pFr, pIn, pVar, pArg, pMv, pC, pCons, pNil, p2, pB, pBl, pCB, ress, res, rv_non, rv_bl, rv_int, rv_str, rv_ty, rv_lst, rv_tup, rv_rls, rv_xr, rv_nc, noCe, stO, true_and, and_true, Bool.not_false, Bool.not_true, rv_oD, isNon_oD, gtN, gtsCons, gtsNil, pNot, pOr, pAnd, pVal, pTru, pNeg, pNotV, pAndV, pOrV, pIfE, pDisp, allInl, pCut, pNoPt, pPt, pSeqSrc, pEnum, enSrc, pRng1, rOf1, pRng2, rOf2, owAt, pApp, pPopAt, pPop, pClear, pLc, pLcV, pYes, noOw, wipeE, restE, rst, pRaise, resL, pCall, argsOf, argO, refIx, wbC, wb, wb1, outsOf, outP, List.getElem?_cons_zero, List.getElem?_cons_succ, List.getElem?_nil, List.set_cons_zero, List.set_cons_succ, List.length_cons, List.length_nil, List.cons_append, List.nil_append, List.append_nil, List.drop_succ_cons, List.drop_zero, List.drop_nil, List.replicate_zero, List.replicate_succ, List.getD_cons_zero, List.getD_cons_succ, Nat.reduceSub, Nat.reduceAdd, Nat.sub_self, if_true, if_false, Bool.false_eq_true, q_frz1, q_frz2, q_stR1, q_stR2, q_free1, q_free2, q_free3, q_isN1, q_isN2, q_fIsN, q_fCI, q_fI, q_fI0, q_add1, q_add2, q_add3, q_mul1, q_mul2, q_isBl, q_isInt, q_seq1, q_seq2, q_seq3, q_len1, q_len2, q_len3, q_int1, q_abs, q_two, q_list1, q_list2, q_tuple1, q_tuple2, q_tru1, q_tru2, q_rs1, q_rs2, q_cut1, q_cut2, q_cut3, q_gtT]
  exact q _ _ _ _ _ _ _ hp3
section
variable {P : Program} {w : World} {K : PySem.W.Frag} {mg : Str → Option Value} {base : Heap} {C_BadCount C_BadNumber C_BadTable C_ReelError : Addr} {f : Addr} {fd : FuncData}
abbrev PoolT := { ns : List Int // PoolOk ns }
def postBp (_ : PoolT) (r : PW.O) (o : List PW.O) : Prop := ∃ ns', PoolOk ns' ∧ r = .fz (.bl true) ∧ o = [.ow true (ns'.map .int)]
abbrev spBp : PSp := mkSp (fun (a : PoolT) args => args = [.ow true (a.1.map .int)]) postBp noEx
theorem ok__law_out_of_range (T : Txt K mg C_BadCount C_BadNumber C_BadTable C_ReelError) (c1 : CalD P w K mg base 1 "_law_draw" spDr) (c2 : CalD P w K mg base 7 "_law_refuses" spRs)
    (Fn : Fun K "_law_out_of_range" "_law_out_of_range" s__law_out_of_range f fd) : FnOk P w K mg base (L2.CX P w) 8 f fd [("pool" : Str)] (spM K spBp) :=
  Fn.M sc__law_out_of_range (fun a args h => by rw [show args = _ from h]; rfl) (fun cdv A outer s H E hr => d__law_out_of_range T c1 c2 hr) (fun a args h => by
    rw [show args = _ from h]
    exact p__law_out_of_range a.2 (fun ns' _ _ _ _ _ _ h => ⟨ns', h, rfl, rfl⟩))
end
end K12
set_option Elab.async false
set_option linter.all false
set_option maxRecDepth 100000
set_option maxHeartbeats 4000000
namespace K12
open PySem PySem.Spec PyProof.Rows L2 PW
/-! ### _law_wrong_rows -/
abbrev goodN : List (List Nat) := [[1, 3], [0, 2, 4], [], [0, 1, 2, 3, 4]]
abbrev goodI : List (List Int) := [[1, 3], [0, 2, 4], [], [0, 1, 2, 3, 4]]
abbrev wrongI : List (List Int) := [[1, 1, 3], [0, 3, 2], [2, 4, 5], [-1, 0, 4], [4, 0], [0, 2, 1000000000000], [0, 3, 4, 4]]
theorem good_ok : Good goodI 5 := ⟨by decide, by decide, by decide, by decide⟩
theorem good_pre : ∀ (j : Nat) (r : List Int), goodI[j]? = some r → rowOk 5 (-1) r = true := fun j r h => good_ok.rows r (List.mem_of_getElem? h)
theorem wrong_bad : ∀ r ∈ wrongI, rowOk 5 (-1) r = false := by decide
def wrRs (G : List (List Int)) (hG : G = goodI ∨ G = goodI.set 3 [2, 2]) (p : Nat) (hp : p < 4) (W : List Int) (hW : rowOk 5 (-1) W = false) : ARs :=
  rowRs (G.set p W) 5 p W (by rcases hG with rfl | rfl <;> simp) (by decide) (by decide) (by rcases hG with rfl | rfl <;> simp [hp]) hW fun j r hj h => by
    rw [List.getElem?_set_ne (by omega)] at h
    rcases hG with rfl | rfl
    · exact good_pre j r h
    · rw [List.getElem?_set_ne (by omega)] at h
      exact good_pre j r h
theorem I1_set {R : List (List Int)} {p : Nat} {W : List Int} : (R.map I1).set p (.lst (W.map .int)) = (R.set p W).map I1 := (List.map_set).symm
theorem p__law_wrong_rows {ns : List Int} (hp : PoolOk ns) {Z : PEnds} (q : ∀ ns' o1 o2 o3 o4 o5 o6, PoolOk ns' → Z.rt (.fz (.bl true)) [.ow true (ns'.map .int), o1, o2, o3, o4, o5, o6]) :
    b__law_wrong_rows spDr spMt spRs Z [.ow true (ns.map .int), .un, .un, .un, .un, .un, .un] := by
  unfold b__law_wrong_rows
  simp only [pSeq, Option.map_some, Option.map_none, pNext, pIf, pAsg, pRet, pRetN, pDrop, pFor, pForV, pAsgG, pAug, pSetIx, pBrk, pCnt, pFz, pFr, pIn, pVar, pArg, pMv, pC, pCons, pNil, p2, pB, pBl, pCB, ress, res, rv_non, rv_bl, rv_int, rv_str, rv_ty, rv_lst, rv_tup, rv_rls, rv_xr, rv_nc, noCe, stO, true_and, and_true, Bool.not_false, Bool.not_true, rv_oD, isNon_oD, gtN, gtsCons, gtsNil, pNot, pOr, pAnd, pVal, pTru, pNeg, pNotV, pAndV, pOrV, pIfE, pDisp, allInl, pCut, pNoPt, pPt, pSeqSrc, pEnum, enSrc, pRng1, rOf1, pRng2, rOf2, owAt, pApp, pPopAt, pPop, pClear, pLc, pLcV, pYes, noOw, wipeE, restE, rst, pRaise, resL, pCall, argsOf, argO, refIx, wbC, wb, wb1, outsOf, outP, List.getElem?_cons_zero, List.getElem?_cons_succ, List.getElem?_nil, List.set_cons_zero, List.set_cons_succ, List.length_cons, List.length_nil, List.cons_append, List.nil_append, List.append_nil, List.drop_succ_cons, List.drop_zero, List.drop_nil, List.replicate_zero, List.replicate_succ, List.getD_cons_zero, List.getD_cons_succ, Nat.reduceSub, Nat.reduceAdd, Nat.sub_self, if_true, if_false, Bool.false_eq_true, q_frz1, q_frz2, q_stR1, q_stR2, q_free1, q_free2, q_free3, q_isN1, q_isN2, q_fIsN, q_fCI, q_fI, q_fI0, q_add1, q_add2, q_add3, q_mul1, q_mul2, q_isBl, q_isInt, q_seq1, q_seq2, q_seq3, q_len1, q_len2, q_len3, q_int1, q_abs, q_two, q_list1, q_list2, q_tuple1, q_tuple2, q_tru1, q_tru2, q_rs1, q_rs2, q_cut1, q_cut2, q_cut3, q_gtT, t12]
  refine ⟨by simp [sizeLine_eq], by simp [sizeLine_eq], by simp [sizeLine_eq], by simp [sizeLine_eq], by simp [sizeLine_eq], ?_⟩
  refine callGo_mk _ (⟨ns, 4, divOk (by decide) (by decide), hp⟩ : ADr) rfl (by simp [refIx]) rfl ?_ (fun _ _ h => h.elim)
  rintro r o ⟨v, ns1, h10, h11, hp1, rfl, rfl⟩
  have hI : [D.lst [D.int 1, D.int 3], D.lst [D.int 0, D.int 2, D.int 4], D.lst [], D.lst [D.int 0, D.int 1, D.int 2, D.int 3, D.int 4]] = goodI.map I1 := rfl
  rw [hI]
  simp only [pSeq, Option.map_some, Option.map_none, pNext, pIf, pAsg, pRet, pRetN, pDrop, pFor, pForV, pAsgG, pAug, pSetIx, pBrk, pCnt, pFz, pFr, pIn, pVar, pArg, pMv, pC, pCons, pNil, p2, pB, pBl, pCB, ress, res, rv_non, rv_bl, rv_int, rv_str, rv_ty, rv_lst, rv_tup, rv_rls, rv_xr, rv_nc, noCe, stO, true_and, and_true, Bool.not_false, Bool.not_true, rv_oD, isNon_oD, gtN, gtsCons, gtsNil, pNot, pOr, pAnd, pVal, pTru, pNeg, pNotV, pAndV, pOrV, pIfE, pDisp, allInl, pCut, pNoPt, pPt, pSeqSrc, pEnum, enSrc, pRng1, rOf1, pRng2, rOf2, owAt, pApp, pPopAt, pPop, pClear, pLc, pLcV, pYes, noOw, wipeE, restE, rst, pRaise, resL, pCall, argsOf, argO, refIx, wbC, wb, wb1, outsOf, outP, List.getElem?_cons_zero, List.getElem?_cons_succ, List.getElem?_nil, List.set_cons_zero, List.set_cons_succ, List.length_cons, List.length_nil, List.cons_append, List.nil_append, List.append_nil, List.drop_succ_cons, List.drop_zero, List.drop_nil, List.replicate_zero, List.replicate_succ, List.getD_cons_zero, List.getD_cons_succ, Nat.reduceSub, Nat.reduceAdd, Nat.sub_self, if_true, if_false, Bool.false_eq_true, q_frz1, q_frz2, q_stR1, q_stR2, q_free1, q_free2, q_free3, q_isN1, q_isN2, q_fIsN, q_fCI, q_fI, q_fI0, q_add1, q_add2, q_add3, q_mul1, q_mul2, q_isBl, q_isInt, q_seq1, q_seq2, q_seq3, q_len1, q_len2, q_len3, q_int1, q_abs, q_two, q_list1, q_list2, q_tuple1, q_tuple2, q_tru1, q_tru2, q_rs1, q_rs2, q_cut1, q_cut2, q_cut3, q_gtT]
  refine ⟨by intro j hj; simp at hj; subst hj; trivial, ?_⟩
  refine lcGo_filter goodI I1 (fun _ => true) I1 (by simp [sizeLine_eq]) trivial ?_ ?_ rfl
  · intro x hx acc Rk hacc k1 k2
    simp only [pSeq, Option.map_some, Option.map_none, pNext, pIf, pAsg, pRet, pRetN, pDrop, pFor, pForV, pAsgG, pAug, pSetIx, pBrk, pCnt, pFz, pFr, pIn, pVar, pArg, pMv, pC, pCons, pNil, p2, pB, pBl, pCB, ress, res, rv_non, rv_bl, rv_int, rv_str, rv_ty, rv_lst, rv_tup, rv_rls, rv_xr, rv_nc, noCe, stO, true_and, and_true, Bool.not_false, Bool.not_true, rv_oD, isNon_oD, gtN, gtsCons, gtsNil, pNot, pOr, pAnd, pVal, pTru, pNeg, pNotV, pAndV, pOrV, pIfE, pDisp, allInl, pCut, pNoPt, pPt, pSeqSrc, pEnum, enSrc, pRng1, rOf1, pRng2, rOf2, owAt, pApp, pPopAt, pPop, pClear, pLc, pLcV, pYes, noOw, wipeE, restE, rst, pRaise, resL, pCall, argsOf, argO, refIx, wbC, wb, wb1, outsOf, outP, List.getElem?_cons_zero, List.getElem?_cons_succ, List.getElem?_nil, List.set_cons_zero, List.set_cons_succ, List.length_cons, List.length_nil, List.cons_append, List.nil_append, List.append_nil, List.drop_succ_cons, List.drop_zero, List.drop_nil, List.replicate_zero, List.replicate_succ, List.getD_cons_zero, List.getD_cons_succ, Nat.reduceSub, Nat.reduceAdd, Nat.sub_self, if_true, if_false, Bool.false_eq_true, q_frz1, q_frz2, q_stR1, q_stR2, q_free1, q_free2, q_free3, q_isN1, q_isN2, q_fIsN, q_fCI, q_fI, q_fI0, q_add1, q_add2, q_add3, q_mul1, q_mul2, q_isBl, q_isInt, q_seq1, q_seq2, q_seq3, q_len1, q_len2, q_len3, q_int1, q_abs, q_two, q_list1, q_list2, q_tuple1, q_tuple2, q_tru1, q_tru2, q_rs1, q_rs2, q_cut1, q_cut2, q_cut3, q_gtT]
    exact ⟨hacc, by intro j hj; simp at hj; subst hj; trivial, k1 rfl⟩
  have hf : goodI.filter (fun _ => true) = goodI := rfl
  rw [hf]
  simp only [pSeq, Option.map_some, Option.map_none, pNext, pIf, pAsg, pRet, pRetN, pDrop, pFor, pForV, pAsgG, pAug, pSetIx, pBrk, pCnt, pFz, pFr, pIn, pVar, pArg, pMv, pC, pCons, pNil, p2, pB, pBl, pCB, ress, res, rv_non, rv_bl, rv_int, rv_str, rv_ty, rv_lst, rv_tup, rv_rls, rv_xr, rv_nc, noCe, stO, true_and, and_true, Bool.not_false, Bool.not_true, rv_oD, isNon_oD, gtN, gtsCons, gtsNil, pNot, pOr, pAnd, pVal, pTru, pNeg, pNotV, pAndV, pOrV, pIfE, pDisp, allInl, pCut, pNoPt, pPt, pSeqSrc, pEnum, enSrc, pRng1, rOf1, pRng2, rOf2, owAt, pApp, pPopAt, pPop, pClear, pLc, pLcV, pYes, noOw, wipeE, restE, rst, pRaise, resL, pCall, argsOf, argO, refIx, wbC, wb, wb1, outsOf, outP, List.getElem?_cons_zero, List.getElem?_cons_succ, List.getElem?_nil, List.set_cons_zero, List.set_cons_succ, List.length_cons, List.length_nil, List.cons_append, List.nil_append, List.append_nil, List.drop_succ_cons, List.drop_zero, List.drop_nil, List.replicate_zero, List.replicate_succ, List.getD_cons_zero, List.getD_cons_succ, Nat.reduceSub, Nat.reduceAdd, Nat.sub_self, if_true, if_false, Bool.false_eq_true, q_frz1, q_frz2, q_stR1, q_stR2, q_free1, q_free2, q_free3, q_isN1, q_isN2, q_fIsN, q_fCI, q_fI, q_fI0, q_add1, q_add2, q_add3, q_mul1, q_mul2, q_isBl, q_isInt, q_seq1, q_seq2, q_seq3, q_len1, q_len2, q_len3, q_int1, q_abs, q_two, q_list1, q_list2, q_tuple1, q_tuple2, q_tru1, q_tru2, q_rs1, q_rs2, q_cut1, q_cut2, q_cut3, q_gtT]
  refine callGo_mk _ (⟨I2 goodI, goodN, 5, tabZ_I2 _, good_ok⟩ : AMt) rfl (by simp [refIx]) rfl ?_ (fun _ _ h => h.elim)
  rintro r o ⟨rfl, rfl⟩
  simp only [pSeq, Option.map_some, Option.map_none, pNext, pIf, pAsg, pRet, pRetN, pDrop, pFor, pForV, pAsgG, pAug, pSetIx, pBrk, pCnt, pFz, pFr, pIn, pVar, pArg, pMv, pC, pCons, pNil, p2, pB, pBl, pCB, ress, res, rv_non, rv_bl, rv_int, rv_str, rv_ty, rv_lst, rv_tup, rv_rls, rv_xr, rv_nc, noCe, stO, true_and, and_true, Bool.not_false, Bool.not_true, rv_oD, isNon_oD, gtN, gtsCons, gtsNil, pNot, pOr, pAnd, pVal, pTru, pNeg, pNotV, pAndV, pOrV, pIfE, pDisp, allInl, pCut, pNoPt, pPt, pSeqSrc, pEnum, enSrc, pRng1, rOf1, pRng2, rOf2, owAt, pApp, pPopAt, pPop, pClear, pLc, pLcV, pYes, noOw, wipeE, restE, rst, pRaise, resL, pCall, argsOf, argO, refIx, wbC, wb, wb1, outsOf, outP, List.getElem?_cons_zero, List.getElem?_cons_succ, List.getElem?_nil, List.set_cons_zero, List.set_cons_succ, List.length_cons, List.length_nil, List.cons_append, List.nil_append, List.append_nil, List.drop_succ_cons, List.drop_zero, List.drop_nil, List.replicate_zero, List.replicate_succ, List.getD_cons_zero, List.getD_cons_succ, Nat.reduceSub, Nat.reduceAdd, Nat.sub_self, if_true, if_false, Bool.false_eq_true, q_frz1, q_frz2, q_stR1, q_stR2, q_free1, q_free2, q_free3, q_isN1, q_isN2, q_fIsN, q_fCI, q_fI, q_fI0, q_add1, q_add2, q_add3, q_mul1, q_mul2, q_isBl, q_isInt, q_seq1, q_seq2, q_seq3, q_len1, q_len2, q_len3, q_int1, q_abs, q_two, q_list1, q_list2, q_tuple1, q_tuple2, q_tru1, q_tru2, q_rs1, q_rs2, q_cut1, q_cut2, q_cut3, q_gtT, t12]
  refine ⟨by simp [sizeLine_eq], by simp [sizeLine_eq], by simp [sizeLine_eq], by simp [sizeLine_eq], by simp [sizeLine_eq], ⟨by decide, by decide⟩, by simp [sizeLine_eq], by simp [sizeLine_eq], by simp [sizeLine_eq], ⟨by decide, by decide⟩, ?_⟩
  have hW : [D.lst [D.int 1, D.int 1, D.int 3], D.lst [D.int 0, D.int 3, D.int 2], D.lst [D.int 2, D.int 4, D.int 5], D.lst [D.int (-1), D.int 0, D.int 4], D.lst [D.int 4, D.int 0], D.lst [D.int 0, D.int 2, D.int 1000000000000], D.lst [D.int 0, D.int 3, D.int 4, D.int 4]] = wrongI.map I1 := rfl
  rw [hW]
  obtain ⟨p, rfl⟩ : ∃ p : Nat, v = (p : Int) := ⟨v.toNat, by omega⟩
  have hp4 : p < 4 := by have : (p : Int) < 4 := h11; omega
  refine forGo_inv (fun i e => ∃ o5 o6, e = [.ow true (ns1.map .int), .fz (I2 goodI), .fz (.int (p : Int)), .un, .ow false (wrongI.map I1), o5, o6] ∧ freeO o5 ∧ freeO o6) (fun _ _ _ _ => trivial) ?_ ?_ ⟨.un, .un, rfl, trivial, trivial⟩
  · rintro i dd e Rk hdd ⟨o5, o6, rfl, f5, f6⟩ hRk
    have hi : i < 7 := by
      have := (List.getElem?_eq_some_iff.mp hdd).1
      simpa [rngD] using this
    have hdd' : dd = .int (i : Int) := by
      have : (rngD 0 (((7 : Nat) : Int)).toNat)[i]? = some (.int (i : Int)) := by simp [rngD, List.getElem?_range hi]
      rw [this] at hdd
      exact (Option.some.inj hdd).symm
    subst hdd'
    obtain ⟨W, hW⟩ : ∃ W, wrongI[i]? = some W := ⟨_, List.getElem?_eq_getElem hi⟩
    have hWb := wrong_bad W (List.mem_of_getElem? hW)
    have hWx : (wrongI.map I1)[i]? = some (I1 W) := by rw [List.getElem?_map, hW]; rfl
    simp only [pSeq, Option.map_some, Option.map_none, pNext, pIf, pAsg, pRet, pRetN, pDrop, pFor, pForV, pAsgG, pAug, pSetIx, pBrk, pCnt, pFz, pFr, pIn, pVar, pArg, pMv, pC, pCons, pNil, p2, pB, pBl, pCB, ress, res, rv_non, rv_bl, rv_int, rv_str, rv_ty, rv_lst, rv_tup, rv_rls, rv_xr, rv_nc, noCe, stO, true_and, and_true, Bool.not_false, Bool.not_true, rv_oD, isNon_oD, gtN, gtsCons, gtsNil, pNot, pOr, pAnd, pVal, pTru, pNeg, pNotV, pAndV, pOrV, pIfE, pDisp, allInl, pCut, pNoPt, pPt, pSeqSrc, pEnum, enSrc, pRng1, rOf1, pRng2, rOf2, owAt, pApp, pPopAt, pPop, pClear, pLc, pLcV, pYes, noOw, wipeE, restE, rst, pRaise, resL, pCall, argsOf, argO, refIx, wbC, wb, wb1, outsOf, outP, List.getElem?_cons_zero, List.getElem?_cons_succ, List.getElem?_nil, List.set_cons_zero, List.set_cons_succ, List.length_cons, List.length_nil, List.cons_append, List.nil_append, List.append_nil, List.drop_succ_cons, List.drop_zero, List.drop_nil, List.replicate_zero, List.replicate_succ, List.getD_cons_zero, List.getD_cons_succ, Nat.reduceSub, Nat.reduceAdd, Nat.sub_self, if_true, if_false, Bool.false_eq_true, q_frz1, q_frz2, q_stR1, q_stR2, q_free1, q_free2, q_free3, q_isN1, q_isN2, q_fIsN, q_fCI, q_fI, q_fI0, q_add1, q_add2, q_add3, q_mul1, q_mul2, q_isBl, q_isInt, q_seq1, q_seq2, q_seq3, q_len1, q_len2, q_len3, q_int1, q_abs, q_two, q_list1, q_list2, q_tuple1, q_tuple2, q_tru1, q_tru2, q_rs1, q_rs2, q_cut1, q_cut2, q_cut3, q_gtT, f5, f6]
    refine ⟨by intro j hj; simp at hj; subst hj; trivial, ?_⟩
    refine lcGo_filter goodI I1 (fun _ => true) I1 (by simp [sizeLine_eq]) trivial ?_ ?_ rfl
    · intro x hx acc Rk hacc k1 k2
      simp only [pSeq, Option.map_some, Option.map_none, pNext, pIf, pAsg, pRet, pRetN, pDrop, pFor, pForV, pAsgG, pAug, pSetIx, pBrk, pCnt, pFz, pFr, pIn, pVar, pArg, pMv, pC, pCons, pNil, p2, pB, pBl, pCB, ress, res, rv_non, rv_bl, rv_int, rv_str, rv_ty, rv_lst, rv_tup, rv_rls, rv_xr, rv_nc, noCe, stO, true_and, and_true, Bool.not_false, Bool.not_true, rv_oD, isNon_oD, gtN, gtsCons, gtsNil, pNot, pOr, pAnd, pVal, pTru, pNeg, pNotV, pAndV, pOrV, pIfE, pDisp, allInl, pCut, pNoPt, pPt, pSeqSrc, pEnum, enSrc, pRng1, rOf1, pRng2, rOf2, owAt, pApp, pPopAt, pPop, pClear, pLc, pLcV, pYes, noOw, wipeE, restE, rst, pRaise, resL, pCall, argsOf, argO, refIx, wbC, wb, wb1, outsOf, outP, List.getElem?_cons_zero, List.getElem?_cons_succ, List.getElem?_nil, List.set_cons_zero, List.set_cons_succ, List.length_cons, List.length_nil, List.cons_append, List.nil_append, List.append_nil, List.drop_succ_cons, List.drop_zero, List.drop_nil, List.replicate_zero, List.replicate_succ, List.getD_cons_zero, List.getD_cons_succ, Nat.reduceSub, Nat.reduceAdd, Nat.sub_self, if_true, if_false, Bool.false_eq_true, q_frz1, q_frz2, q_stR1, q_stR2, q_free1, q_free2, q_free3, q_isN1, q_isN2, q_fIsN, q_fCI, q_fI, q_fI0, q_add1, q_add2, q_add3, q_mul1, q_mul2, q_isBl, q_isInt, q_seq1, q_seq2, q_seq3, q_len1, q_len2, q_len3, q_int1, q_abs, q_two, q_list1, q_list2, q_tuple1, q_tuple2, q_tru1, q_tru2, q_rs1, q_rs2, q_cut1, q_cut2, q_cut3, q_gtT]
      exact ⟨hacc, by intro j hj; simp at hj; subst hj; trivial, k1 rfl⟩
    rw [hf]
    simp only [pSeq, Option.map_some, Option.map_none, pNext, pIf, pAsg, pRet, pRetN, pDrop, pFor, pForV, pAsgG, pAug, pSetIx, pBrk, pCnt, pFz, pFr, pIn, pVar, pArg, pMv, pC, pCons, pNil, p2, pB, pBl, pCB, ress, res, rv_non, rv_bl, rv_int, rv_str, rv_ty, rv_lst, rv_tup, rv_rls, rv_xr, rv_nc, noCe, stO, true_and, and_true, Bool.not_false, Bool.not_true, rv_oD, isNon_oD, gtN, gtsCons, gtsNil, pNot, pOr, pAnd, pVal, pTru, pNeg, pNotV, pAndV, pOrV, pIfE, pDisp, allInl, pCut, pNoPt, pPt, pSeqSrc, pEnum, enSrc, pRng1, rOf1, pRng2, rOf2, owAt, pApp, pPopAt, pPop, pClear, pLc, pLcV, pYes, noOw, wipeE, restE, rst, pRaise, resL, pCall, argsOf, argO, refIx, wbC, wb, wb1, outsOf, outP, List.getElem?_cons_zero, List.getElem?_cons_succ, List.getElem?_nil, List.set_cons_zero, List.set_cons_succ, List.length_cons, List.length_nil, List.cons_append, List.nil_append, List.append_nil, List.drop_succ_cons, List.drop_zero, List.drop_nil, List.replicate_zero, List.replicate_succ, List.getD_cons_zero, List.getD_cons_succ, Nat.reduceSub, Nat.reduceAdd, Nat.sub_self, if_true, if_false, Bool.false_eq_true, q_frz1, q_frz2, q_stR1, q_stR2, q_free1, q_free2, q_free3, q_isN1, q_isN2, q_fIsN, q_fCI, q_fI, q_fI0, q_add1, q_add2, q_add3, q_mul1, q_mul2, q_isBl, q_isInt, q_seq1, q_seq2, q_seq3, q_len1, q_len2, q_len3, q_int1, q_abs, q_two, q_list1, q_list2, q_tuple1, q_tuple2, q_tru1, q_tru2, q_rs1, q_rs2, q_cut1, q_cut2, q_cut3, q_gtT, f5, f6, fEq_int]
    refine ⟨by decide, ?_⟩
    by_cases z : (((i : Int) + (p : Int)) % 2 == 1) = true
    · rw [if_pos z]
      refine ⟨by simp [sizeLine_eq], 3, by decide, ?_⟩
      rw [show [D.int 2, D.int 2] = [(2 : Int), 2].map .int from rfl, I1_set]
      rw [fIx_seq (d := .lst (wrongI.map I1)) rfl hWx]
      simp only [pSeq, Option.map_some, Option.map_none, pNext, pIf, pAsg, pRet, pRetN, pDrop, pFor, pForV, pAsgG, pAug, pSetIx, pBrk, pCnt, pFz, pFr, pIn, pVar, pArg, pMv, pC, pCons, pNil, p2, pB, pBl, pCB, ress, res, rv_non, rv_bl, rv_int, rv_str, rv_ty, rv_lst, rv_tup, rv_rls, rv_xr, rv_nc, noCe, stO, true_and, and_true, Bool.not_false, Bool.not_true, rv_oD, isNon_oD, gtN, gtsCons, gtsNil, pNot, pOr, pAnd, pVal, pTru, pNeg, pNotV, pAndV, pOrV, pIfE, pDisp, allInl, pCut, pNoPt, pPt, pSeqSrc, pEnum, enSrc, pRng1, rOf1, pRng2, rOf2, owAt, pApp, pPopAt, pPop, pClear, pLc, pLcV, pYes, noOw, wipeE, restE, rst, pRaise, resL, pCall, argsOf, argO, refIx, wbC, wb, wb1, outsOf, outP, List.getElem?_cons_zero, List.getElem?_cons_succ, List.getElem?_nil, List.set_cons_zero, List.set_cons_succ, List.length_cons, List.length_nil, List.cons_append, List.nil_append, List.append_nil, List.drop_succ_cons, List.drop_zero, List.drop_nil, List.replicate_zero, List.replicate_succ, List.getD_cons_zero, List.getD_cons_succ, Nat.reduceSub, Nat.reduceAdd, Nat.sub_self, if_true, if_false, Bool.false_eq_true, q_frz1, q_frz2, q_stR1, q_stR2, q_free1, q_free2, q_free3, q_isN1, q_isN2, q_fIsN, q_fCI, q_fI, q_fI0, q_add1, q_add2, q_add3, q_mul1, q_mul2, q_isBl, q_isInt, q_seq1, q_seq2, q_seq3, q_len1, q_len2, q_len3, q_int1, q_abs, q_two, q_list1, q_list2, q_tuple1, q_tuple2, q_tru1, q_tru2, q_rs1, q_rs2, q_cut1, q_cut2, q_cut3, q_gtT, f5, f6]
      refine ⟨p, ixN_nat (by simp; omega), ?_⟩
      rw [I1_set]
      refine callGo_mk _ (wrRs _ (.inr rfl) p hp4 W hWb) rfl (by simp [refIx]) rfl ?_ (fun _ _ h => h.elim)
      rintro r o ⟨rfl, rfl⟩
      simp only [pSeq, Option.map_some, Option.map_none, pNext, pIf, pAsg, pRet, pRetN, pDrop, pFor, pForV, pAsgG, pAug, pSetIx, pBrk, pCnt, pFz, pFr, pIn, pVar, pArg, pMv, pC, pCons, pNil, p2, pB, pBl, pCB, ress, res, rv_non, rv_bl, rv_int, rv_str, rv_ty, rv_lst, rv_tup, rv_rls, rv_xr, rv_nc, noCe, stO, true_and, and_true, Bool.not_false, Bool.not_true, rv_oD, isNon_oD, gtN, gtsCons, gtsNil, pNot, pOr, pAnd, pVal, pTru, pNeg, pNotV, pAndV, pOrV, pIfE, pDisp, allInl, pCut, pNoPt, pPt, pSeqSrc, pEnum, enSrc, pRng1, rOf1, pRng2, rOf2, owAt, pApp, pPopAt, pPop, pClear, pLc, pLcV, pYes, noOw, wipeE, restE, rst, pRaise, resL, pCall, argsOf, argO, refIx, wbC, wb, wb1, outsOf, outP, List.getElem?_cons_zero, List.getElem?_cons_succ, List.getElem?_nil, List.set_cons_zero, List.set_cons_succ, List.length_cons, List.length_nil, List.cons_append, List.nil_append, List.append_nil, List.drop_succ_cons, List.drop_zero, List.drop_nil, List.replicate_zero, List.replicate_succ, List.getD_cons_zero, List.getD_cons_succ, Nat.reduceSub, Nat.reduceAdd, Nat.sub_self, if_true, if_false, Bool.false_eq_true, q_frz1, q_frz2, q_stR1, q_stR2, q_free1, q_free2, q_free3, q_isN1, q_isN2, q_fIsN, q_fCI, q_fI, q_fI0, q_add1, q_add2, q_add3, q_mul1, q_mul2, q_isBl, q_isInt, q_seq1, q_seq2, q_seq3, q_len1, q_len2, q_len3, q_int1, q_abs, q_two, q_list1, q_list2, q_tuple1, q_tuple2, q_tru1, q_tru2, q_rs1, q_rs2, q_cut1, q_cut2, q_cut3, q_gtT]
      exact hRk _ ⟨.fz (.int (i : Int)), _, rfl, trivial, trivial⟩
    · rw [if_neg z]
      rw [fIx_seq (d := .lst (wrongI.map I1)) rfl hWx]
      simp only [pSeq, Option.map_some, Option.map_none, pNext, pIf, pAsg, pRet, pRetN, pDrop, pFor, pForV, pAsgG, pAug, pSetIx, pBrk, pCnt, pFz, pFr, pIn, pVar, pArg, pMv, pC, pCons, pNil, p2, pB, pBl, pCB, ress, res, rv_non, rv_bl, rv_int, rv_str, rv_ty, rv_lst, rv_tup, rv_rls, rv_xr, rv_nc, noCe, stO, true_and, and_true, Bool.not_false, Bool.not_true, rv_oD, isNon_oD, gtN, gtsCons, gtsNil, pNot, pOr, pAnd, pVal, pTru, pNeg, pNotV, pAndV, pOrV, pIfE, pDisp, allInl, pCut, pNoPt, pPt, pSeqSrc, pEnum, enSrc, pRng1, rOf1, pRng2, rOf2, owAt, pApp, pPopAt, pPop, pClear, pLc, pLcV, pYes, noOw, wipeE, restE, rst, pRaise, resL, pCall, argsOf, argO, refIx, wbC, wb, wb1, outsOf, outP, List.getElem?_cons_zero, List.getElem?_cons_succ, List.getElem?_nil, List.set_cons_zero, List.set_cons_succ, List.length_cons, List.length_nil, List.cons_append, List.nil_append, List.append_nil, List.drop_succ_cons, List.drop_zero, List.drop_nil, List.replicate_zero, List.replicate_succ, List.getD_cons_zero, List.getD_cons_succ, Nat.reduceSub, Nat.reduceAdd, Nat.sub_self, if_true, if_false, Bool.false_eq_true, q_frz1, q_frz2, q_stR1, q_stR2, q_free1, q_free2, q_free3, q_isN1, q_isN2, q_fIsN, q_fCI, q_fI, q_fI0, q_add1, q_add2, q_add3, q_mul1, q_mul2, q_isBl, q_isInt, q_seq1, q_seq2, q_seq3, q_len1, q_len2, q_len3, q_int1, q_abs, q_two, q_list1, q_list2, q_tuple1, q_tuple2, q_tru1, q_tru2, q_rs1, q_rs2, q_cut1, q_cut2, q_cut3, q_gtT, f5, f6]
      refine ⟨p, ixN_nat (by simp; omega), ?_⟩
      rw [I1_set]
      refine callGo_mk _ (wrRs _ (.inl rfl) p hp4 W hWb) rfl (by simp [refIx]) rfl ?_ (fun _ _ h => h.elim)
      rintro r o ⟨rfl, rfl⟩
      simp only [pSeq, Option.map_some, Option.map_none, pNext, pIf, pAsg, pRet, pRetN, pDrop, pFor, pForV, pAsgG, pAug, pSetIx, pBrk, pCnt, pFz, pFr, pIn, pVar, pArg, pMv, pC, pCons, pNil, p2, pB, pBl, pCB, ress, res, rv_non, rv_bl, rv_int, rv_str, rv_ty, rv_lst, rv_tup, rv_rls, rv_xr, rv_nc, noCe, stO, true_and, and_true, Bool.not_false, Bool.not_true, rv_oD, isNon_oD, gtN, gtsCons, gtsNil, pNot, pOr, pAnd, pVal, pTru, pNeg, pNotV, pAndV, pOrV, pIfE, pDisp, allInl, pCut, pNoPt, pPt, pSeqSrc, pEnum, enSrc, pRng1, rOf1, pRng2, rOf2, owAt, pApp, pPopAt, pPop, pClear, pLc, pLcV, pYes, noOw, wipeE, restE, rst, pRaise, resL, pCall, argsOf, argO, refIx, wbC, wb, wb1, outsOf, outP, List.getElem?_cons_zero, List.getElem?_cons_succ, List.getElem?_nil, List.set_cons_zero, List.set_cons_succ, List.length_cons, List.length_nil, List.cons_append, List.nil_append, List.append_nil, List.drop_succ_cons, List.drop_zero, List.drop_nil, List.replicate_zero, List.replicate_succ, List.getD_cons_zero, List.getD_cons_succ, Nat.reduceSub, Nat.reduceAdd, Nat.sub_self, if_true, if_false, Bool.false_eq_true, q_frz1, q_frz2, q_stR1, q_stR2, q_free1, q_free2, q_free3, q_isN1, q_isN2, q_fIsN, q_fCI, q_fI, q_fI0, q_add1, q_add2, q_add3, q_mul1, q_mul2, q_isBl, q_isInt, q_seq1, q_seq2, q_seq3, q_len1, q_len2, q_len3, q_int1, q_abs, q_two, q_list1, q_list2, q_tuple1, q_tuple2, q_tru1, q_tru2, q_rs1, q_rs2, q_cut1, q_cut2, q_cut3, q_gtT]
      exact hRk _ ⟨.fz (.int (i : Int)), _, rfl, trivial, trivial⟩
  · rintro e ⟨o5, o6, rfl, f5, f6⟩
    simp only [pSeq, Option.map_some, Option.map_none, pNext, pIf, pAsg, pRet, pRetN, pDrop, pFor, pForV, pAsgG, pAug, pSetIx, pBrk, pCnt, pFz, pFr, pIn, pVar, pArg, pMv, pC, pCons, pNil, p2, pB, pBl, pCB, ress, res, rv_non, rv_bl, rv_int, rv_str, rv_ty, rv_lst, rv_tup, rv_rls, rv_xr, rv_nc, noCe, stO, true_and, and_true, Bool.not_false, Bool.not_true, rv_oD, isNon_oD, gtN, gtsCons, gtsNil, pNot, pOr, pAnd, pVal, pTru, pNeg, pNotV, pAndV, pOrV, pIfE, pDisp, allInl, pCut, pNoPt, pPt, pSeqSrc, pEnum, enSrc, pRng1, rOf1, pRng2, rOf2, owAt, pApp, pPopAt, pPop, pClear, pLc, pLcV, pYes, noOw, wipeE, restE, rst, pRaise, resL, pCall, argsOf, argO, refIx, wbC, wb, wb1, outsOf, outP, List.getElem?_cons_zero, List.getElem?_cons_succ, List.getElem?_nil, List.set_cons_zero, List.set_cons_succ, List.length_cons, List.length_nil, List.cons_append, List.nil_append, List.append_nil, List.drop_succ_cons, List.drop_zero, List.drop_nil, List.replicate_zero, List.replicate_succ, List.getD_cons_zero, List.getD_cons_succ, Nat.reduceSub, Nat.reduceAdd, Nat.sub_self, if_true, if_false, Bool.false_eq_true, q_frz1, q_frz2, q_stR1, q_stR2, q_free1, q_free2, q_free3, q_isN1, q_isN2, q_fIsN, q_fCI, q_fI, q_fI0, q_add1, q_add2, q_add3, q_mul1, q_mul2, q_isBl, q_isInt, q_seq1, q_seq2, q_seq3, q_len1, q_len2, q_len3, q_int1, q_abs, q_two, q_list1, q_list2, q_tuple1, q_tuple2, q_tru1, q_tru2, q_rs1, q_rs2, q_cut1, q_cut2, q_cut3, q_gtT]
    exact q _ _ _ _ _ _ _ hp1
section
variable {P : Program} {w : World} {K : PySem.W.Frag} {mg : Str → Option Value} {base : Heap} {C_BadCount C_BadNumber C_BadTable C_ReelError : Addr} {f : Addr} {fd : FuncData}
theorem ok__law_wrong_rows (T : Txt K mg C_BadCount C_BadNumber C_BadTable C_ReelError) (c1 : CalD P w K mg base 1 "_law_draw" spDr) (c2 : CalD P w K mg base 6 "_law_meets" spMt) (c3 : CalD P w K mg base 7 "_law_refuses" spRs)
    (Fn : Fun K "_law_wrong_rows" "_law_wrong_rows" s__law_wrong_rows f fd) : FnOk P w K mg base (L2.CX P w) 8 f fd [("pool" : Str)] (spM K spBp) :=
  Fn.M sc__law_wrong_rows (fun a args h => by rw [show args = _ from h]; rfl) (fun cdv A outer s H E hr => d__law_wrong_rows T c1 c2 c3 hr) (fun a args h => by
    rw [show args = _ from h]
    exact p__law_wrong_rows a.2 (fun ns' _ _ _ _ _ _ h => ⟨ns', h, rfl, rfl⟩))
end
end K12
set_option Elab.async false
set_option linter.all false
set_option maxRecDepth 100000
set_option maxHeartbeats 4000000
namespace K12
open PySem PySem.Spec PyProof.Rows L2 PW
/-! ### _law_table -/
theorem rowOk_of {m : Int} : ∀ {l : List Nat} {b : Int}, l.Pairwise (· < ·) → (∀ c ∈ l, b < (c : Int) ∧ (c : Int) < m) → rowOk m b (nZ l) = true
  | [], _, _, _ => rfl
  | c :: r, b, hp, h => by
    have hp := List.pairwise_cons.mp hp
    have h1 := h c List.mem_cons_self
    show (decide (b < (c : Int)) && decide ((c : Int) < m) && rowOk m c (nZ r)) = true
    rw [rowOk_of hp.2 fun x hx => ⟨by have := hp.1 x hx; omega, (h x (List.mem_cons_of_mem _ hx)).2⟩]
    simp [h1]
theorem rowOk_filter {n : Nat} {p : Nat → Bool} : rowOk (n : Int) (-1) (nZ ((List.range n).filter p)) = true :=
  rowOk_of (List.Pairwise.filter _ List.pairwise_lt_range) fun c hc => by
    have := List.mem_range.mp (List.mem_filter.mp hc).1
    omega
/-- rows made of ranges -/
def Rws (n : Nat) (N : List (List Nat)) : Prop := ∀ row ∈ N, rowOk (n : Int) (-1) (nZ row) = true
theorem Rws.good {n : Nat} {N : List (List Nat)} (h : Rws n N) (hl : N.length ≤ 128) (hn : n ≤ 128) : Good (N.map nZ) (n : Int) := ⟨by simpa using hl, by omega, by omega, fun row hr => by
  obtain ⟨r, h1, rfl⟩ := List.mem_map.mp hr
  exact h r h1⟩
theorem Rws.add {n : Nat} {N : List (List Nat)} (h : Rws n N) (p : Nat → Bool) : Rws n (N ++ [(List.range n).filter p]) := fun row hr => by
  rcases List.mem_append.mp hr with hr | hr
  · exact h row hr
  · rw [List.mem_singleton] at hr; subst hr; exact rowOk_filter
theorem p__law_table {ns : List Int} (hp : PoolOk ns) {Z : PEnds}
    (q : ∀ (N : List (List Nat)) (n : Nat) (ns' : List Int) (a : Addr) o1 o2 o3 o4 o5 o6 o7 o8, PoolOk ns' → N.length ≤ 128 → n ≤ 128 → Rws n N → (∀ ds, o8 ≠ .ow true ds) → Z.rt (.ow false [.ref a, .int (n : Int)]) ([.ow true (ns'.map .int), o1, o2, o3, o4, o5, o6, o7, o8] ++ [.ce a ((N.map nZ).map I1)])) :
    b__law_table spDr Z [.ow true (ns.map .int), .un, .un, .un, .un, .un, .un, .un, .un] := by
  have hrng : ∀ k : Nat, rngD 0 k = (List.range k).map fun (i : Nat) => D.int (i : Int) := fun k => by simp [rngD]
  unfold b__law_table
  simp only [pSeq, Option.map_some, Option.map_none, pNext, pIf, pAsg, pRet, pRetN, pDrop, pFor, pForV, pAsgG, pAug, pSetIx, pBrk, pCnt, pFz, pFr, pIn, pVar, pArg, pMv, pC, pCons, pNil, p2, pB, pBl, pCB, ress, res, rv_non, rv_bl, rv_int, rv_str, rv_ty, rv_lst, rv_tup, rv_rls, rv_xr, rv_nc, noCe, stO, true_and, and_true, Bool.not_false, Bool.not_true, rv_oD, isNon_oD, gtN, gtsCons, gtsNil, pNot, pOr, pAnd, pVal, pTru, pNeg, pNotV, pAndV, pOrV, pIfE, pDisp, allInl, pCut, pNoPt, pPt, pSeqSrc, pEnum, enSrc, pRng1, rOf1, pRng2, rOf2, owAt, pApp, pPopAt, pPop, pClear, pLc, pLcV, pYes, noOw, wipeE, restE, rst, pRaise, resL, pCall, argsOf, argO, refIx, wbC, wb, wb1, outsOf, outP, List.getElem?_cons_zero, List.getElem?_cons_succ, List.getElem?_nil, List.set_cons_zero, List.set_cons_succ, List.length_cons, List.length_nil, List.cons_append, List.nil_append, List.append_nil, List.drop_succ_cons, List.drop_zero, List.drop_nil, List.replicate_zero, List.replicate_succ, List.getD_cons_zero, List.getD_cons_succ, Nat.reduceSub, Nat.reduceAdd, Nat.sub_self, if_true, if_false, Bool.false_eq_true, q_frz1, q_frz2, q_stR1, q_stR2, q_free1, q_free2, q_free3, q_isN1, q_isN2, q_fIsN, q_fCI, q_fI, q_fI0, q_add1, q_add2, q_add3, q_mul1, q_mul2, q_isBl, q_isInt, q_seq1, q_seq2, q_seq3, q_len1, q_len2, q_len3, q_int1, q_abs, q_two, q_list1, q_list2, q_tuple1, q_tuple2, q_tru1, q_tru2, q_rs1, q_rs2, q_cut1, q_cut2, q_cut3, q_gtT]
  refine ⟨Nat.zero_le _, ?_⟩
  refine callGo_mk _ (⟨ns, 8, divOk (by decide) (by decide), hp⟩ : ADr) rfl (by simp [refIx]) rfl ?_ (fun _ _ h => h.elim)
  rintro r o ⟨v, ns1, h10, h11, hp1, rfl, rfl⟩
  simp only [pSeq, Option.map_some, Option.map_none, pNext, pIf, pAsg, pRet, pRetN, pDrop, pFor, pForV, pAsgG, pAug, pSetIx, pBrk, pCnt, pFz, pFr, pIn, pVar, pArg, pMv, pC, pCons, pNil, p2, pB, pBl, pCB, ress, res, rv_non, rv_bl, rv_int, rv_str, rv_ty, rv_lst, rv_tup, rv_rls, rv_xr, rv_nc, noCe, stO, true_and, and_true, Bool.not_false, Bool.not_true, rv_oD, isNon_oD, gtN, gtsCons, gtsNil, pNot, pOr, pAnd, pVal, pTru, pNeg, pNotV, pAndV, pOrV, pIfE, pDisp, allInl, pCut, pNoPt, pPt, pSeqSrc, pEnum, enSrc, pRng1, rOf1, pRng2, rOf2, owAt, pApp, pPopAt, pPop, pClear, pLc, pLcV, pYes, noOw, wipeE, restE, rst, pRaise, resL, pCall, argsOf, argO, refIx, wbC, wb, wb1, outsOf, outP, List.getElem?_cons_zero, List.getElem?_cons_succ, List.getElem?_nil, List.set_cons_zero, List.set_cons_succ, List.length_cons, List.length_nil, List.cons_append, List.nil_append, List.append_nil, List.drop_succ_cons, List.drop_zero, List.drop_nil, List.replicate_zero, List.replicate_succ, List.getD_cons_zero, List.getD_cons_succ, Nat.reduceSub, Nat.reduceAdd, Nat.sub_self, if_true, if_false, Bool.false_eq_true, q_frz1, q_frz2, q_stR1, q_stR2, q_free1, q_free2, q_free3, q_isN1, q_isN2, q_fIsN, q_fCI, q_fI, q_fI0, q_add1, q_add2, q_add3, q_mul1, q_mul2, q_isBl, q_isInt, q_seq1, q_seq2, q_seq3, q_len1, q_len2, q_len3, q_int1, q_abs, q_two, q_list1, q_list2, q_tuple1, q_tuple2, q_tru1, q_tru2, q_rs1, q_rs2, q_cut1, q_cut2, q_cut3, q_gtT, fEq_int]
  split
  · refine callGo_mk _ (⟨ns1, 40, divOk (by decide) (by decide), hp1⟩ : ADr) rfl (by simp [refIx]) rfl ?_ (fun _ _ h => h.elim)
    rintro r o ⟨v2, ns2, h20, h21, hp2, rfl, rfl⟩
    simp only [pSeq, Option.map_some, Option.map_none, pNext, pIf, pAsg, pRet, pRetN, pDrop, pFor, pForV, pAsgG, pAug, pSetIx, pBrk, pCnt, pFz, pFr, pIn, pVar, pArg, pMv, pC, pCons, pNil, p2, pB, pBl, pCB, ress, res, rv_non, rv_bl, rv_int, rv_str, rv_ty, rv_lst, rv_tup, rv_rls, rv_xr, rv_nc, noCe, stO, true_and, and_true, Bool.not_false, Bool.not_true, rv_oD, isNon_oD, gtN, gtsCons, gtsNil, pNot, pOr, pAnd, pVal, pTru, pNeg, pNotV, pAndV, pOrV, pIfE, pDisp, allInl, pCut, pNoPt, pPt, pSeqSrc, pEnum, enSrc, pRng1, rOf1, pRng2, rOf2, owAt, pApp, pPopAt, pPop, pClear, pLc, pLcV, pYes, noOw, wipeE, restE, rst, pRaise, resL, pCall, argsOf, argO, refIx, wbC, wb, wb1, outsOf, outP, List.getElem?_cons_zero, List.getElem?_cons_succ, List.getElem?_nil, List.set_cons_zero, List.set_cons_succ, List.length_cons, List.length_nil, List.cons_append, List.nil_append, List.append_nil, List.drop_succ_cons, List.drop_zero, List.drop_nil, List.replicate_zero, List.replicate_succ, List.getD_cons_zero, List.getD_cons_succ, Nat.reduceSub, Nat.reduceAdd, Nat.sub_self, if_true, if_false, Bool.false_eq_true, q_frz1, q_frz2, q_stR1, q_stR2, q_free1, q_free2, q_free3, q_isN1, q_isN2, q_fIsN, q_fCI, q_fI, q_fI0, q_add1, q_add2, q_add3, q_mul1, q_mul2, q_isBl, q_isInt, q_seq1, q_seq2, q_seq3, q_len1, q_len2, q_len3, q_int1, q_abs, q_two, q_list1, q_list2, q_tuple1, q_tuple2, q_tru1, q_tru2, q_rs1, q_rs2, q_cut1, q_cut2, q_cut3, q_gtT]
    refine callGo_mk _ (⟨ns2, 40, divOk (by decide) (by decide), hp2⟩ : ADr) rfl (by simp [refIx]) rfl ?_ (fun _ _ h => h.elim)
    rintro r o ⟨v3, ns3, h30, h31, hp3, rfl, rfl⟩
    simp only [pSeq, Option.map_some, Option.map_none, pNext, pIf, pAsg, pRet, pRetN, pDrop, pFor, pForV, pAsgG, pAug, pSetIx, pBrk, pCnt, pFz, pFr, pIn, pVar, pArg, pMv, pC, pCons, pNil, p2, pB, pBl, pCB, ress, res, rv_non, rv_bl, rv_int, rv_str, rv_ty, rv_lst, rv_tup, rv_rls, rv_xr, rv_nc, noCe, stO, true_and, and_true, Bool.not_false, Bool.not_true, rv_oD, isNon_oD, gtN, gtsCons, gtsNil, pNot, pOr, pAnd, pVal, pTru, pNeg, pNotV, pAndV, pOrV, pIfE, pDisp, allInl, pCut, pNoPt, pPt, pSeqSrc, pEnum, enSrc, pRng1, rOf1, pRng2, rOf2, owAt, pApp, pPopAt, pPop, pClear, pLc, pLcV, pYes, noOw, wipeE, restE, rst, pRaise, resL, pCall, argsOf, argO, refIx, wbC, wb, wb1, outsOf, outP, List.getElem?_cons_zero, List.getElem?_cons_succ, List.getElem?_nil, List.set_cons_zero, List.set_cons_succ, List.length_cons, List.length_nil, List.cons_append, List.nil_append, List.append_nil, List.drop_succ_cons, List.drop_zero, List.drop_nil, List.replicate_zero, List.replicate_succ, List.getD_cons_zero, List.getD_cons_succ, Nat.reduceSub, Nat.reduceAdd, Nat.sub_self, if_true, if_false, Bool.false_eq_true, q_frz1, q_frz2, q_stR1, q_stR2, q_free1, q_free2, q_free3, q_isN1, q_isN2, q_fIsN, q_fCI, q_fI, q_fI0, q_add1, q_add2, q_add3, q_mul1, q_mul2, q_isBl, q_isInt, q_seq1, q_seq2, q_seq3, q_len1, q_len2, q_len3, q_int1, q_abs, q_two, q_list1, q_list2, q_tuple1, q_tuple2, q_tru1, q_tru2, q_rs1, q_rs2, q_cut1, q_cut2, q_cut3, q_gtT]
    have b2 : v2 < 40 := h21
    have b3 : v3 < 40 := h31
    obtain ⟨k, hk, hk1⟩ : ∃ k : Nat, 40 - v2 = (k : Int) ∧ k ≤ 40 := ⟨(40 - v2).toNat, by omega, by omega⟩
    obtain ⟨n, hn, hn1, hn2⟩ : ∃ n : Nat, 40 - v3 = (n : Int) ∧ n ≤ 40 ∧ 0 < n := ⟨(40 - v3).toNat, by omega, by omega, by omega⟩
    rw [hk, hn]
    have ek : ((k : Nat) : Int).toNat = k := by simp
    have en : ((n : Nat) : Int).toNat = n := by simp
    refine ⟨⟨by omega, by omega⟩, ?_⟩
    rw [ek]
    refine forGo_inv (fun i e => ∃ (ns' : List Int) (N : List (List Nat)) (o4 o5 o6 : PW.O), e = [.ow true (ns'.map .int), .ow false ((N.map nZ).map I1), .fz (.int (k : Int)), .fz (.int (n : Int)), o4, o5, o6, .un, .un] ∧ PoolOk ns' ∧ N.length = i ∧ Rws n N ∧ freeO o4 ∧ freeO o5 ∧ freeO o6) (fun _ _ _ _ => trivial) ?_ ?_ ⟨ns3, [], .un, .un, .un, rfl, hp3, rfl, fun row h => (nomatch h), trivial, trivial, trivial⟩
    · rintro i dd e Rk hdd ⟨ns', N, o4, o5, o6, rfl, hp', hN, hRw, f4, f5, f6⟩ hRk
      have hi : i < k := by
        have := (List.getElem?_eq_some_iff.mp hdd).1
        simpa [rngD] using this
      have hdd' : dd = .int (i : Int) := by
        simp [rngD, List.getElem?_map, List.getElem?_range hi] at hdd
        exact hdd.symm
      subst hdd'
      simp only [pSeq, Option.map_some, Option.map_none, pNext, pIf, pAsg, pRet, pRetN, pDrop, pFor, pForV, pAsgG, pAug, pSetIx, pBrk, pCnt, pFz, pFr, pIn, pVar, pArg, pMv, pC, pCons, pNil, p2, pB, pBl, pCB, ress, res, rv_non, rv_bl, rv_int, rv_str, rv_ty, rv_lst, rv_tup, rv_rls, rv_xr, rv_nc, noCe, stO, true_and, and_true, Bool.not_false, Bool.not_true, rv_oD, isNon_oD, gtN, gtsCons, gtsNil, pNot, pOr, pAnd, pVal, pTru, pNeg, pNotV, pAndV, pOrV, pIfE, pDisp, allInl, pCut, pNoPt, pPt, pSeqSrc, pEnum, enSrc, pRng1, rOf1, pRng2, rOf2, owAt, pApp, pPopAt, pPop, pClear, pLc, pLcV, pYes, noOw, wipeE, restE, rst, pRaise, resL, pCall, argsOf, argO, refIx, wbC, wb, wb1, outsOf, outP, List.getElem?_cons_zero, List.getElem?_cons_succ, List.getElem?_nil, List.set_cons_zero, List.set_cons_succ, List.length_cons, List.length_nil, List.cons_append, List.nil_append, List.append_nil, List.drop_succ_cons, List.drop_zero, List.drop_nil, List.replicate_zero, List.replicate_succ, List.getD_cons_zero, List.getD_cons_succ, Nat.reduceSub, Nat.reduceAdd, Nat.sub_self, if_true, if_false, Bool.false_eq_true, q_frz1, q_frz2, q_stR1, q_stR2, q_free1, q_free2, q_free3, q_isN1, q_isN2, q_fIsN, q_fCI, q_fI, q_fI0, q_add1, q_add2, q_add3, q_mul1, q_mul2, q_isBl, q_isInt, q_seq1, q_seq2, q_seq3, q_len1, q_len2, q_len3, q_int1, q_abs, q_two, q_list1, q_list2, q_tuple1, q_tuple2, q_tru1, q_tru2, q_rs1, q_rs2, q_cut1, q_cut2, q_cut3, q_gtT, f4, f5, f6]
      refine ⟨Nat.zero_le _, ?_⟩
      refine callGo_mk _ (⟨ns', 4, divOk (by decide) (by decide), hp'⟩ : ADr) rfl (by simp [refIx]) rfl ?_ (fun _ _ h => h.elim)
      rintro r o ⟨v4, ns4, h40, h41, hp4, rfl, rfl⟩
      simp only [pSeq, Option.map_some, Option.map_none, pNext, pIf, pAsg, pRet, pRetN, pDrop, pFor, pForV, pAsgG, pAug, pSetIx, pBrk, pCnt, pFz, pFr, pIn, pVar, pArg, pMv, pC, pCons, pNil, p2, pB, pBl, pCB, ress, res, rv_non, rv_bl, rv_int, rv_str, rv_ty, rv_lst, rv_tup, rv_rls, rv_xr, rv_nc, noCe, stO, true_and, and_true, Bool.not_false, Bool.not_true, rv_oD, isNon_oD, gtN, gtsCons, gtsNil, pNot, pOr, pAnd, pVal, pTru, pNeg, pNotV, pAndV, pOrV, pIfE, pDisp, allInl, pCut, pNoPt, pPt, pSeqSrc, pEnum, enSrc, pRng1, rOf1, pRng2, rOf2, owAt, pApp, pPopAt, pPop, pClear, pLc, pLcV, pYes, noOw, wipeE, restE, rst, pRaise, resL, pCall, argsOf, argO, refIx, wbC, wb, wb1, outsOf, outP, List.getElem?_cons_zero, List.getElem?_cons_succ, List.getElem?_nil, List.set_cons_zero, List.set_cons_succ, List.length_cons, List.length_nil, List.cons_append, List.nil_append, List.append_nil, List.drop_succ_cons, List.drop_zero, List.drop_nil, List.replicate_zero, List.replicate_succ, List.getD_cons_zero, List.getD_cons_succ, Nat.reduceSub, Nat.reduceAdd, Nat.sub_self, if_true, if_false, Bool.false_eq_true, q_frz1, q_frz2, q_stR1, q_stR2, q_free1, q_free2, q_free3, q_isN1, q_isN2, q_fIsN, q_fCI, q_fI, q_fI0, q_add1, q_add2, q_add3, q_mul1, q_mul2, q_isBl, q_isInt, q_seq1, q_seq2, q_seq3, q_len1, q_len2, q_len3, q_int1, q_abs, q_two, q_list1, q_list2, q_tuple1, q_tuple2, q_tru1, q_tru2, q_rs1, q_rs2, q_cut1, q_cut2, q_cut3, q_gtT, f4, f5, f6]
      have b4 : v4 < 4 := h41
      refine ⟨by decide, ⟨by omega, by omega⟩, ?_⟩
      have hlen : (rngD 0 ((v4 + 3) % 4).toNat).length ≤ 4 := by simp [rngD]; omega
      refine forGo_inv (fun j e => ∃ (ns' : List Int) (ps : List Int) (o6 : PW.O), e = [.ow true (ns'.map .int), .ow false ((N.map nZ).map I1), .fz (.int (k : Int)), .fz (.int (n : Int)), .fz (.int (i : Int)), .ow false (ps.map .int), o6, .un, .un] ∧ PoolOk ns' ∧ ps.length = j ∧ freeO o6) (fun _ _ _ _ => trivial) ?_ ?_ ⟨ns4, [], o6, rfl, hp4, rfl, f6⟩
      · rintro j dd e Rk' hdd ⟨ns', ps, o6, rfl, hp', hps, f6⟩ hRk'
        have hj := (List.getElem?_eq_some_iff.mp hdd).1
        obtain ⟨w, rfl⟩ : ∃ w : Int, dd = .int w := by
          simp only [rngD, List.getElem?_map] at hdd
          obtain ⟨w, _, h⟩ := Option.map_eq_some_iff.mp hdd
          exact ⟨_, h.symm⟩
        simp only [pSeq, Option.map_some, Option.map_none, pNext, pIf, pAsg, pRet, pRetN, pDrop, pFor, pForV, pAsgG, pAug, pSetIx, pBrk, pCnt, pFz, pFr, pIn, pVar, pArg, pMv, pC, pCons, pNil, p2, pB, pBl, pCB, ress, res, rv_non, rv_bl, rv_int, rv_str, rv_ty, rv_lst, rv_tup, rv_rls, rv_xr, rv_nc, noCe, stO, true_and, and_true, Bool.not_false, Bool.not_true, rv_oD, isNon_oD, gtN, gtsCons, gtsNil, pNot, pOr, pAnd, pVal, pTru, pNeg, pNotV, pAndV, pOrV, pIfE, pDisp, allInl, pCut, pNoPt, pPt, pSeqSrc, pEnum, enSrc, pRng1, rOf1, pRng2, rOf2, owAt, pApp, pPopAt, pPop, pClear, pLc, pLcV, pYes, noOw, wipeE, restE, rst, pRaise, resL, pCall, argsOf, argO, refIx, wbC, wb, wb1, outsOf, outP, List.getElem?_cons_zero, List.getElem?_cons_succ, List.getElem?_nil, List.set_cons_zero, List.set_cons_succ, List.length_cons, List.length_nil, List.cons_append, List.nil_append, List.append_nil, List.drop_succ_cons, List.drop_zero, List.drop_nil, List.replicate_zero, List.replicate_succ, List.getD_cons_zero, List.getD_cons_succ, Nat.reduceSub, Nat.reduceAdd, Nat.sub_self, if_true, if_false, Bool.false_eq_true, q_frz1, q_frz2, q_stR1, q_stR2, q_free1, q_free2, q_free3, q_isN1, q_isN2, q_fIsN, q_fCI, q_fI, q_fI0, q_add1, q_add2, q_add3, q_mul1, q_mul2, q_isBl, q_isInt, q_seq1, q_seq2, q_seq3, q_len1, q_len2, q_len3, q_int1, q_abs, q_two, q_list1, q_list2, q_tuple1, q_tuple2, q_tru1, q_tru2, q_rs1, q_rs2, q_cut1, q_cut2, q_cut3, q_gtT, f6]
        refine ⟨.inr (.inl ⟨by decide, by decide⟩), .inr (.inl ⟨by decide, by decide⟩), ?_⟩
        refine callGo_mk _ (⟨ns', 40, divOk (by decide) (by decide), hp'⟩ : ADr) rfl (by simp [refIx]) rfl ?_ (fun _ _ h => h.elim)
        rintro r o ⟨v5, ns5, h50, h51, hp5, rfl, rfl⟩
        simp only [pSeq, Option.map_some, Option.map_none, pNext, pIf, pAsg, pRet, pRetN, pDrop, pFor, pForV, pAsgG, pAug, pSetIx, pBrk, pCnt, pFz, pFr, pIn, pVar, pArg, pMv, pC, pCons, pNil, p2, pB, pBl, pCB, ress, res, rv_non, rv_bl, rv_int, rv_str, rv_ty, rv_lst, rv_tup, rv_rls, rv_xr, rv_nc, noCe, stO, true_and, and_true, Bool.not_false, Bool.not_true, rv_oD, isNon_oD, gtN, gtsCons, gtsNil, pNot, pOr, pAnd, pVal, pTru, pNeg, pNotV, pAndV, pOrV, pIfE, pDisp, allInl, pCut, pNoPt, pPt, pSeqSrc, pEnum, enSrc, pRng1, rOf1, pRng2, rOf2, owAt, pApp, pPopAt, pPop, pClear, pLc, pLcV, pYes, noOw, wipeE, restE, rst, pRaise, resL, pCall, argsOf, argO, refIx, wbC, wb, wb1, outsOf, outP, List.getElem?_cons_zero, List.getElem?_cons_succ, List.getElem?_nil, List.set_cons_zero, List.set_cons_succ, List.length_cons, List.length_nil, List.cons_append, List.nil_append, List.append_nil, List.drop_succ_cons, List.drop_zero, List.drop_nil, List.replicate_zero, List.replicate_succ, List.getD_cons_zero, List.getD_cons_succ, Nat.reduceSub, Nat.reduceAdd, Nat.sub_self, if_true, if_false, Bool.false_eq_true, q_frz1, q_frz2, q_stR1, q_stR2, q_free1, q_free2, q_free3, q_isN1, q_isN2, q_fIsN, q_fCI, q_fI, q_fI0, q_add1, q_add2, q_add3, q_mul1, q_mul2, q_isBl, q_isInt, q_seq1, q_seq2, q_seq3, q_len1, q_len2, q_len3, q_int1, q_abs, q_two, q_list1, q_list2, q_tuple1, q_tuple2, q_tru1, q_tru2, q_rs1, q_rs2, q_cut1, q_cut2, q_cut3, q_gtT]
        refine ⟨by omega, by simp [sizeLine_eq]; omega, hRk' _ ⟨ns5, ps ++ [_], .fz (.int w), by rw [List.map_append]; rfl, hp5, by simp [hps], trivial⟩⟩
      · rintro e ⟨ns', ps, o6, rfl, hp', hps, f6⟩
        simp only [pSeq, Option.map_some, Option.map_none, pNext, pIf, pAsg, pRet, pRetN, pDrop, pFor, pForV, pAsgG, pAug, pSetIx, pBrk, pCnt, pFz, pFr, pIn, pVar, pArg, pMv, pC, pCons, pNil, p2, pB, pBl, pCB, ress, res, rv_non, rv_bl, rv_int, rv_str, rv_ty, rv_lst, rv_tup, rv_rls, rv_xr, rv_nc, noCe, stO, true_and, and_true, Bool.not_false, Bool.not_true, rv_oD, isNon_oD, gtN, gtsCons, gtsNil, pNot, pOr, pAnd, pVal, pTru, pNeg, pNotV, pAndV, pOrV, pIfE, pDisp, allInl, pCut, pNoPt, pPt, pSeqSrc, pEnum, enSrc, pRng1, rOf1, pRng2, rOf2, owAt, pApp, pPopAt, pPop, pClear, pLc, pLcV, pYes, noOw, wipeE, restE, rst, pRaise, resL, pCall, argsOf, argO, refIx, wbC, wb, wb1, outsOf, outP, List.getElem?_cons_zero, List.getElem?_cons_succ, List.getElem?_nil, List.set_cons_zero, List.set_cons_succ, List.length_cons, List.length_nil, List.cons_append, List.nil_append, List.append_nil, List.drop_succ_cons, List.drop_zero, List.drop_nil, List.replicate_zero, List.replicate_succ, List.getD_cons_zero, List.getD_cons_succ, Nat.reduceSub, Nat.reduceAdd, Nat.sub_self, if_true, if_false, Bool.false_eq_true, q_frz1, q_frz2, q_stR1, q_stR2, q_free1, q_free2, q_free3, q_isN1, q_isN2, q_fIsN, q_fCI, q_fI, q_fI0, q_add1, q_add2, q_add3, q_mul1, q_mul2, q_isBl, q_isInt, q_seq1, q_seq2, q_seq3, q_len1, q_len2, q_len3, q_int1, q_abs, q_two, q_list1, q_list2, q_tuple1, q_tuple2, q_tru1, q_tru2, q_rs1, q_rs2, q_cut1, q_cut2, q_cut3, q_gtT, f6]
        refine ⟨⟨by omega, by omega⟩, by intro j hj; simp at hj; subst hj; trivial, ?_⟩
        rw [en, hrng]
        refine lcGo_filter (List.range n) (fun (c : Nat) => .int (c : Int)) (fun (c : Nat) => decide ((c : Int) ∈ ps)) (fun (c : Nat) => .int (c : Int)) (by simp [sizeLine_eq]; omega) trivial ?_ ?_ rfl
        · intro x hx acc Rk hacc k1 k2
          simp only [pSeq, Option.map_some, Option.map_none, pNext, pIf, pAsg, pRet, pRetN, pDrop, pFor, pForV, pAsgG, pAug, pSetIx, pBrk, pCnt, pFz, pFr, pIn, pVar, pArg, pMv, pC, pCons, pNil, p2, pB, pBl, pCB, ress, res, rv_non, rv_bl, rv_int, rv_str, rv_ty, rv_lst, rv_tup, rv_rls, rv_xr, rv_nc, noCe, stO, true_and, and_true, Bool.not_false, Bool.not_true, rv_oD, isNon_oD, gtN, gtsCons, gtsNil, pNot, pOr, pAnd, pVal, pTru, pNeg, pNotV, pAndV, pOrV, pIfE, pDisp, allInl, pCut, pNoPt, pPt, pSeqSrc, pEnum, enSrc, pRng1, rOf1, pRng2, rOf2, owAt, pApp, pPopAt, pPop, pClear, pLc, pLcV, pYes, noOw, wipeE, restE, rst, pRaise, resL, pCall, argsOf, argO, refIx, wbC, wb, wb1, outsOf, outP, List.getElem?_cons_zero, List.getElem?_cons_succ, List.getElem?_nil, List.set_cons_zero, List.set_cons_succ, List.length_cons, List.length_nil, List.cons_append, List.nil_append, List.append_nil, List.drop_succ_cons, List.drop_zero, List.drop_nil, List.replicate_zero, List.replicate_succ, List.getD_cons_zero, List.getD_cons_succ, Nat.reduceSub, Nat.reduceAdd, Nat.sub_self, if_true, if_false, Bool.false_eq_true, q_frz1, q_frz2, q_stR1, q_stR2, q_free1, q_free2, q_free3, q_isN1, q_isN2, q_fIsN, q_fCI, q_fI, q_fI0, q_add1, q_add2, q_add3, q_mul1, q_mul2, q_isBl, q_isInt, q_seq1, q_seq2, q_seq3, q_len1, q_len2, q_len3, q_int1, q_abs, q_two, q_list1, q_list2, q_tuple1, q_tuple2, q_tru1, q_tru2, q_rs1, q_rs2, q_cut1, q_cut2, q_cut3, q_gtT]
          rw [fIn_int (l := ps) rfl]
          simp only [Bool.false_eq_true, if_false]
          by_cases z : (x : Int) ∈ ps
          · simp only [z, decide_true, if_true, pSeq, Option.map_some, Option.map_none, pNext, pIf, pAsg, pRet, pRetN, pDrop, pFor, pForV, pAsgG, pAug, pSetIx, pBrk, pCnt, pFz, pFr, pIn, pVar, pArg, pMv, pC, pCons, pNil, p2, pB, pBl, pCB, ress, res, rv_non, rv_bl, rv_int, rv_str, rv_ty, rv_lst, rv_tup, rv_rls, rv_xr, rv_nc, noCe, stO, true_and, and_true, Bool.not_false, Bool.not_true, rv_oD, isNon_oD, gtN, gtsCons, gtsNil, pNot, pOr, pAnd, pVal, pTru, pNeg, pNotV, pAndV, pOrV, pIfE, pDisp, allInl, pCut, pNoPt, pPt, pSeqSrc, pEnum, enSrc, pRng1, rOf1, pRng2, rOf2, owAt, pApp, pPopAt, pPop, pClear, pLc, pLcV, pYes, noOw, wipeE, restE, rst, pRaise, resL, pCall, argsOf, argO, refIx, wbC, wb, wb1, outsOf, outP, List.getElem?_cons_zero, List.getElem?_cons_succ, List.getElem?_nil, List.set_cons_zero, List.set_cons_succ, List.length_cons, List.length_nil, List.cons_append, List.nil_append, List.append_nil, List.drop_succ_cons, List.drop_zero, List.drop_nil, List.replicate_zero, List.replicate_succ, List.getD_cons_zero, List.getD_cons_succ, Nat.reduceSub, Nat.reduceAdd, Nat.sub_self, if_true, if_false, Bool.false_eq_true, q_frz1, q_frz2, q_stR1, q_stR2, q_free1, q_free2, q_free3, q_isN1, q_isN2, q_fIsN, q_fCI, q_fI, q_fI0, q_add1, q_add2, q_add3, q_mul1, q_mul2, q_isBl, q_isInt, q_seq1, q_seq2, q_seq3, q_len1, q_len2, q_len3, q_int1, q_abs, q_two, q_list1, q_list2, q_tuple1, q_tuple2, q_tru1, q_tru2, q_rs1, q_rs2, q_cut1, q_cut2, q_cut3, q_gtT]
            exact ⟨hacc, by intro j hj; simp at hj; subst hj; trivial, k1 (by simpa using z)⟩
          · simp only [z, decide_false, Bool.false_eq_true, if_false, pSeq, Option.map_some, Option.map_none, pNext, pIf, pAsg, pRet, pRetN, pDrop, pFor, pForV, pAsgG, pAug, pSetIx, pBrk, pCnt, pFz, pFr, pIn, pVar, pArg, pMv, pC, pCons, pNil, p2, pB, pBl, pCB, ress, res, rv_non, rv_bl, rv_int, rv_str, rv_ty, rv_lst, rv_tup, rv_rls, rv_xr, rv_nc, noCe, stO, true_and, and_true, Bool.not_false, Bool.not_true, rv_oD, isNon_oD, gtN, gtsCons, gtsNil, pNot, pOr, pAnd, pVal, pTru, pNeg, pNotV, pAndV, pOrV, pIfE, pDisp, allInl, pCut, pNoPt, pPt, pSeqSrc, pEnum, enSrc, pRng1, rOf1, pRng2, rOf2, owAt, pApp, pPopAt, pPop, pClear, pLc, pLcV, pYes, noOw, wipeE, restE, rst, pRaise, resL, pCall, argsOf, argO, refIx, wbC, wb, wb1, outsOf, outP, List.getElem?_cons_zero, List.getElem?_cons_succ, List.getElem?_nil, List.set_cons_zero, List.set_cons_succ, List.length_cons, List.length_nil, List.cons_append, List.nil_append, List.append_nil, List.drop_succ_cons, List.drop_zero, List.drop_nil, List.replicate_zero, List.replicate_succ, List.getD_cons_zero, List.getD_cons_succ, Nat.reduceSub, Nat.reduceAdd, Nat.sub_self, if_true, if_false, Bool.false_eq_true, q_frz1, q_frz2, q_stR1, q_stR2, q_free1, q_free2, q_free3, q_isN1, q_isN2, q_fIsN, q_fCI, q_fI, q_fI0, q_add1, q_add2, q_add3, q_mul1, q_mul2, q_isBl, q_isInt, q_seq1, q_seq2, q_seq3, q_len1, q_len2, q_len3, q_int1, q_abs, q_two, q_list1, q_list2, q_tuple1, q_tuple2, q_tru1, q_tru2, q_rs1, q_rs2, q_cut1, q_cut2, q_cut3, q_gtT]
            exact ⟨by intro j hj; simp at hj; subst hj; trivial, k2 (by simpa using z)⟩
        simp only [pSeq, Option.map_some, Option.map_none, pNext, pIf, pAsg, pRet, pRetN, pDrop, pFor, pForV, pAsgG, pAug, pSetIx, pBrk, pCnt, pFz, pFr, pIn, pVar, pArg, pMv, pC, pCons, pNil, p2, pB, pBl, pCB, ress, res, rv_non, rv_bl, rv_int, rv_str, rv_ty, rv_lst, rv_tup, rv_rls, rv_xr, rv_nc, noCe, stO, true_and, and_true, Bool.not_false, Bool.not_true, rv_oD, isNon_oD, gtN, gtsCons, gtsNil, pNot, pOr, pAnd, pVal, pTru, pNeg, pNotV, pAndV, pOrV, pIfE, pDisp, allInl, pCut, pNoPt, pPt, pSeqSrc, pEnum, enSrc, pRng1, rOf1, pRng2, rOf2, owAt, pApp, pPopAt, pPop, pClear, pLc, pLcV, pYes, noOw, wipeE, restE, rst, pRaise, resL, pCall, argsOf, argO, refIx, wbC, wb, wb1, outsOf, outP, List.getElem?_cons_zero, List.getElem?_cons_succ, List.getElem?_nil, List.set_cons_zero, List.set_cons_succ, List.length_cons, List.length_nil, List.cons_append, List.nil_append, List.append_nil, List.drop_succ_cons, List.drop_zero, List.drop_nil, List.replicate_zero, List.replicate_succ, List.getD_cons_zero, List.getD_cons_succ, Nat.reduceSub, Nat.reduceAdd, Nat.sub_self, if_true, if_false, Bool.false_eq_true, q_frz1, q_frz2, q_stR1, q_stR2, q_free1, q_free2, q_free3, q_isN1, q_isN2, q_fIsN, q_fCI, q_fI, q_fI0, q_add1, q_add2, q_add3, q_mul1, q_mul2, q_isBl, q_isInt, q_seq1, q_seq2, q_seq3, q_len1, q_len2, q_len3, q_int1, q_abs, q_two, q_list1, q_list2, q_tuple1, q_tuple2, q_tru1, q_tru2, q_rs1, q_rs2, q_cut1, q_cut2, q_cut3, q_gtT]
        refine ⟨by simp [sizeLine_eq]; omega, hRk _ ⟨ns', N ++ [(List.range n).filter fun (c : Nat) => decide ((c : Int) ∈ ps)], .fz (.int (i : Int)), .ow false (ps.map .int), o6, ?_, hp', by simp [hN], hRw.add _, trivial, by rw [q_free3]; trivial, f6⟩⟩
        rw [List.map_append, List.map_append]
        simp only [List.map_cons, List.map_nil, I1_nZ]
    · rintro e ⟨ns', N, o4, o5, o6, rfl, hp', hN, hRw, f4, f5, f6⟩
      simp only [pSeq, Option.map_some, Option.map_none, pNext, pIf, pAsg, pRet, pRetN, pDrop, pFor, pForV, pAsgG, pAug, pSetIx, pBrk, pCnt, pFz, pFr, pIn, pVar, pArg, pMv, pC, pCons, pNil, p2, pB, pBl, pCB, ress, res, rv_non, rv_bl, rv_int, rv_str, rv_ty, rv_lst, rv_tup, rv_rls, rv_xr, rv_nc, noCe, stO, true_and, and_true, Bool.not_false, Bool.not_true, rv_oD, isNon_oD, gtN, gtsCons, gtsNil, pNot, pOr, pAnd, pVal, pTru, pNeg, pNotV, pAndV, pOrV, pIfE, pDisp, allInl, pCut, pNoPt, pPt, pSeqSrc, pEnum, enSrc, pRng1, rOf1, pRng2, rOf2, owAt, pApp, pPopAt, pPop, pClear, pLc, pLcV, pYes, noOw, wipeE, restE, rst, pRaise, resL, pCall, argsOf, argO, refIx, wbC, wb, wb1, outsOf, outP, List.getElem?_cons_zero, List.getElem?_cons_succ, List.getElem?_nil, List.set_cons_zero, List.set_cons_succ, List.length_cons, List.length_nil, List.cons_append, List.nil_append, List.append_nil, List.drop_succ_cons, List.drop_zero, List.drop_nil, List.replicate_zero, List.replicate_succ, List.getD_cons_zero, List.getD_cons_succ, Nat.reduceSub, Nat.reduceAdd, Nat.sub_self, if_true, if_false, Bool.false_eq_true, q_frz1, q_frz2, q_stR1, q_stR2, q_free1, q_free2, q_free3, q_isN1, q_isN2, q_fIsN, q_fCI, q_fI, q_fI0, q_add1, q_add2, q_add3, q_mul1, q_mul2, q_isBl, q_isInt, q_seq1, q_seq2, q_seq3, q_len1, q_len2, q_len3, q_int1, q_abs, q_two, q_list1, q_list2, q_tuple1, q_tuple2, q_tru1, q_tru2, q_rs1, q_rs2, q_cut1, q_cut2, q_cut3, q_gtT, pVarC]
      intro a
      have hl : (rngD 0 k).length = k := by simp [rngD]
      refine ⟨by simp [sizeLine_eq], q N n ns' a _ _ _ _ _ _ _ _ hp' (by omega) (by omega) hRw (fun _ h => nomatch h)⟩
  · refine callGo_mk _ (⟨ns1, 8, divOk (by decide) (by decide), hp1⟩ : ADr) rfl (by simp [refIx]) rfl ?_ (fun _ _ h => h.elim)
    rintro r o ⟨v2, ns2, h20, h21, hp2, rfl, rfl⟩
    simp only [pSeq, Option.map_some, Option.map_none, pNext, pIf, pAsg, pRet, pRetN, pDrop, pFor, pForV, pAsgG, pAug, pSetIx, pBrk, pCnt, pFz, pFr, pIn, pVar, pArg, pMv, pC, pCons, pNil, p2, pB, pBl, pCB, ress, res, rv_non, rv_bl, rv_int, rv_str, rv_ty, rv_lst, rv_tup, rv_rls, rv_xr, rv_nc, noCe, stO, true_and, and_true, Bool.not_false, Bool.not_true, rv_oD, isNon_oD, gtN, gtsCons, gtsNil, pNot, pOr, pAnd, pVal, pTru, pNeg, pNotV, pAndV, pOrV, pIfE, pDisp, allInl, pCut, pNoPt, pPt, pSeqSrc, pEnum, enSrc, pRng1, rOf1, pRng2, rOf2, owAt, pApp, pPopAt, pPop, pClear, pLc, pLcV, pYes, noOw, wipeE, restE, rst, pRaise, resL, pCall, argsOf, argO, refIx, wbC, wb, wb1, outsOf, outP, List.getElem?_cons_zero, List.getElem?_cons_succ, List.getElem?_nil, List.set_cons_zero, List.set_cons_succ, List.length_cons, List.length_nil, List.cons_append, List.nil_append, List.append_nil, List.drop_succ_cons, List.drop_zero, List.drop_nil, List.replicate_zero, List.replicate_succ, List.getD_cons_zero, List.getD_cons_succ, Nat.reduceSub, Nat.reduceAdd, Nat.sub_self, if_true, if_false, Bool.false_eq_true, q_frz1, q_frz2, q_stR1, q_stR2, q_free1, q_free2, q_free3, q_isN1, q_isN2, q_fIsN, q_fCI, q_fI, q_fI0, q_add1, q_add2, q_add3, q_mul1, q_mul2, q_isBl, q_isInt, q_seq1, q_seq2, q_seq3, q_len1, q_len2, q_len3, q_int1, q_abs, q_two, q_list1, q_list2, q_tuple1, q_tuple2, q_tru1, q_tru2, q_rs1, q_rs2, q_cut1, q_cut2, q_cut3, q_gtT]
    refine ⟨by decide, ?_⟩
    refine callGo_mk _ (⟨ns2, 8, divOk (by decide) (by decide), hp2⟩ : ADr) rfl (by simp [refIx]) rfl ?_ (fun _ _ h => h.elim)
    rintro r o ⟨v3, ns3, h30, h31, hp3, rfl, rfl⟩
    simp only [pSeq, Option.map_some, Option.map_none, pNext, pIf, pAsg, pRet, pRetN, pDrop, pFor, pForV, pAsgG, pAug, pSetIx, pBrk, pCnt, pFz, pFr, pIn, pVar, pArg, pMv, pC, pCons, pNil, p2, pB, pBl, pCB, ress, res, rv_non, rv_bl, rv_int, rv_str, rv_ty, rv_lst, rv_tup, rv_rls, rv_xr, rv_nc, noCe, stO, true_and, and_true, Bool.not_false, Bool.not_true, rv_oD, isNon_oD, gtN, gtsCons, gtsNil, pNot, pOr, pAnd, pVal, pTru, pNeg, pNotV, pAndV, pOrV, pIfE, pDisp, allInl, pCut, pNoPt, pPt, pSeqSrc, pEnum, enSrc, pRng1, rOf1, pRng2, rOf2, owAt, pApp, pPopAt, pPop, pClear, pLc, pLcV, pYes, noOw, wipeE, restE, rst, pRaise, resL, pCall, argsOf, argO, refIx, wbC, wb, wb1, outsOf, outP, List.getElem?_cons_zero, List.getElem?_cons_succ, List.getElem?_nil, List.set_cons_zero, List.set_cons_succ, List.length_cons, List.length_nil, List.cons_append, List.nil_append, List.append_nil, List.drop_succ_cons, List.drop_zero, List.drop_nil, List.replicate_zero, List.replicate_succ, List.getD_cons_zero, List.getD_cons_succ, Nat.reduceSub, Nat.reduceAdd, Nat.sub_self, if_true, if_false, Bool.false_eq_true, q_frz1, q_frz2, q_stR1, q_stR2, q_free1, q_free2, q_free3, q_isN1, q_isN2, q_fIsN, q_fCI, q_fI, q_fI0, q_add1, q_add2, q_add3, q_mul1, q_mul2, q_isBl, q_isInt, q_seq1, q_seq2, q_seq3, q_len1, q_len2, q_len3, q_int1, q_abs, q_two, q_list1, q_list2, q_tuple1, q_tuple2, q_tru1, q_tru2, q_rs1, q_rs2, q_cut1, q_cut2, q_cut3, q_gtT]
    have b2 : v2 < 8 := h21
    have b3 : v3 < 8 := h31
    obtain ⟨k, hk, hk1⟩ : ∃ k : Nat, (v2 + 5) % 8 = (k : Int) ∧ k ≤ 7 := ⟨((v2 + 5) % 8).toNat, by omega, by omega⟩
    obtain ⟨n, hn, hn1⟩ : ∃ n : Nat, (v3 + 4) % 8 = (n : Int) ∧ n ≤ 7 := ⟨((v3 + 4) % 8).toNat, by omega, by omega⟩
    rw [hk, hn]
    have ek : ((k : Nat) : Int).toNat = k := by simp
    have en : ((n : Nat) : Int).toNat = n := by simp
    refine ⟨by decide, ⟨by omega, by omega⟩, ?_⟩
    rw [ek]
    refine forGo_inv (fun i e => ∃ (ns' : List Int) (N : List (List Nat)) (o4 o8 : PW.O), e = [.ow true (ns'.map .int), .ow false ((N.map nZ).map I1), .fz (.int (k : Int)), .fz (.int (n : Int)), o4, .un, .un, .un, o8] ∧ PoolOk ns' ∧ N.length = i ∧ Rws n N ∧ freeO o4 ∧ freeO o8) (fun _ _ _ _ => trivial) ?_ ?_ ⟨ns3, [], .un, .un, rfl, hp3, rfl, fun row h => (nomatch h), trivial, trivial⟩
    · rintro i dd e Rk hdd ⟨ns', N, o4, o8, rfl, hp', hN, hRw, f4, f8⟩ hRk
      have hi : i < k := by
        have := (List.getElem?_eq_some_iff.mp hdd).1
        simpa [rngD] using this
      have hdd' : dd = .int (i : Int) := by
        simp [rngD, List.getElem?_map, List.getElem?_range hi] at hdd
        exact hdd.symm
      subst hdd'
      have hpw : (0 : Int) < 2 ^ n ∧ (2 : Int) ^ n ≤ 128 := by
        have h1 : (2 : Nat) ^ n ≤ 2 ^ 7 := Nat.pow_le_pow_right (by decide) hn1
        have h2 : 0 < (2 : Nat) ^ n := Nat.pow_pos (by decide)
        have h3 : ((2 ^ n : Nat) : Int) = (2 : Int) ^ n := by simp
        rw [← h3]
        omega
      have hcp : CPow 1 (n : Int) := ⟨by omega, by omega⟩
      simp only [pSeq, Option.map_some, Option.map_none, pNext, pIf, pAsg, pRet, pRetN, pDrop, pFor, pForV, pAsgG, pAug, pSetIx, pBrk, pCnt, pFz, pFr, pIn, pVar, pArg, pMv, pC, pCons, pNil, p2, pB, pBl, pCB, ress, res, rv_non, rv_bl, rv_int, rv_str, rv_ty, rv_lst, rv_tup, rv_rls, rv_xr, rv_nc, noCe, stO, true_and, and_true, Bool.not_false, Bool.not_true, rv_oD, isNon_oD, gtN, gtsCons, gtsNil, pNot, pOr, pAnd, pVal, pTru, pNeg, pNotV, pAndV, pOrV, pIfE, pDisp, allInl, pCut, pNoPt, pPt, pSeqSrc, pEnum, enSrc, pRng1, rOf1, pRng2, rOf2, owAt, pApp, pPopAt, pPop, pClear, pLc, pLcV, pYes, noOw, wipeE, restE, rst, pRaise, resL, pCall, argsOf, argO, refIx, wbC, wb, wb1, outsOf, outP, List.getElem?_cons_zero, List.getElem?_cons_succ, List.getElem?_nil, List.set_cons_zero, List.set_cons_succ, List.length_cons, List.length_nil, List.cons_append, List.nil_append, List.append_nil, List.drop_succ_cons, List.drop_zero, List.drop_nil, List.replicate_zero, List.replicate_succ, List.getD_cons_zero, List.getD_cons_succ, Nat.reduceSub, Nat.reduceAdd, Nat.sub_self, if_true, if_false, Bool.false_eq_true, q_frz1, q_frz2, q_stR1, q_stR2, q_free1, q_free2, q_free3, q_isN1, q_isN2, q_fIsN, q_fCI, q_fI, q_fI0, q_add1, q_add2, q_add3, q_mul1, q_mul2, q_isBl, q_isInt, q_seq1, q_seq2, q_seq3, q_len1, q_len2, q_len3, q_int1, q_abs, q_two, q_list1, q_list2, q_tuple1, q_tuple2, q_tru1, q_tru2, q_rs1, q_rs2, q_cut1, q_cut2, q_cut3, q_gtT, f4, f8, en, Int.one_mul]
      refine ⟨hcp, ?_⟩
      refine callGo_mk _ (⟨ns', 2 ^ n, divOk hpw.1 (by omega), hp'⟩ : ADr) rfl (by simp [refIx]) rfl ?_ (fun _ _ h => h.elim)
      rintro r o ⟨v4, ns4, h40, h41, hp4, rfl, rfl⟩
      simp only [pSeq, Option.map_some, Option.map_none, pNext, pIf, pAsg, pRet, pRetN, pDrop, pFor, pForV, pAsgG, pAug, pSetIx, pBrk, pCnt, pFz, pFr, pIn, pVar, pArg, pMv, pC, pCons, pNil, p2, pB, pBl, pCB, ress, res, rv_non, rv_bl, rv_int, rv_str, rv_ty, rv_lst, rv_tup, rv_rls, rv_xr, rv_nc, noCe, stO, true_and, and_true, Bool.not_false, Bool.not_true, rv_oD, isNon_oD, gtN, gtsCons, gtsNil, pNot, pOr, pAnd, pVal, pTru, pNeg, pNotV, pAndV, pOrV, pIfE, pDisp, allInl, pCut, pNoPt, pPt, pSeqSrc, pEnum, enSrc, pRng1, rOf1, pRng2, rOf2, owAt, pApp, pPopAt, pPop, pClear, pLc, pLcV, pYes, noOw, wipeE, restE, rst, pRaise, resL, pCall, argsOf, argO, refIx, wbC, wb, wb1, outsOf, outP, List.getElem?_cons_zero, List.getElem?_cons_succ, List.getElem?_nil, List.set_cons_zero, List.set_cons_succ, List.length_cons, List.length_nil, List.cons_append, List.nil_append, List.append_nil, List.drop_succ_cons, List.drop_zero, List.drop_nil, List.replicate_zero, List.replicate_succ, List.getD_cons_zero, List.getD_cons_succ, Nat.reduceSub, Nat.reduceAdd, Nat.sub_self, if_true, if_false, Bool.false_eq_true, q_frz1, q_frz2, q_stR1, q_stR2, q_free1, q_free2, q_free3, q_isN1, q_isN2, q_fIsN, q_fCI, q_fI, q_fI0, q_add1, q_add2, q_add3, q_mul1, q_mul2, q_isBl, q_isInt, q_seq1, q_seq2, q_seq3, q_len1, q_len2, q_len3, q_int1, q_abs, q_two, q_list1, q_list2, q_tuple1, q_tuple2, q_tru1, q_tru2, q_rs1, q_rs2, q_cut1, q_cut2, q_cut3, q_gtT, f4, f8, en, Int.one_mul]
      refine ⟨.inr (.inl ⟨by decide, by decide⟩), hcp, hpw.1, ⟨by omega, by omega⟩, by intro j hj; simp at hj; subst hj; trivial, ?_⟩
      generalize (v4 + 5 + 6 * (i : Int)) % 2 ^ n = mask
      rw [hrng]
      refine lcGo_filter (List.range n) (fun (c : Nat) => .int (c : Int)) (fun (c : Nat) => Builtin.bitAnd (mask / 2 ^ c) 1 != 0) (fun (c : Nat) => .int (c : Int)) (by simp [sizeLine_eq]; omega) trivial ?_ ?_ rfl
      · intro x hx acc Rk hacc k1 k2
        have ex : ((x : Nat) : Int).toNat = x := by simp
        simp only [pSeq, Option.map_some, Option.map_none, pNext, pIf, pAsg, pRet, pRetN, pDrop, pFor, pForV, pAsgG, pAug, pSetIx, pBrk, pCnt, pFz, pFr, pIn, pVar, pArg, pMv, pC, pCons, pNil, p2, pB, pBl, pCB, ress, res, rv_non, rv_bl, rv_int, rv_str, rv_ty, rv_lst, rv_tup, rv_rls, rv_xr, rv_nc, noCe, stO, true_and, and_true, Bool.not_false, Bool.not_true, rv_oD, isNon_oD, gtN, gtsCons, gtsNil, pNot, pOr, pAnd, pVal, pTru, pNeg, pNotV, pAndV, pOrV, pIfE, pDisp, allInl, pCut, pNoPt, pPt, pSeqSrc, pEnum, enSrc, pRng1, rOf1, pRng2, rOf2, owAt, pApp, pPopAt, pPop, pClear, pLc, pLcV, pYes, noOw, wipeE, restE, rst, pRaise, resL, pCall, argsOf, argO, refIx, wbC, wb, wb1, outsOf, outP, List.getElem?_cons_zero, List.getElem?_cons_succ, List.getElem?_nil, List.set_cons_zero, List.set_cons_succ, List.length_cons, List.length_nil, List.cons_append, List.nil_append, List.append_nil, List.drop_succ_cons, List.drop_zero, List.drop_nil, List.replicate_zero, List.replicate_succ, List.getD_cons_zero, List.getD_cons_succ, Nat.reduceSub, Nat.reduceAdd, Nat.sub_self, if_true, if_false, Bool.false_eq_true, q_frz1, q_frz2, q_stR1, q_stR2, q_free1, q_free2, q_free3, q_isN1, q_isN2, q_fIsN, q_fCI, q_fI, q_fI0, q_add1, q_add2, q_add3, q_mul1, q_mul2, q_isBl, q_isInt, q_seq1, q_seq2, q_seq3, q_len1, q_len2, q_len3, q_int1, q_abs, q_two, q_list1, q_list2, q_tuple1, q_tuple2, q_tru1, q_tru2, q_rs1, q_rs2, q_cut1, q_cut2, q_cut3, q_gtT, ex]
        refine ⟨by omega, ?_⟩
        cases z : (Builtin.bitAnd (mask / 2 ^ x) 1 != 0)
        · rw [if_neg (by simp)]
          exact ⟨by intro j hj; simp at hj; subst hj; trivial, k2 z⟩
        · rw [if_pos rfl]
          exact ⟨hacc, by intro j hj; simp at hj; subst hj; trivial, k1 z⟩
      simp only [pSeq, Option.map_some, Option.map_none, pNext, pIf, pAsg, pRet, pRetN, pDrop, pFor, pForV, pAsgG, pAug, pSetIx, pBrk, pCnt, pFz, pFr, pIn, pVar, pArg, pMv, pC, pCons, pNil, p2, pB, pBl, pCB, ress, res, rv_non, rv_bl, rv_int, rv_str, rv_ty, rv_lst, rv_tup, rv_rls, rv_xr, rv_nc, noCe, stO, true_and, and_true, Bool.not_false, Bool.not_true, rv_oD, isNon_oD, gtN, gtsCons, gtsNil, pNot, pOr, pAnd, pVal, pTru, pNeg, pNotV, pAndV, pOrV, pIfE, pDisp, allInl, pCut, pNoPt, pPt, pSeqSrc, pEnum, enSrc, pRng1, rOf1, pRng2, rOf2, owAt, pApp, pPopAt, pPop, pClear, pLc, pLcV, pYes, noOw, wipeE, restE, rst, pRaise, resL, pCall, argsOf, argO, refIx, wbC, wb, wb1, outsOf, outP, List.getElem?_cons_zero, List.getElem?_cons_succ, List.getElem?_nil, List.set_cons_zero, List.set_cons_succ, List.length_cons, List.length_nil, List.cons_append, List.nil_append, List.append_nil, List.drop_succ_cons, List.drop_zero, List.drop_nil, List.replicate_zero, List.replicate_succ, List.getD_cons_zero, List.getD_cons_succ, Nat.reduceSub, Nat.reduceAdd, Nat.sub_self, if_true, if_false, Bool.false_eq_true, q_frz1, q_frz2, q_stR1, q_stR2, q_free1, q_free2, q_free3, q_isN1, q_isN2, q_fIsN, q_fCI, q_fI, q_fI0, q_add1, q_add2, q_add3, q_mul1, q_mul2, q_isBl, q_isInt, q_seq1, q_seq2, q_seq3, q_len1, q_len2, q_len3, q_int1, q_abs, q_two, q_list1, q_list2, q_tuple1, q_tuple2, q_tru1, q_tru2, q_rs1, q_rs2, q_cut1, q_cut2, q_cut3, q_gtT]
      refine ⟨by simp [sizeLine_eq]; omega, hRk _ ⟨ns4, N ++ [(List.range n).filter fun (c : Nat) => Builtin.bitAnd (mask / 2 ^ c) 1 != 0], .fz (.int (i : Int)), .fz (.int mask), ?_, hp4, by simp [hN], hRw.add _, trivial, trivial⟩⟩
      rw [List.map_append, List.map_append]
      simp only [List.map_cons, List.map_nil, I1_nZ]
    · rintro e ⟨ns', N, o4, o8, rfl, hp', hN, hRw, f4, f8⟩
      simp only [pSeq, Option.map_some, Option.map_none, pNext, pIf, pAsg, pRet, pRetN, pDrop, pFor, pForV, pAsgG, pAug, pSetIx, pBrk, pCnt, pFz, pFr, pIn, pVar, pArg, pMv, pC, pCons, pNil, p2, pB, pBl, pCB, ress, res, rv_non, rv_bl, rv_int, rv_str, rv_ty, rv_lst, rv_tup, rv_rls, rv_xr, rv_nc, noCe, stO, true_and, and_true, Bool.not_false, Bool.not_true, rv_oD, isNon_oD, gtN, gtsCons, gtsNil, pNot, pOr, pAnd, pVal, pTru, pNeg, pNotV, pAndV, pOrV, pIfE, pDisp, allInl, pCut, pNoPt, pPt, pSeqSrc, pEnum, enSrc, pRng1, rOf1, pRng2, rOf2, owAt, pApp, pPopAt, pPop, pClear, pLc, pLcV, pYes, noOw, wipeE, restE, rst, pRaise, resL, pCall, argsOf, argO, refIx, wbC, wb, wb1, outsOf, outP, List.getElem?_cons_zero, List.getElem?_cons_succ, List.getElem?_nil, List.set_cons_zero, List.set_cons_succ, List.length_cons, List.length_nil, List.cons_append, List.nil_append, List.append_nil, List.drop_succ_cons, List.drop_zero, List.drop_nil, List.replicate_zero, List.replicate_succ, List.getD_cons_zero, List.getD_cons_succ, Nat.reduceSub, Nat.reduceAdd, Nat.sub_self, if_true, if_false, Bool.false_eq_true, q_frz1, q_frz2, q_stR1, q_stR2, q_free1, q_free2, q_free3, q_isN1, q_isN2, q_fIsN, q_fCI, q_fI, q_fI0, q_add1, q_add2, q_add3, q_mul1, q_mul2, q_isBl, q_isInt, q_seq1, q_seq2, q_seq3, q_len1, q_len2, q_len3, q_int1, q_abs, q_two, q_list1, q_list2, q_tuple1, q_tuple2, q_tru1, q_tru2, q_rs1, q_rs2, q_cut1, q_cut2, q_cut3, q_gtT, pVarC]
      intro a
      have hl : (rngD 0 k).length = k := by simp [rngD]
      refine ⟨by simp [sizeLine_eq], q N n ns' a _ _ _ _ _ _ _ _ hp' (by omega) (by omega) hRw (fun ds h => ?_)⟩
      subst h
      unfold freeO at f8
      simp at f8
section
variable {P : Program} {w : World} {K : PySem.W.Frag} {mg : Str → Option Value} {base : Heap} {C_BadCount C_BadNumber C_BadTable C_ReelError : Addr} {f : Addr} {fd : FuncData}
def postTb (_ : PoolT) (r : PW.O) (o : List PW.O) : Prop := ∃ (N : List (List Nat)) (n : Nat) (ns' : List Int) (a : Addr), PoolOk ns' ∧ N.length ≤ 128 ∧ n ≤ 128 ∧ Rws n N ∧ r = .ow false [.ref a, .int (n : Int)] ∧ o = [.ow true (ns'.map .int), .ce a ((N.map nZ).map I1)]
abbrev spTb : PSp := mkSp (fun (a : PoolT) args => args = [.ow true (a.1.map .int)]) postTb noEx
theorem ok__law_table (T : Txt K mg C_BadCount C_BadNumber C_BadTable C_ReelError) (c1 : CalD P w K mg base 1 "_law_draw" spDr)
    (Fn : Fun K "_law_table" "_law_table" s__law_table f fd) : FnOk P w K mg base (L2.CX P w) 2 f fd [("pool" : Str)] (spM K spTb) :=
  Fn.M sc__law_table (fun a args h => by rw [show args = _ from h]; rfl) (fun cdv A outer s H E hr => d__law_table T c1 hr) (fun a args h => by
    rw [show args = _ from h]
    exact p__law_table a.2 (fun N n ns' ad _ _ _ _ _ _ _ _ h1 h2 h3 h4 h5 => ⟨N, n, ns', ad, h1, h2, h3, h4, rfl, rfl⟩))
end
end K12
set_option Elab.async false
set_option linter.all false
set_option maxRecDepth 100000
set_option maxHeartbeats 4000000
namespace K12
open PySem PySem.Spec PyProof.Rows L2 PW
/-! ### the long table -/
def lrow (k a : Nat) : List Nat := if a + 1 < k then [a, a + 1] else [0]
def ldue (k a : Nat) : Nat := if a + 1 < k then a + 1 else 0
abbrev lat (k s p : Nat) : Nat := (p + k - s) % k
def lrows (k s i : Nat) : List (List Nat) := (List.range k).map fun p => if lat k s p < i then lrow k (lat k s p) else []
def ldues (k s i : Nat) : List Nat := (List.range k).map fun p => if lat k s p < i then ldue k (lat k s p) else 0
theorem place_inv {k s i : Nat} (hs : s < k) (hi : i < k) : lat k s ((i + s) % k) = i := by
  unfold lat
  by_cases h : i + s < k
  · rw [Nat.mod_eq_of_lt h, show i + s + k - s = i + k by omega, Nat.add_mod_right, Nat.mod_eq_of_lt hi]
  · have : (i + s) % k = i + s - k := by rw [Nat.mod_eq_sub_mod (by omega), Nat.mod_eq_of_lt (by omega)]
    rw [this, show i + s - k + k - s = i by omega, Nat.mod_eq_of_lt hi]
theorem place_inv2 {k s p : Nat} (hs : s < k) (hp : p < k) : (lat k s p + s) % k = p := by
  unfold lat
  by_cases h : s ≤ p
  · have : (p + k - s) % k = p - s := by rw [show p + k - s = (p - s) + k by omega, Nat.add_mod_right, Nat.mod_eq_of_lt (by omega)]
    rw [this, show p - s + s = p by omega, Nat.mod_eq_of_lt hp]
  · rw [Nat.mod_eq_of_lt (show p + k - s < k by omega), show p + k - s + s = p + k by omega, Nat.add_mod_right, Nat.mod_eq_of_lt hp]
theorem lat_lt {k s p : Nat} (hs : s < k) : lat k s p < k := Nat.mod_lt _ (by omega)
theorem place_inj {k s i p : Nat} (hs : s < k) (hi : i < k) (hp : p < k) : (i + s) % k = p ↔ lat k s p = i := by
  constructor
  · rintro rfl; exact place_inv hs hi
  · rintro rfl; exact place_inv2 hs hp
theorem lrows_len {k s i : Nat} : (lrows k s i).length = k := by simp [lrows]
theorem ldues_len {k s i : Nat} : (ldues k s i).length = k := by simp [ldues]
theorem lrows_get {k s i p : Nat} (hp : p < k) : (lrows k s i)[p]? = some (if lat k s p < i then lrow k (lat k s p) else []) := by
  unfold lrows
  rw [List.getElem?_map, List.getElem?_range hp]; rfl
theorem ldues_get {k s i p : Nat} (hp : p < k) : (ldues k s i)[p]? = some (if lat k s p < i then ldue k (lat k s p) else 0) := by
  unfold ldues
  rw [List.getElem?_map, List.getElem?_range hp]; rfl
theorem lrows_set {k s i : Nat} (hs : s < k) (hi : i < k) : (lrows k s i).set ((i + s) % k) (lrow k i) = lrows k s (i + 1) := by
  apply List.ext_getElem?
  intro p
  rw [List.getElem?_set, lrows_len]
  by_cases hp : p < k
  · rw [lrows_get hp, lrows_get hp]
    by_cases z : (i + s) % k = p
    · rw [if_pos z, if_pos (z ▸ hp)]
      have := (place_inj hs hi hp).mp z
      rw [this, if_pos (Nat.lt_succ_self i)]
    · rw [if_neg z]
      have : lat k s p ≠ i := fun e => z ((place_inj hs hi hp).mpr e)
      by_cases y : lat k s p < i
      · rw [if_pos y, if_pos (by omega)]
      · rw [if_neg y, if_neg (by omega)]
  · have h1 : (i + s) % k ≠ p := fun e => hp (e ▸ Nat.mod_lt _ (by omega))
    rw [if_neg h1, List.getElem?_eq_none (by rw [lrows_len]; omega), List.getElem?_eq_none (by rw [lrows_len]; omega)]
theorem ldues_set {k s i : Nat} (hs : s < k) (hi : i < k) : (ldues k s i).set ((i + s) % k) (ldue k i) = ldues k s (i + 1) := by
  apply List.ext_getElem?
  intro p
  rw [List.getElem?_set, ldues_len]
  by_cases hp : p < k
  · rw [ldues_get hp, ldues_get hp]
    by_cases z : (i + s) % k = p
    · rw [if_pos z, if_pos (z ▸ hp)]
      have := (place_inj hs hi hp).mp z
      rw [this, if_pos (Nat.lt_succ_self i)]
    · rw [if_neg z]
      have : lat k s p ≠ i := fun e => z ((place_inj hs hi hp).mpr e)
      by_cases y : lat k s p < i
      · rw [if_pos y, if_pos (by omega)]
      · rw [if_neg y, if_neg (by omega)]
  · have h1 : (i + s) % k ≠ p := fun e => hp (e ▸ Nat.mod_lt _ (by omega))
    rw [if_neg h1, List.getElem?_eq_none (by rw [ldues_len]; omega), List.getElem?_eq_none (by rw [ldues_len]; omega)]
theorem lrows_full {k s p : Nat} (hs : s < k) (hp : p < k) : (lrows k s k)[p]? = some (lrow k (lat k s p)) := by
  rw [lrows_get hp, if_pos (lat_lt hs)]
theorem ldues_full {k s p : Nat} (hs : s < k) (hp : p < k) : (ldues k s k)[p]? = some (ldue k (lat k s p)) := by
  rw [ldues_get hp, if_pos (lat_lt hs)]
theorem ldues_one {k s i : Nat} (hs : s < k) (hi : i + 1 = k) : ldues k s i = ldues k s k := by
  apply List.ext_getElem?
  intro p
  by_cases hp : p < k
  · rw [ldues_full hs hp, ldues_get hp]
    by_cases y : lat k s p < i
    · rw [if_pos y]
    · have := lat_lt (p := p) hs
      have e : lat k s p = i := by omega
      rw [if_neg y, e, ldue, if_neg (by omega)]
  · rw [List.getElem?_eq_none (by rw [ldues_len]; omega), List.getElem?_eq_none (by rw [ldues_len]; omega)]
/-- who takes a column -/
def lown (k s : Nat) : List (Option Nat) := (List.range k).map fun c => some (((c + k - 1) % k + s) % k)
theorem lown_get {k s c : Nat} (hc : c < k) : (lown k s)[c]? = some (some (((c + k - 1) % k + s) % k)) := by
  unfold lown
  rw [List.getElem?_map, List.getElem?_range hc]; rfl
theorem due_inv {k a : Nat} (ha : a < k) : (ldue k a + k - 1) % k = a := by
  unfold ldue
  split
  · rw [show a + 1 + k - 1 = a + k by omega, Nat.add_mod_right, Nat.mod_eq_of_lt ha]
  · rw [show 0 + k - 1 = a by omega, Nat.mod_eq_of_lt ha]
theorem due_inv2 {k c : Nat} (hc : c < k) : ldue k ((c + k - 1) % k) = c := by
  unfold ldue
  by_cases z : c = 0
  · subst z
    rw [show 0 + k - 1 = k - 1 by omega, Nat.mod_eq_of_lt (by omega), if_neg (by omega)]
  · rw [show c + k - 1 = c - 1 + k by omega, Nat.add_mod_right, Nat.mod_eq_of_lt (by omega), if_pos (by omega)]; omega
theorem due_lt {k a : Nat} (ha : a < k) : ldue k a < k := by
  unfold ldue; split <;> omega
theorem due_mem {k a : Nat} : ldue k a ∈ lrow k a := by
  unfold ldue lrow; split <;> simp
abbrev lpair (k s : Nat) : List (Option Nat) := (ldues k s k).map some
theorem lpair_get {k s p : Nat} (hs : s < k) (hp : p < k) : (lpair k s)[p]? = some (some (ldue k (lat k s p))) := by
  rw [List.getElem?_map, ldues_full hs hp]; rfl
theorem lmat {k s : Nat} (hs : s < k) : Mat (lrows k s k) k (lpair k s) (lown k s) := by
  have hl : (lpair k s).length = k := by rw [List.length_map, ldues_len]
  have ho : (lown k s).length = k := by simp [lown]
  refine ⟨by rw [hl, lrows_len], ho, fun r c h => ?_, fun r c h => ?_, fun r c h => ?_⟩
  · have hr : r < k := by rw [← hl]; exact (List.getElem?_eq_some_iff.mp h).1
    rw [lpair_get hs hr, Option.some.injEq, Option.some.injEq] at h
    subst h
    rw [lown_get (due_lt (lat_lt hs)), due_inv (lat_lt hs), place_inv2 hs hr]
  · have hc : c < k := by rw [← ho]; exact (List.getElem?_eq_some_iff.mp h).1
    rw [lown_get hc, Option.some.injEq, Option.some.injEq] at h
    subst h
    have : (c + k - 1) % k < k := Nat.mod_lt _ (by omega)
    rw [lpair_get hs (Nat.mod_lt _ (by omega)), place_inv hs this, due_inv2 hc]
  · have hr : r < k := by rw [← hl]; exact (List.getElem?_eq_some_iff.mp h).1
    rw [lpair_get hs hr, Option.some.injEq, Option.some.injEq] at h
    subst h
    exact ⟨_, lrows_full hs hr, due_mem⟩
theorem nm_len {P : List (Option Nat)} : nm P ≤ P.length := by
  unfold nm whereN
  exact Nat.le_trans (List.length_filter_le _ _) (by simp)
theorem nm_full {P : List (Option Nat)} (h : P.length ≤ nm P) {r : Nat} (hr : r < P.length) : ∃ c : Nat, P[r]? = some (some c) := by
  refine mem_nm.mp ?_
  have h0 : (List.range P.length).length = P.length := by simp
  have h1 : (whereN Option.isSome P).length = (List.range P.length).length := Nat.le_antisymm (by rw [h0]; exact nm_len) (by rw [h0]; exact h)
  have h2 := List.length_filter_eq_length_iff.mp h1 r (List.mem_range.mpr hr)
  unfold whereN
  exact List.mem_filter.mpr ⟨List.mem_range.mpr hr, h2⟩
theorem nm_lpair {k s : Nat} : nm (lpair k s) = k := by
  have hl : (lpair k s).length = k := by rw [List.length_map, ldues_len]
  have : nm (lpair k s) = (List.range (lpair k s).length).length := by
    unfold nm whereN
    refine List.length_filter_eq_length_iff.mpr fun r hr => ?_
    have hr' : r < (lpair k s).length := List.mem_range.mp hr
    rw [List.getElem?_eq_getElem hr']
    simp
  rw [this, List.length_range, hl]
theorem lbest_nm {k s : Nat} (hs : s < k) {P O : List (Option Nat)} (B : Best (lrows k s k) k P O) : nm P = k := by
  have h1 := best_max B (lmat hs)
  rw [nm_lpair] at h1
  have h2 := nm_len (P := P)
  rw [B.M.lp, lrows_len] at h2
  omega
theorem lbest_eq {k s : Nat} (hs : s < k) {P O : List (Option Nat)} (B : Best (lrows k s k) k P O) : P = lpair k s := by
  have hl : P.length = k := by rw [B.M.lp, lrows_len]
  have hn := lbest_nm hs B
  have one : ∀ a, a < k → ∃ c, P[(a + s) % k]? = some (some c) ∧ c ∈ lrow k a := fun a ha => by
    have hp : (a + s) % k < k := Nat.mod_lt _ (by omega)
    obtain ⟨c, hc⟩ := nm_full (by omega) (show (a + s) % k < P.length by omega)
    obtain ⟨row, h1, h2⟩ := B.M.ad _ c hc
    rw [lrows_full hs hp, place_inv hs ha, Option.some.injEq] at h1
    subst h1
    exact ⟨c, hc, h2⟩
  have inj : ∀ {a b c : Nat}, a < k → b < k → P[(a + s) % k]? = some (some c) → P[(b + s) % k]? = some (some c) → a = b := fun {a b c} ha hb h1 h2 => by
    have e := B.M.po _ c h1
    rw [B.M.po _ c h2, Option.some.injEq, Option.some.injEq] at e
    rw [← place_inv hs ha, ← e, place_inv hs hb]
  have last : P[(k - 1 + s) % k]? = some (some 0) := by
    obtain ⟨c, h1, h2⟩ := one (k - 1) (by omega)
    rw [lrow, if_neg (by omega), List.mem_singleton] at h2
    subst h2; exact h1
  have step : ∀ a, a + 1 < k → P[(a + s) % k]? = some (some (a + 1)) := by
    intro a
    induction a with
    | zero =>
      intro ha
      obtain ⟨c, h1, h2⟩ := one 0 (by omega)
      rw [lrow, if_pos ha] at h2
      rcases List.mem_cons.mp h2 with rfl | h2
      · have := inj (by omega) (by omega) last h1
        omega
      · rw [List.mem_singleton] at h2; subst h2; exact h1
    | succ a ih =>
      intro ha
      obtain ⟨c, h1, h2⟩ := one (a + 1) (by omega)
      rw [lrow, if_pos ha] at h2
      rcases List.mem_cons.mp h2 with rfl | h2
      · have := inj (by omega) (by omega) (ih (by omega)) h1
        omega
      · rw [List.mem_singleton] at h2; subst h2; exact h1
  apply List.ext_getElem?
  intro p
  by_cases hp : p < k
  · rw [lpair_get hs hp]
    have hlt := lat_lt (p := p) hs
    have := place_inv2 hs hp
    unfold ldue
    split
    · rename_i h
      have := step _ h
      rw [place_inv2 hs hp] at this; exact this
    · rename_i h
      have e : lat k s p = k - 1 := by omega
      rw [← e, place_inv2 hs hp] at last; exact last
  · rw [List.getElem?_eq_none (by omega), List.getElem?_eq_none (by rw [List.length_map, ldues_len]; omega)]
/-! ### _law_long_table -/
theorem lrow_ok {k a : Nat} (h : a < k) : rowOk (k : Int) (-1) (nZ (lrow k a)) = true := by
  unfold lrow
  split <;> simp [rowOk, nZ] <;> omega
theorem lrows_rws {k s : Nat} (hs : s < k) : Rws k (lrows k s k) := fun row hr => by
  obtain ⟨p, hp, h⟩ := List.mem_iff_getElem.mp hr
  have hp' : p < k := by rw [lrows_len] at hp; exact hp
  have := lrows_full hs hp'
  rw [List.getElem?_eq_getElem hp, Option.some.injEq, h] at this
  subst this
  exact lrow_ok (lat_lt hs)
theorem lrows_zero {k s : Nat} : lrows k s 0 = (List.range k).map fun _ => [] := by simp [lrows]
theorem ldues_zero {k s : Nat} : ldues k s 0 = (List.range k).map fun _ => 0 := by simp [ldues]
theorem p__law_long_table {ns : List Int} (hp : PoolOk ns) {Z : PEnds}
    (q : ∀ (k s : Nat) (ns' : List Int) (a : Addr) o1 o2 o4 o5 o6 o7, PoolOk ns' → 0 < k → k ≤ 128 → s < k → (∀ ds, o7 ≠ .ow true ds) → Z.rt (.ow false [.ref a, .lst (nL (ldues k s k))]) ([.ow true (ns'.map .int), o1, o2, .fz (.ref a), o4, o5, o6, o7] ++ [.ce a (((lrows k s k).map nZ).map I1)])) :
    b__law_long_table spDr Z [.ow true (ns.map .int), .un, .un, .un, .un, .un, .un, .un] := by
  have hrng : ∀ k : Nat, rngD 0 k = (List.range k).map fun (i : Nat) => D.int (i : Int) := fun k => by simp [rngD]
  unfold b__law_long_table
  simp only [pSeq, Option.map_some, Option.map_none, pNext, pIf, pAsg, pRet, pRetN, pDrop, pFor, pForV, pAsgG, pAug, pSetIx, pBrk, pCnt, pFz, pFr, pIn, pVar, pArg, pMv, pC, pCons, pNil, p2, pB, pBl, pCB, ress, res, rv_non, rv_bl, rv_int, rv_str, rv_ty, rv_lst, rv_tup, rv_rls, rv_xr, rv_nc, noCe, stO, true_and, and_true, Bool.not_false, Bool.not_true, rv_oD, isNon_oD, gtN, gtsCons, gtsNil, pNot, pOr, pAnd, pVal, pTru, pNeg, pNotV, pAndV, pOrV, pIfE, pDisp, allInl, pCut, pNoPt, pPt, pSeqSrc, pEnum, enSrc, pRng1, rOf1, pRng2, rOf2, owAt, pApp, pPopAt, pPop, pClear, pLc, pLcV, pYes, noOw, wipeE, restE, rst, pRaise, resL, pCall, argsOf, argO, refIx, wbC, wb, wb1, outsOf, outP, List.getElem?_cons_zero, List.getElem?_cons_succ, List.getElem?_nil, List.set_cons_zero, List.set_cons_succ, List.length_cons, List.length_nil, List.cons_append, List.nil_append, List.append_nil, List.drop_succ_cons, List.drop_zero, List.drop_nil, List.replicate_zero, List.replicate_succ, List.getD_cons_zero, List.getD_cons_succ, Nat.reduceSub, Nat.reduceAdd, Nat.sub_self, if_true, if_false, Bool.false_eq_true, q_frz1, q_frz2, q_stR1, q_stR2, q_free1, q_free2, q_free3, q_isN1, q_isN2, q_fIsN, q_fCI, q_fI, q_fI0, q_add1, q_add2, q_add3, q_mul1, q_mul2, q_isBl, q_isInt, q_seq1, q_seq2, q_seq3, q_len1, q_len2, q_len3, q_int1, q_abs, q_two, q_list1, q_list2, q_tuple1, q_tuple2, q_tru1, q_tru2, q_rs1, q_rs2, q_cut1, q_cut2, q_cut3, q_gtT]
  refine callGo_mk _ (⟨ns, 127, divOk (by decide) (by decide), hp⟩ : ADr) rfl (by simp [refIx]) rfl ?_ (fun _ _ h => h.elim)
  rintro r o ⟨v, ns1, h10, h11, hp1, rfl, rfl⟩
  have b1 : v < 127 := h11
  obtain ⟨k, hk, hk1, hk2⟩ : ∃ k : Nat, 128 - v = (k : Int) ∧ k ≤ 128 ∧ 2 ≤ k := ⟨(128 - v).toNat, by omega, by omega, by omega⟩
  simp only [pSeq, Option.map_some, Option.map_none, pNext, pIf, pAsg, pRet, pRetN, pDrop, pFor, pForV, pAsgG, pAug, pSetIx, pBrk, pCnt, pFz, pFr, pIn, pVar, pArg, pMv, pC, pCons, pNil, p2, pB, pBl, pCB, ress, res, rv_non, rv_bl, rv_int, rv_str, rv_ty, rv_lst, rv_tup, rv_rls, rv_xr, rv_nc, noCe, stO, true_and, and_true, Bool.not_false, Bool.not_true, rv_oD, isNon_oD, gtN, gtsCons, gtsNil, pNot, pOr, pAnd, pVal, pTru, pNeg, pNotV, pAndV, pOrV, pIfE, pDisp, allInl, pCut, pNoPt, pPt, pSeqSrc, pEnum, enSrc, pRng1, rOf1, pRng2, rOf2, owAt, pApp, pPopAt, pPop, pClear, pLc, pLcV, pYes, noOw, wipeE, restE, rst, pRaise, resL, pCall, argsOf, argO, refIx, wbC, wb, wb1, outsOf, outP, List.getElem?_cons_zero, List.getElem?_cons_succ, List.getElem?_nil, List.set_cons_zero, List.set_cons_succ, List.length_cons, List.length_nil, List.cons_append, List.nil_append, List.append_nil, List.drop_succ_cons, List.drop_zero, List.drop_nil, List.replicate_zero, List.replicate_succ, List.getD_cons_zero, List.getD_cons_succ, Nat.reduceSub, Nat.reduceAdd, Nat.sub_self, if_true, if_false, Bool.false_eq_true, q_frz1, q_frz2, q_stR1, q_stR2, q_free1, q_free2, q_free3, q_isN1, q_isN2, q_fIsN, q_fCI, q_fI, q_fI0, q_add1, q_add2, q_add3, q_mul1, q_mul2, q_isBl, q_isInt, q_seq1, q_seq2, q_seq3, q_len1, q_len2, q_len3, q_int1, q_abs, q_two, q_list1, q_list2, q_tuple1, q_tuple2, q_tru1, q_tru2, q_rs1, q_rs2, q_cut1, q_cut2, q_cut3, q_gtT, hk]
  refine callGo_mk _ (⟨ns1, k, divOk (by omega) (by omega), hp1⟩ : ADr) rfl (by simp [refIx]) rfl ?_ (fun _ _ h => h.elim)
  rintro r o ⟨v2, ns2, h20, h21, hp2, rfl, rfl⟩
  obtain ⟨s, rfl, hs⟩ : ∃ s : Nat, v2 = (s : Int) ∧ s < k := ⟨v2.toNat, by omega, by have : v2 < (k : Int) := h21; omega⟩
  have ek : ((k : Nat) : Int).toNat = k := by simp
  simp only [pSeq, Option.map_some, Option.map_none, pNext, pIf, pAsg, pRet, pRetN, pDrop, pFor, pForV, pAsgG, pAug, pSetIx, pBrk, pCnt, pFz, pFr, pIn, pVar, pArg, pMv, pC, pCons, pNil, p2, pB, pBl, pCB, ress, res, rv_non, rv_bl, rv_int, rv_str, rv_ty, rv_lst, rv_tup, rv_rls, rv_xr, rv_nc, noCe, stO, true_and, and_true, Bool.not_false, Bool.not_true, rv_oD, isNon_oD, gtN, gtsCons, gtsNil, pNot, pOr, pAnd, pVal, pTru, pNeg, pNotV, pAndV, pOrV, pIfE, pDisp, allInl, pCut, pNoPt, pPt, pSeqSrc, pEnum, enSrc, pRng1, rOf1, pRng2, rOf2, owAt, pApp, pPopAt, pPop, pClear, pLc, pLcV, pYes, noOw, wipeE, restE, rst, pRaise, resL, pCall, argsOf, argO, refIx, wbC, wb, wb1, outsOf, outP, List.getElem?_cons_zero, List.getElem?_cons_succ, List.getElem?_nil, List.set_cons_zero, List.set_cons_succ, List.length_cons, List.length_nil, List.cons_append, List.nil_append, List.append_nil, List.drop_succ_cons, List.drop_zero, List.drop_nil, List.replicate_zero, List.replicate_succ, List.getD_cons_zero, List.getD_cons_succ, Nat.reduceSub, Nat.reduceAdd, Nat.sub_self, if_true, if_false, Bool.false_eq_true, q_frz1, q_frz2, q_stR1, q_stR2, q_free1, q_free2, q_free3, q_isN1, q_isN2, q_fIsN, q_fCI, q_fI, q_fI0, q_add1, q_add2, q_add3, q_mul1, q_mul2, q_isBl, q_isInt, q_seq1, q_seq2, q_seq3, q_len1, q_len2, q_len3, q_int1, q_abs, q_two, q_list1, q_list2, q_tuple1, q_tuple2, q_tru1, q_tru2, q_rs1, q_rs2, q_cut1, q_cut2, q_cut3, q_gtT]
  refine ⟨by omega, by intro j hj; simp at hj; subst hj; trivial, ?_⟩
  rw [ek, hrng]
  refine lcGo_filter (List.range k) (fun (c : Nat) => .int (c : Int)) (fun _ => true) (fun (c : Nat) => .lst []) (by simp [sizeLine_eq]; omega) trivial ?_ ?_ rfl
  · intro x hx acc Rk hacc k1 k2
    simp only [pSeq, Option.map_some, Option.map_none, pNext, pIf, pAsg, pRet, pRetN, pDrop, pFor, pForV, pAsgG, pAug, pSetIx, pBrk, pCnt, pFz, pFr, pIn, pVar, pArg, pMv, pC, pCons, pNil, p2, pB, pBl, pCB, ress, res, rv_non, rv_bl, rv_int, rv_str, rv_ty, rv_lst, rv_tup, rv_rls, rv_xr, rv_nc, noCe, stO, true_and, and_true, Bool.not_false, Bool.not_true, rv_oD, isNon_oD, gtN, gtsCons, gtsNil, pNot, pOr, pAnd, pVal, pTru, pNeg, pNotV, pAndV, pOrV, pIfE, pDisp, allInl, pCut, pNoPt, pPt, pSeqSrc, pEnum, enSrc, pRng1, rOf1, pRng2, rOf2, owAt, pApp, pPopAt, pPop, pClear, pLc, pLcV, pYes, noOw, wipeE, restE, rst, pRaise, resL, pCall, argsOf, argO, refIx, wbC, wb, wb1, outsOf, outP, List.getElem?_cons_zero, List.getElem?_cons_succ, List.getElem?_nil, List.set_cons_zero, List.set_cons_succ, List.length_cons, List.length_nil, List.cons_append, List.nil_append, List.append_nil, List.drop_succ_cons, List.drop_zero, List.drop_nil, List.replicate_zero, List.replicate_succ, List.getD_cons_zero, List.getD_cons_succ, Nat.reduceSub, Nat.reduceAdd, Nat.sub_self, if_true, if_false, Bool.false_eq_true, q_frz1, q_frz2, q_stR1, q_stR2, q_free1, q_free2, q_free3, q_isN1, q_isN2, q_fIsN, q_fCI, q_fI, q_fI0, q_add1, q_add2, q_add3, q_mul1, q_mul2, q_isBl, q_isInt, q_seq1, q_seq2, q_seq3, q_len1, q_len2, q_len3, q_int1, q_abs, q_two, q_list1, q_list2, q_tuple1, q_tuple2, q_tru1, q_tru2, q_rs1, q_rs2, q_cut1, q_cut2, q_cut3, q_gtT]
    exact ⟨Nat.zero_le _, hacc, by intro j hj; simp at hj; subst hj; trivial, k1 rfl⟩
  have hf : (List.range k).filter (fun _ => true) = List.range k := List.filter_eq_self.mpr (fun _ _ => rfl)
  rw [hf]
  simp only [pSeq, Option.map_some, Option.map_none, pNext, pIf, pAsg, pRet, pRetN, pDrop, pFor, pForV, pAsgG, pAug, pSetIx, pBrk, pCnt, pFz, pFr, pIn, pVar, pArg, pMv, pC, pCons, pNil, p2, pB, pBl, pCB, ress, res, rv_non, rv_bl, rv_int, rv_str, rv_ty, rv_lst, rv_tup, rv_rls, rv_xr, rv_nc, noCe, stO, true_and, and_true, Bool.not_false, Bool.not_true, rv_oD, isNon_oD, gtN, gtsCons, gtsNil, pNot, pOr, pAnd, pVal, pTru, pNeg, pNotV, pAndV, pOrV, pIfE, pDisp, allInl, pCut, pNoPt, pPt, pSeqSrc, pEnum, enSrc, pRng1, rOf1, pRng2, rOf2, owAt, pApp, pPopAt, pPop, pClear, pLc, pLcV, pYes, noOw, wipeE, restE, rst, pRaise, resL, pCall, argsOf, argO, refIx, wbC, wb, wb1, outsOf, outP, List.getElem?_cons_zero, List.getElem?_cons_succ, List.getElem?_nil, List.set_cons_zero, List.set_cons_succ, List.length_cons, List.length_nil, List.cons_append, List.nil_append, List.append_nil, List.drop_succ_cons, List.drop_zero, List.drop_nil, List.replicate_zero, List.replicate_succ, List.getD_cons_zero, List.getD_cons_succ, Nat.reduceSub, Nat.reduceAdd, Nat.sub_self, if_true, if_false, Bool.false_eq_true, q_frz1, q_frz2, q_stR1, q_stR2, q_free1, q_free2, q_free3, q_isN1, q_isN2, q_fIsN, q_fCI, q_fI, q_fI0, q_add1, q_add2, q_add3, q_mul1, q_mul2, q_isBl, q_isInt, q_seq1, q_seq2, q_seq3, q_len1, q_len2, q_len3, q_int1, q_abs, q_two, q_list1, q_list2, q_tuple1, q_tuple2, q_tru1, q_tru2, q_rs1, q_rs2, q_cut1, q_cut2, q_cut3, q_gtT]
  refine ⟨by omega, by intro j hj; simp at hj; subst hj; trivial, ?_⟩
  rw [ek, hrng]
  refine lcGo_filter (List.range k) (fun (c : Nat) => .int (c : Int)) (fun _ => true) (fun (c : Nat) => .int 0) (by simp [sizeLine_eq]; omega) trivial ?_ ?_ rfl
  · intro x hx acc Rk hacc k1 k2
    simp only [pSeq, Option.map_some, Option.map_none, pNext, pIf, pAsg, pRet, pRetN, pDrop, pFor, pForV, pAsgG, pAug, pSetIx, pBrk, pCnt, pFz, pFr, pIn, pVar, pArg, pMv, pC, pCons, pNil, p2, pB, pBl, pCB, ress, res, rv_non, rv_bl, rv_int, rv_str, rv_ty, rv_lst, rv_tup, rv_rls, rv_xr, rv_nc, noCe, stO, true_and, and_true, Bool.not_false, Bool.not_true, rv_oD, isNon_oD, gtN, gtsCons, gtsNil, pNot, pOr, pAnd, pVal, pTru, pNeg, pNotV, pAndV, pOrV, pIfE, pDisp, allInl, pCut, pNoPt, pPt, pSeqSrc, pEnum, enSrc, pRng1, rOf1, pRng2, rOf2, owAt, pApp, pPopAt, pPop, pClear, pLc, pLcV, pYes, noOw, wipeE, restE, rst, pRaise, resL, pCall, argsOf, argO, refIx, wbC, wb, wb1, outsOf, outP, List.getElem?_cons_zero, List.getElem?_cons_succ, List.getElem?_nil, List.set_cons_zero, List.set_cons_succ, List.length_cons, List.length_nil, List.cons_append, List.nil_append, List.append_nil, List.drop_succ_cons, List.drop_zero, List.drop_nil, List.replicate_zero, List.replicate_succ, List.getD_cons_zero, List.getD_cons_succ, Nat.reduceSub, Nat.reduceAdd, Nat.sub_self, if_true, if_false, Bool.false_eq_true, q_frz1, q_frz2, q_stR1, q_stR2, q_free1, q_free2, q_free3, q_isN1, q_isN2, q_fIsN, q_fCI, q_fI, q_fI0, q_add1, q_add2, q_add3, q_mul1, q_mul2, q_isBl, q_isInt, q_seq1, q_seq2, q_seq3, q_len1, q_len2, q_len3, q_int1, q_abs, q_two, q_list1, q_list2, q_tuple1, q_tuple2, q_tru1, q_tru2, q_rs1, q_rs2, q_cut1, q_cut2, q_cut3, q_gtT]
    exact ⟨hacc, by intro j hj; simp at hj; subst hj; trivial, k1 rfl⟩
  rw [hf]
  simp only [pSeq, Option.map_some, Option.map_none, pNext, pIf, pAsg, pRet, pRetN, pDrop, pFor, pForV, pAsgG, pAug, pSetIx, pBrk, pCnt, pFz, pFr, pIn, pVar, pArg, pMv, pC, pCons, pNil, p2, pB, pBl, pCB, ress, res, rv_non, rv_bl, rv_int, rv_str, rv_ty, rv_lst, rv_tup, rv_rls, rv_xr, rv_nc, noCe, stO, true_and, and_true, Bool.not_false, Bool.not_true, rv_oD, isNon_oD, gtN, gtsCons, gtsNil, pNot, pOr, pAnd, pVal, pTru, pNeg, pNotV, pAndV, pOrV, pIfE, pDisp, allInl, pCut, pNoPt, pPt, pSeqSrc, pEnum, enSrc, pRng1, rOf1, pRng2, rOf2, owAt, pApp, pPopAt, pPop, pClear, pLc, pLcV, pYes, noOw, wipeE, restE, rst, pRaise, resL, pCall, argsOf, argO, refIx, wbC, wb, wb1, outsOf, outP, List.getElem?_cons_zero, List.getElem?_cons_succ, List.getElem?_nil, List.set_cons_zero, List.set_cons_succ, List.length_cons, List.length_nil, List.cons_append, List.nil_append, List.append_nil, List.drop_succ_cons, List.drop_zero, List.drop_nil, List.replicate_zero, List.replicate_succ, List.getD_cons_zero, List.getD_cons_succ, Nat.reduceSub, Nat.reduceAdd, Nat.sub_self, if_true, if_false, Bool.false_eq_true, q_frz1, q_frz2, q_stR1, q_stR2, q_free1, q_free2, q_free3, q_isN1, q_isN2, q_fIsN, q_fCI, q_fI, q_fI0, q_add1, q_add2, q_add3, q_mul1, q_mul2, q_isBl, q_isInt, q_seq1, q_seq2, q_seq3, q_len1, q_len2, q_len3, q_int1, q_abs, q_two, q_list1, q_list2, q_tuple1, q_tuple2, q_tru1, q_tru2, q_rs1, q_rs2, q_cut1, q_cut2, q_cut3, q_gtT]
  refine ⟨by omega, ?_⟩
  rw [ek]
  refine forGo_inv (fun i e => ∃ (o6 o7 : PW.O), e = [.ow true (ns2.map .int), .fz (.int (k : Int)), .fz (.int (s : Int)), .ow false (((lrows k s i).map nZ).map I1), .un, .ow false (nL (ldues k s i)), o6, o7] ∧ freeO o6 ∧ freeO o7 ∧ (∀ ds, o7 ≠ .ow true ds)) (fun _ _ _ _ => trivial) ?_ ?_ ⟨.un, .un, by rw [lrows_zero, ldues_zero]; simp [I1, nZ, nL], trivial, trivial, fun _ h => nomatch h⟩
  · rintro i dd e Rk hdd ⟨o6, o7, rfl, f6, f7, g7⟩ hRk
    have hi : i < k := by
      have := (List.getElem?_eq_some_iff.mp hdd).1
      simpa [rngD] using this
    have hdd' : dd = .int (i : Int) := by
      simp [rngD, List.getElem?_map, List.getElem?_range hi] at hdd
      exact hdd.symm
    subst hdd'
    have hpl : (((i : Nat) : Int) + (s : Int)) % (k : Int) = (((i + s) % k : Nat) : Int) := by simp
    have hpk : (i + s) % k < k := Nat.mod_lt _ (by omega)
    simp only [pSeq, Option.map_some, Option.map_none, pNext, pIf, pAsg, pRet, pRetN, pDrop, pFor, pForV, pAsgG, pAug, pSetIx, pBrk, pCnt, pFz, pFr, pIn, pVar, pArg, pMv, pC, pCons, pNil, p2, pB, pBl, pCB, ress, res, rv_non, rv_bl, rv_int, rv_str, rv_ty, rv_lst, rv_tup, rv_rls, rv_xr, rv_nc, noCe, stO, true_and, and_true, Bool.not_false, Bool.not_true, rv_oD, isNon_oD, gtN, gtsCons, gtsNil, pNot, pOr, pAnd, pVal, pTru, pNeg, pNotV, pAndV, pOrV, pIfE, pDisp, allInl, pCut, pNoPt, pPt, pSeqSrc, pEnum, enSrc, pRng1, rOf1, pRng2, rOf2, owAt, pApp, pPopAt, pPop, pClear, pLc, pLcV, pYes, noOw, wipeE, restE, rst, pRaise, resL, pCall, argsOf, argO, refIx, wbC, wb, wb1, outsOf, outP, List.getElem?_cons_zero, List.getElem?_cons_succ, List.getElem?_nil, List.set_cons_zero, List.set_cons_succ, List.length_cons, List.length_nil, List.cons_append, List.nil_append, List.append_nil, List.drop_succ_cons, List.drop_zero, List.drop_nil, List.replicate_zero, List.replicate_succ, List.getD_cons_zero, List.getD_cons_succ, Nat.reduceSub, Nat.reduceAdd, Nat.sub_self, if_true, if_false, Bool.false_eq_true, q_frz1, q_frz2, q_stR1, q_stR2, q_free1, q_free2, q_free3, q_isN1, q_isN2, q_fIsN, q_fCI, q_fI, q_fI0, q_add1, q_add2, q_add3, q_mul1, q_mul2, q_isBl, q_isInt, q_seq1, q_seq2, q_seq3, q_len1, q_len2, q_len3, q_int1, q_abs, q_two, q_list1, q_list2, q_tuple1, q_tuple2, q_tru1, q_tru2, q_rs1, q_rs2, q_cut1, q_cut2, q_cut3, q_gtT, f6, f7, hpl]
    refine ⟨by omega, ?_⟩
    by_cases z : i + 1 < k
    · have z' : ((i : Int) + 1 < (k : Int)) := by omega
      simp only [z', decide_true, if_true, pSeq, Option.map_some, Option.map_none, pNext, pIf, pAsg, pRet, pRetN, pDrop, pFor, pForV, pAsgG, pAug, pSetIx, pBrk, pCnt, pFz, pFr, pIn, pVar, pArg, pMv, pC, pCons, pNil, p2, pB, pBl, pCB, ress, res, rv_non, rv_bl, rv_int, rv_str, rv_ty, rv_lst, rv_tup, rv_rls, rv_xr, rv_nc, noCe, stO, true_and, and_true, Bool.not_false, Bool.not_true, rv_oD, isNon_oD, gtN, gtsCons, gtsNil, pNot, pOr, pAnd, pVal, pTru, pNeg, pNotV, pAndV, pOrV, pIfE, pDisp, allInl, pCut, pNoPt, pPt, pSeqSrc, pEnum, enSrc, pRng1, rOf1, pRng2, rOf2, owAt, pApp, pPopAt, pPop, pClear, pLc, pLcV, pYes, noOw, wipeE, restE, rst, pRaise, resL, pCall, argsOf, argO, refIx, wbC, wb, wb1, outsOf, outP, List.getElem?_cons_zero, List.getElem?_cons_succ, List.getElem?_nil, List.set_cons_zero, List.set_cons_succ, List.length_cons, List.length_nil, List.cons_append, List.nil_append, List.append_nil, List.drop_succ_cons, List.drop_zero, List.drop_nil, List.replicate_zero, List.replicate_succ, List.getD_cons_zero, List.getD_cons_succ, Nat.reduceSub, Nat.reduceAdd, Nat.sub_self, if_true, if_false, Bool.false_eq_true, q_frz1, q_frz2, q_stR1, q_stR2, q_free1, q_free2, q_free3, q_isN1, q_isN2, q_fIsN, q_fCI, q_fI, q_fI0, q_add1, q_add2, q_add3, q_mul1, q_mul2, q_isBl, q_isInt, q_seq1, q_seq2, q_seq3, q_len1, q_len2, q_len3, q_int1, q_abs, q_two, q_list1, q_list2, q_tuple1, q_tuple2, q_tru1, q_tru2, q_rs1, q_rs2, q_cut1, q_cut2, q_cut3, q_gtT]
      refine ⟨by simp [sizeLine_eq], (i + s) % k, ixN_nat (by simp [lrows_len]; exact hpk), (i + s) % k, ixN_nat (by simp [ldues_len]; exact hpk), hRk _ ⟨.fz (.int (i : Int)), .fz (.int (((i + s) % k : Nat) : Int)), ?_, trivial, trivial, fun _ h => nomatch h⟩⟩
      have e1 : D.lst [D.int (i : Int), D.int ((i : Int) + 1)] = I1 (nZ (lrow k i)) := by rw [lrow, if_pos z]; simp [I1, nZ]
      have e2 : D.int ((i : Int) + 1) = D.int ((ldue k i : Nat) : Int) := by rw [ldue, if_pos z]; simp
      rw [e1, ← List.map_set, ← List.map_set, lrows_set hs hi, e2, ← List.map_set, ldues_set hs hi]
    · have z' : ¬ ((i : Int) + 1 < (k : Int)) := by omega
      simp only [z', decide_false, Bool.false_eq_true, if_false, pSeq, Option.map_some, Option.map_none, pNext, pIf, pAsg, pRet, pRetN, pDrop, pFor, pForV, pAsgG, pAug, pSetIx, pBrk, pCnt, pFz, pFr, pIn, pVar, pArg, pMv, pC, pCons, pNil, p2, pB, pBl, pCB, ress, res, rv_non, rv_bl, rv_int, rv_str, rv_ty, rv_lst, rv_tup, rv_rls, rv_xr, rv_nc, noCe, stO, true_and, and_true, Bool.not_false, Bool.not_true, rv_oD, isNon_oD, gtN, gtsCons, gtsNil, pNot, pOr, pAnd, pVal, pTru, pNeg, pNotV, pAndV, pOrV, pIfE, pDisp, allInl, pCut, pNoPt, pPt, pSeqSrc, pEnum, enSrc, pRng1, rOf1, pRng2, rOf2, owAt, pApp, pPopAt, pPop, pClear, pLc, pLcV, pYes, noOw, wipeE, restE, rst, pRaise, resL, pCall, argsOf, argO, refIx, wbC, wb, wb1, outsOf, outP, List.getElem?_cons_zero, List.getElem?_cons_succ, List.getElem?_nil, List.set_cons_zero, List.set_cons_succ, List.length_cons, List.length_nil, List.cons_append, List.nil_append, List.append_nil, List.drop_succ_cons, List.drop_zero, List.drop_nil, List.replicate_zero, List.replicate_succ, List.getD_cons_zero, List.getD_cons_succ, Nat.reduceSub, Nat.reduceAdd, Nat.sub_self, if_true, if_false, Bool.false_eq_true, q_frz1, q_frz2, q_stR1, q_stR2, q_free1, q_free2, q_free3, q_isN1, q_isN2, q_fIsN, q_fCI, q_fI, q_fI0, q_add1, q_add2, q_add3, q_mul1, q_mul2, q_isBl, q_isInt, q_seq1, q_seq2, q_seq3, q_len1, q_len2, q_len3, q_int1, q_abs, q_two, q_list1, q_list2, q_tuple1, q_tuple2, q_tru1, q_tru2, q_rs1, q_rs2, q_cut1, q_cut2, q_cut3, q_gtT]
      refine ⟨by simp [sizeLine_eq], (i + s) % k, ixN_nat (by simp [lrows_len]; exact hpk), hRk _ ⟨.fz (.int (i : Int)), .fz (.int (((i + s) % k : Nat) : Int)), ?_, trivial, trivial, fun _ h => nomatch h⟩⟩
      have e1 : D.lst [D.int 0] = I1 (nZ (lrow k i)) := by rw [lrow, if_neg z]; simp [I1, nZ]
      have e3 : i + 1 = k := by omega
      rw [e1, ← List.map_set, ← List.map_set, lrows_set hs hi, e3, ldues_one hs e3]
  · rintro e ⟨o6, o7, rfl, f6, f7, g7⟩
    have hl : (rngD 0 k).length = k := by simp [rngD]
    rw [hl]
    simp only [pSeq, Option.map_some, Option.map_none, pNext, pIf, pAsg, pRet, pRetN, pDrop, pFor, pForV, pAsgG, pAug, pSetIx, pBrk, pCnt, pFz, pFr, pIn, pVar, pArg, pMv, pC, pCons, pNil, p2, pB, pBl, pCB, ress, res, rv_non, rv_bl, rv_int, rv_str, rv_ty, rv_lst, rv_tup, rv_rls, rv_xr, rv_nc, noCe, stO, true_and, and_true, Bool.not_false, Bool.not_true, rv_oD, isNon_oD, gtN, gtsCons, gtsNil, pNot, pOr, pAnd, pVal, pTru, pNeg, pNotV, pAndV, pOrV, pIfE, pDisp, allInl, pCut, pNoPt, pPt, pSeqSrc, pEnum, enSrc, pRng1, rOf1, pRng2, rOf2, owAt, pApp, pPopAt, pPop, pClear, pLc, pLcV, pYes, noOw, wipeE, restE, rst, pRaise, resL, pCall, argsOf, argO, refIx, wbC, wb, wb1, outsOf, outP, List.getElem?_cons_zero, List.getElem?_cons_succ, List.getElem?_nil, List.set_cons_zero, List.set_cons_succ, List.length_cons, List.length_nil, List.cons_append, List.nil_append, List.append_nil, List.drop_succ_cons, List.drop_zero, List.drop_nil, List.replicate_zero, List.replicate_succ, List.getD_cons_zero, List.getD_cons_succ, Nat.reduceSub, Nat.reduceAdd, Nat.sub_self, if_true, if_false, Bool.false_eq_true, q_frz1, q_frz2, q_stR1, q_stR2, q_free1, q_free2, q_free3, q_isN1, q_isN2, q_fIsN, q_fCI, q_fI, q_fI0, q_add1, q_add2, q_add3, q_mul1, q_mul2, q_isBl, q_isInt, q_seq1, q_seq2, q_seq3, q_len1, q_len2, q_len3, q_int1, q_abs, q_two, q_list1, q_list2, q_tuple1, q_tuple2, q_tru1, q_tru2, q_rs1, q_rs2, q_cut1, q_cut2, q_cut3, q_gtT, pVarC]
    intro a
    exact ⟨by simp [sizeLine_eq], q k s ns2 a _ _ _ _ _ _ hp2 (by omega) hk1 hs g7⟩
section
variable {P : Program} {w : World} {K : PySem.W.Frag} {mg : Str → Option Value} {base : Heap} {C_BadCount C_BadNumber C_BadTable C_ReelError : Addr} {f : Addr} {fd : FuncData}
def postLt (_ : PoolT) (r : PW.O) (o : List PW.O) : Prop := ∃ (k s : Nat) (ns' : List Int) (a : Addr), PoolOk ns' ∧ 0 < k ∧ k ≤ 128 ∧ s < k ∧ r = .ow false [.ref a, .lst (nL (ldues k s k))] ∧ o = [.ow true (ns'.map .int), .ce a (((lrows k s k).map nZ).map I1)]
abbrev spLt : PSp := mkSp (fun (a : PoolT) args => args = [.ow true (a.1.map .int)]) postLt noEx
theorem ok__law_long_table (T : Txt K mg C_BadCount C_BadNumber C_BadTable C_ReelError) (c1 : CalD P w K mg base 1 "_law_draw" spDr)
    (Fn : Fun K "_law_long_table" "_law_long_table" s__law_long_table f fd) : FnOk P w K mg base (L2.CX P w) 2 f fd [("pool" : Str)] (spM K spLt) :=
  Fn.M sc__law_long_table (fun a args h => by rw [show args = _ from h]; rfl) (fun cdv A outer s H E hr => d__law_long_table T c1 hr) (fun a args h => by
    rw [show args = _ from h]
    exact p__law_long_table a.2 (fun k s ns' ad _ _ _ _ _ _ h1 h2 h3 h4 h5 => ⟨k, s, ns', ad, h1, h2, h3, h4, rfl, rfl⟩))
end
end K12
set_option Elab.async false
set_option linter.all false
set_option maxRecDepth 100000
set_option maxHeartbeats 4000000
namespace PW
open PySem PySem.Spec PyProof.Rows L2
/-! ### cells behind the slots -/
def cel (l : List (Addr × List D)) : Env := l.map fun p => .ce p.1 p.2
theorem cel_app {l : List (Addr × List D)} {a : Addr} {ds : List D} : cel l ++ [.ce a ds] = cel (l ++ [(a, ds)]) := by simp [cel]
theorem lendGo_cel {e0 : Env} : ∀ {l : List (Addr × List D)}, lendGo e0 (cel l) = []
  | [] => rfl
  | _ :: l => lendGo_cel (l := l)
theorem dropCe_cel {a : Addr} : ∀ {l : List (Addr × List D)}, ∃ l', dropCe a (cel l) = cel l'
  | [] => ⟨[], rfl⟩
  | (b, ds) :: l => by
    obtain ⟨l', h⟩ := dropCe_cel (a := a) (l := l)
    by_cases z : b = a
    · refine ⟨l', ?_⟩
      show (if b = a then dropCe a (cel l) else _) = _
      rw [if_pos z, h]
    · refine ⟨(b, ds) :: l', ?_⟩
      show (if b = a then _ else O.ce b ds :: dropCe a (cel l)) = _
      rw [if_neg z, h]; rfl
theorem cellOf_cel_none {a : Addr} : ∀ {as : List Addr} {C : List (List D)}, as.length = C.length → cellOf (cel (as.zip C)) a = none → a ∉ as
  | [], _, _, _ => by simp
  | b :: as, [], h, _ => by simp at h
  | b :: as, c :: C, h, k => by
    have k' : (if b = a then some c else cellOf (cel (as.zip C)) a) = none := k
    by_cases z : b = a
    · rw [if_pos z] at k'; cases k'
    · rw [if_neg z] at k'
      have := cellOf_cel_none (by simpa using h) k'
      simp [Ne.symm z, this]
theorem cellOf_cel {a : Addr} {c : List D} : ∀ {as : List Addr} {C : List (List D)} {i : Nat}, as.Nodup → as[i]? = some a → C[i]? = some c → cellOf (cel (as.zip C)) a = some c
  | [], _, _, _, h, _ => by simp at h
  | b :: as, [], _, _, _, h => by simp at h
  | b :: as, d :: C, i, hn, h1, h2 => by
    have hn := List.nodup_cons.mp hn
    show (if b = a then some d else cellOf (cel (as.zip C)) a) = _
    cases i with
    | zero => simp at h1 h2; rw [if_pos h1, h2]
    | succ i =>
      have h1 : as[i]? = some a := by simpa using h1
      have : b ≠ a := fun z => hn.1 (z ▸ List.mem_of_getElem? h1)
      rw [if_neg this]
      exact cellOf_cel hn.2 h1 (by simpa using h2)
theorem setCe_cel {a : Addr} {c : List D} : ∀ {as : List Addr} {C : List (List D)} {i : Nat}, as.Nodup → as[i]? = some a → as.length = C.length → setCe a c (cel (as.zip C)) = cel (as.zip (C.set i c))
  | [], _, _, _, h, _ => by simp at h
  | b :: as, [], _, _, _, h => by simp at h
  | b :: as, d :: C, i, hn, h1, h2 => by
    have hn := List.nodup_cons.mp hn
    show (if b = a then O.ce b c :: cel (as.zip C) else O.ce b d :: setCe a c (cel (as.zip C))) = _
    cases i with
    | zero => simp at h1; rw [if_pos h1]; rfl
    | succ i =>
      have h1 : as[i]? = some a := by simpa using h1
      have : b ≠ a := fun z => hn.1 (z ▸ List.mem_of_getElem? h1)
      rw [if_neg this, setCe_cel hn.2 h1 (by simpa using h2)]
      rfl
theorem refs_rv {e : Env} : ∀ {as : List Addr} {C : List (List D)}, as.length = C.length → (∀ (i : Nat) (a : Addr) (c : List D), as[i]? = some a → C[i]? = some c → cellOf e a = some c) → (as.map D.ref).map (rv e) = C.map D.lst
  | [], [], _, _ => rfl
  | [], _ :: _, h, _ => by simp at h
  | _ :: _, [], h, _ => by simp at h
  | a :: as, c :: C, h, k => by
    have h0 := k 0 a c rfl rfl
    have ht := refs_rv (e := e) (as := as) (C := C) (by simpa using h) fun i b d h1 h2 => k (i + 1) b d (by simpa using h1) (by simpa using h2)
    show rv e (.ref a) :: (as.map D.ref).map (rv e) = .lst c :: C.map D.lst
    rw [ht]
    unfold rv
    dsimp only
    rw [h0]
theorem zip_app {as : List Addr} {C : List (List D)} {a : Addr} {c : List D} (h : as.length = C.length) : as.zip C ++ [(a, c)] = (as ++ [a]).zip (C ++ [c]) := by
  rw [List.zip_append h]; rfl
theorem c_un {e : Env} {a : Addr} : cellOf (.un :: e) a = cellOf e a := rfl
theorem c_fz {e : Env} {a : Addr} {d : D} : cellOf (.fz d :: e) a = cellOf e a := rfl
theorem c_ow {e : Env} {a : Addr} {b : Bool} {d : List D} : cellOf (.ow b d :: e) a = cellOf e a := rfl
theorem s_un {e : Env} {a : Addr} {x : List D} : setCe a x (.un :: e) = .un :: setCe a x e := rfl
theorem s_fz {e : Env} {a : Addr} {x : List D} {d : D} : setCe a x (.fz d :: e) = .fz d :: setCe a x e := rfl
theorem s_ow {e : Env} {a : Addr} {x : List D} {b : Bool} {d : List D} : setCe a x (.ow b d :: e) = .ow b d :: setCe a x e := rfl
theorem dr_un {e : Env} {a : Addr} : dropCe a (.un :: e) = .un :: dropCe a e := rfl
theorem dr_fz {e : Env} {a : Addr} {d : D} : dropCe a (.fz d :: e) = .fz d :: dropCe a e := rfl
theorem dr_ow {e : Env} {a : Addr} {b : Bool} {d : List D} : dropCe a (.ow b d :: e) = .ow b d :: dropCe a e := rfl
theorem l_un {e0 e : Env} : lendGo e0 (.un :: e) = .un :: lendGo e0 e := rfl
theorem l_fz {e0 e : Env} {d : D} : lendGo e0 (.fz d :: e) = .fz (rv e0 d) :: lendGo e0 e := rfl
theorem l_ow {e0 e : Env} {b : Bool} {d : List D} : lendGo e0 (.ow b d :: e) = .fz (.lst (d.map (rv e0))) :: lendGo e0 e := rfl
theorem l_nil {e0 : Env} : lendGo e0 [] = [] := rfl
end PW
namespace K12
open PySem PySem.Spec PyProof.Rows L2 PW
theorem rvI {e : PW.Env} {R : List (List Int)} : (R.map I1).map (rv e) = R.map I1 := by
  rw [List.map_map]; rfl
theorem iLI {R : List (List Int)} : (R.map iL).map D.lst = R.map I1 := by
  rw [List.map_map]; rfl
theorem ix0 {x : D} {l : List D} {Q : PW.O → Prop} : fIx (.lst (x :: l)) (.int 0) Q ↔ Q (.fz x) := fIx_seq (d := .lst (x :: l)) rfl (i := 0) rfl
theorem ix1 {x y : D} {l : List D} {Q : PW.O → Prop} : fIx (.lst (x :: y :: l)) (.int 1) Q ↔ Q (.fz y) := fIx_seq (d := .lst (x :: y :: l)) rfl (i := 1) rfl
def lawA (sp__law_draw sp__law_meets sp__law_table : PSp) (t : PSt) : PSt := (pSeq (pAsg 1 (pCut (pArg 0) pNoPt (pPt (pC (.int 63)))))
    (pSeq (pAsg 2 (pLc [3] (pSeqSrc (pVar 1)) (gtN 3) pYes (pFr (p2 fMod (pIn (pFr (pCB gInt (pCons (pIn (pFr (pCB gAbs (pCons (pArg 3) pNil)))) pNil)))) (pIn (pFr (p2 fPow (pIn (pC (.int 10))) (pIn (pC (.int 60))))))))))
    (pSeq (pAsg 4 (pCall sp__law_table [] (pCons (pArg 2) pNil)))
    (pSeq (pAsg 5 (pClaim (pFr (p2 fIx (pArg 4) (pIn (pC (.int 0)))))))
    (pSeq (pAsg 6 (p2 fIx (pArg 4) (pIn (pC (.int 1)))))
    (pSeq (pIf (pNot (pVal (pLend (pFr (pCall sp__law_meets [] (pCons (pIn (pFr (pCB gTuple (pCons (pIn (pFr (pLc [7] (pSeqSrc (pVar 5)) (gtN 7) pYes (pFr (pCB gTuple (pCons (pArg 7) pNil)))))) pNil)))) (pCons (pIn (pVar 5)) (pCons (pIn (pVar 6)) pNil)))))))) (pRet (pFz (pC (.bl false)))) pNext)
    (pSeq (pAsg 8 (pLcV [7] 5 id (gtN 7) pYes (pCe (pCB gList (pCons (pArg 7) pNil)))))
    (pSeq (pIf (pNot (pVal (pLend (pFr (pCall sp__law_meets [] (pCons (pIn (pVar 8)) (pCons (pIn (pVar 5)) (pCons (pIn (pVar 6)) pNil)))))))) (pRet (pFz (pC (.bl false)))) pNext)
    (pSeq (pIf (pB fGt (pIn (pFr (pCB gLen (pCons (pArg 5) pNil)))) (pIn (pC (.int 0)))) (pSeq (pAsg 9 (pCall sp__law_draw [] (pCons (pArg 2) (pCons (pIn (pFr (pCB gLen (pCons (pArg 5) pNil)))) pNil))))
    (pSeq (pDrop (pFz (pClearX (pFr (p2 fIx (pArg 8) (pArg 9))))))
    (pSeq (pSetIx 5 (pArg 9) (pFr (pDisp (fun ds => .ow false ds) pNil)))
    (pIf (pNot (pVal (pLend (pFr (pCall sp__law_meets [] (pCons (pIn (pVar 8)) (pCons (pIn (pVar 5)) (pCons (pIn (pVar 6)) pNil)))))))) (pRet (pFz (pC (.bl false)))) pNext)))) pNext)
    t)))))))))
def lawB (sp__law_draw sp__law_long_table sp__law_out_of_range sp__law_refuses sp__law_size_of_cover sp__law_size_of_pairing sp__law_wrong_rows sp_greatest_pairing sp_pairing_cover : PSp) : PSt := (pSeq (pIf (pOr (pNot (pVal (pFr (pCall sp__law_wrong_rows [] (pCons (pArg 2) pNil))))) (pNot (pVal (pFr (pCall sp__law_out_of_range [] (pCons (pArg 2) pNil)))))) (pRet (pFz (pC (.bl false)))) pNext)
    (pSeq (pAsg 10 (pCall sp__law_draw [] (pCons (pArg 2) (pCons (pIn (pC (.int 129))) pNil))))
    (pSeq (pIf (pOr (pB (fEq true) (pIn (pFr (pCall sp_greatest_pairing [] (pCons (pIn (pFr (pDisp (fun ds => .ow false ds) pNil))) (pCons (pIn (pVar 10)) pNil))))) (pIn (pFr (pDisp (fun ds => .fz (.tup ds)) pNil)))) (pB (fEq true) (pIn (pFr (pCall sp_pairing_cover [] (pCons (pIn (pFr (pDisp (fun ds => .fz (.tup ds)) pNil))) (pCons (pIn (pVar 10)) pNil))))) (pIn (pFr (pDisp (fun ds => .fz (.tup ds)) (pCons (pIn (pFr (pDisp (fun ds => .fz (.tup ds)) pNil))) (pCons (pIn (pFr (pDisp (fun ds => .fz (.tup ds)) pNil))) pNil))))))) (pRet (pFz (pC (.bl false)))) pNext)
    (pSeq (pAsg 4 (pCall sp__law_long_table [] (pCons (pArg 2) pNil)))
    (pSeq (pAsg 5 (pClaim (pFr (p2 fIx (pArg 4) (pIn (pC (.int 0)))))))
    (pSeq (pAsg 11 (pCB gLen (pCons (pArg 5) pNil)))
    (pSeq (pAsg 12 (pCall sp_greatest_pairing [] (pCons (pIn (pFr (pLcV [7] 5 id (gtN 7) pYes (pFr (pCB gList (pCons (pArg 7) pNil)))))) (pCons (pIn (pVar 11)) pNil))))
    (pSeq (pIf (pOr (pB (fEq true) (pIn (pLend (pFr (pCall sp__law_size_of_pairing [] (pCons (pIn (pVar 12)) (pCons (pIn (pVar 5)) pNil)))))) (pArg 11)) (pB (fEq true) (pIn (pFr (pCB gList (pCons (pArg 12) pNil)))) (pIn (pFr (p2 fIx (pArg 4) (pIn (pC (.int 1)))))))) (pRet (pFz (pC (.bl false)))) pNext)
    (pSeq (pAsg 12 (pCall sp_pairing_cover [] (pCons (pIn (pFr (pLcV [7] 5 id (gtN 7) pYes (pFr (pCB gList (pCons (pArg 7) pNil)))))) (pCons (pIn (pVar 11)) pNil))))
    (pSeq (pIf (pB (fEq true) (pIn (pLend (pFr (pCall sp__law_size_of_cover [] (pCons (pIn (pVar 12)) (pCons (pIn (pVar 5)) (pCons (pIn (pVar 11)) pNil))))))) (pArg 11)) (pRet (pFz (pC (.bl false)))) pNext)
    (pSeq (pSetIx 5 (pIn (pFr (p2 fSub (pArg 11) (pIn (pC (.int 1)))))) (pFr (pDisp (fun ds => .ow false ds) (pCons (pIn (pVar 11)) pNil))))
    (pRet (pCall sp__law_refuses [] (pCons (pIn (pVar 5)) (pCons (pIn (pVar 11)) (pCons (pIn (pC (.str "BadTable"))) (pCons (pIn (pC (.str ""))) (pCons (pIn (pFr (p2 fSub (pArg 11) (pIn (pC (.int 1)))))) pNil))))))))))))))))))
theorem b_law_eq {sp__law_draw sp__law_long_table sp__law_meets sp__law_out_of_range sp__law_refuses sp__law_size_of_cover sp__law_size_of_pairing sp__law_table sp__law_wrong_rows sp_greatest_pairing sp_pairing_cover : PSp} : b_law sp__law_draw sp__law_long_table sp__law_meets sp__law_out_of_range sp__law_refuses sp__law_size_of_cover sp__law_size_of_pairing sp__law_table sp__law_wrong_rows sp_greatest_pairing sp_pairing_cover = lawA sp__law_draw sp__law_meets sp__law_table (lawB sp__law_draw sp__law_long_table sp__law_out_of_range sp__law_refuses sp__law_size_of_cover sp__law_size_of_pairing sp__law_wrong_rows sp_greatest_pairing sp_pairing_cover) := rfl
theorem t60 : (10 : Int) ^ Int.toNat 60 = 1000000000000000000000000000000000000000000000000000000000000 := by decide
theorem cut_ints {ns : List Int} {a b : Option Int} : ∃ cs : List Int, PW.cutD (ns.map .int) a b = cs.map .int ∧ cs.length ≤ ns.length := by
  unfold PW.cutD
  refine ⟨(ns.drop (HT.sIx (ns.map D.int).length 0 a)).take (HT.sIx (ns.map D.int).length (ns.map D.int).length b - HT.sIx (ns.map D.int).length 0 a), by rw [List.map_take, List.map_drop], ?_⟩
  simp
  omega
abbrev mod60 (x : Int) : Int := (if x < 0 then -x else x) % 1000000000000000000000000000000000000000000000000000000000000
theorem f_true {α : Type} {l : List α} : l.filter (fun _ => true) = l := List.filter_eq_self.mpr (fun _ _ => rfl)
theorem p_lawA {ns : List Int} (hl : ns.length ≤ 63) {t : PSt} {Z : PEnds}
    (q : ∀ (d0 d1 : D) (ns' : List Int) (T4 T5 T8 : List D) (d6 : D) (o9 : PW.O) (l : List (Addr × List D)), PoolOk ns' → (o9 = .un ∨ ∃ d, o9 = .fz d) → t Z ([.fz d0, .fz d1, .ow false (ns'.map .int), .un, .ow false T4, .ow false T5, .fz d6, .un, .ow false T8, o9, .un, .un, .un] ++ cel l)) :
    lawA spDr spMt spTb t Z [.fz (.rls (ns.map .int)), .un, .un, .un, .un, .un, .un, .un, .un, .un, .un, .un, .un] := by
  unfold lawA
  obtain ⟨cs, hcs, hcl⟩ := cut_ints (ns := ns) (a := none) (b := some 63)
  simp only [pSeq, Option.map_some, Option.map_none, pNext, pIf, pAsg, pRet, pRetN, pDrop, pFor, pForV, pAsgG, pAug, pSetIx, pBrk, pCnt, pFz, pFr, pIn, pVar, pArg, pMv, pC, pCons, pNil, p2, pB, pBl, pCB, ress, res, rv_non, rv_bl, rv_int, rv_str, rv_ty, rv_lst, rv_tup, rv_rls, rv_xr, rv_nc, noCe, stO, true_and, and_true, Bool.not_false, Bool.not_true, rv_oD, isNon_oD, gtN, gtsCons, gtsNil, pNot, pOr, pAnd, pVal, pTru, pNeg, pNotV, pAndV, pOrV, pIfE, pDisp, allInl, pCut, pNoPt, pPt, pSeqSrc, pEnum, enSrc, pRng1, rOf1, pRng2, rOf2, owAt, pApp, pPopAt, pPop, pClear, pLc, pLcV, pYes, noOw, wipeE, restE, rst, pRaise, resL, pCall, argsOf, argO, refIx, wbC, wb, wb1, outsOf, outP, List.getElem?_cons_zero, List.getElem?_cons_succ, List.getElem?_nil, List.set_cons_zero, List.set_cons_succ, List.length_cons, List.length_nil, List.cons_append, List.nil_append, List.append_nil, List.drop_succ_cons, List.drop_zero, List.drop_nil, List.replicate_zero, List.replicate_succ, List.getD_cons_zero, List.getD_cons_succ, Nat.reduceSub, Nat.reduceAdd, Nat.sub_self, if_true, if_false, Bool.false_eq_true, q_frz1, q_frz2, q_stR1, q_stR2, q_free1, q_free2, q_free3, q_isN1, q_isN2, q_fIsN, q_fCI, q_fI, q_fI0, q_add1, q_add2, q_add3, q_mul1, q_mul2, q_isBl, q_isInt, q_seq1, q_seq2, q_seq3, q_len1, q_len2, q_len3, q_int1, q_abs, q_two, q_list1, q_list2, q_tuple1, q_tuple2, q_tru1, q_tru2, q_rs1, q_rs2, q_cut1, q_cut2, q_cut3, q_gtT, t60, hcs]
  refine ⟨by intro j hj; simp at hj; subst hj; trivial, ?_⟩
  refine lcGo_filter cs (fun i => .int i) (fun _ => true) (fun i => .int (mod60 i)) (by simp [sizeLine_eq]; omega) trivial ?_ ?_ rfl
  · intro x hx acc Rk hacc k1 k2
    simp only [pSeq, Option.map_some, Option.map_none, pNext, pIf, pAsg, pRet, pRetN, pDrop, pFor, pForV, pAsgG, pAug, pSetIx, pBrk, pCnt, pFz, pFr, pIn, pVar, pArg, pMv, pC, pCons, pNil, p2, pB, pBl, pCB, ress, res, rv_non, rv_bl, rv_int, rv_str, rv_ty, rv_lst, rv_tup, rv_rls, rv_xr, rv_nc, noCe, stO, true_and, and_true, Bool.not_false, Bool.not_true, rv_oD, isNon_oD, gtN, gtsCons, gtsNil, pNot, pOr, pAnd, pVal, pTru, pNeg, pNotV, pAndV, pOrV, pIfE, pDisp, allInl, pCut, pNoPt, pPt, pSeqSrc, pEnum, enSrc, pRng1, rOf1, pRng2, rOf2, owAt, pApp, pPopAt, pPop, pClear, pLc, pLcV, pYes, noOw, wipeE, restE, rst, pRaise, resL, pCall, argsOf, argO, refIx, wbC, wb, wb1, outsOf, outP, List.getElem?_cons_zero, List.getElem?_cons_succ, List.getElem?_nil, List.set_cons_zero, List.set_cons_succ, List.length_cons, List.length_nil, List.cons_append, List.nil_append, List.append_nil, List.drop_succ_cons, List.drop_zero, List.drop_nil, List.replicate_zero, List.replicate_succ, List.getD_cons_zero, List.getD_cons_succ, Nat.reduceSub, Nat.reduceAdd, Nat.sub_self, if_true, if_false, Bool.false_eq_true, q_frz1, q_frz2, q_stR1, q_stR2, q_free1, q_free2, q_free3, q_isN1, q_isN2, q_fIsN, q_fCI, q_fI, q_fI0, q_add1, q_add2, q_add3, q_mul1, q_mul2, q_isBl, q_isInt, q_seq1, q_seq2, q_seq3, q_len1, q_len2, q_len3, q_int1, q_abs, q_two, q_list1, q_list2, q_tuple1, q_tuple2, q_tru1, q_tru2, q_rs1, q_rs2, q_cut1, q_cut2, q_cut3, q_gtT, t60]
    exact ⟨⟨by decide, by decide⟩, by decide, hacc, by intro j hj; simp at hj; subst hj; trivial, k1 rfl⟩
  have hpool : PoolOk (cs.map mod60) := ⟨by simp; omega, fun n hn => by
    obtain ⟨x, _, rfl⟩ := List.mem_map.mp hn
    exact Int.emod_nonneg _ (by decide)⟩
  rw [f_true, show cs.map (fun i => D.int (mod60 i)) = (cs.map mod60).map .int by rw [List.map_map]; rfl]
  simp only [pSeq, Option.map_some, Option.map_none, pNext, pIf, pAsg, pRet, pRetN, pDrop, pFor, pForV, pAsgG, pAug, pSetIx, pBrk, pCnt, pFz, pFr, pIn, pVar, pArg, pMv, pC, pCons, pNil, p2, pB, pBl, pCB, ress, res, rv_non, rv_bl, rv_int, rv_str, rv_ty, rv_lst, rv_tup, rv_rls, rv_xr, rv_nc, noCe, stO, true_and, and_true, Bool.not_false, Bool.not_true, rv_oD, isNon_oD, gtN, gtsCons, gtsNil, pNot, pOr, pAnd, pVal, pTru, pNeg, pNotV, pAndV, pOrV, pIfE, pDisp, allInl, pCut, pNoPt, pPt, pSeqSrc, pEnum, enSrc, pRng1, rOf1, pRng2, rOf2, owAt, pApp, pPopAt, pPop, pClear, pLc, pLcV, pYes, noOw, wipeE, restE, rst, pRaise, resL, pCall, argsOf, argO, refIx, wbC, wb, wb1, outsOf, outP, List.getElem?_cons_zero, List.getElem?_cons_succ, List.getElem?_nil, List.set_cons_zero, List.set_cons_succ, List.length_cons, List.length_nil, List.cons_append, List.nil_append, List.append_nil, List.drop_succ_cons, List.drop_zero, List.drop_nil, List.replicate_zero, List.replicate_succ, List.getD_cons_zero, List.getD_cons_succ, Nat.reduceSub, Nat.reduceAdd, Nat.sub_self, if_true, if_false, Bool.false_eq_true, q_frz1, q_frz2, q_stR1, q_stR2, q_free1, q_free2, q_free3, q_isN1, q_isN2, q_fIsN, q_fCI, q_fI, q_fI0, q_add1, q_add2, q_add3, q_mul1, q_mul2, q_isBl, q_isInt, q_seq1, q_seq2, q_seq3, q_len1, q_len2, q_len3, q_int1, q_abs, q_two, q_list1, q_list2, q_tuple1, q_tuple2, q_tru1, q_tru2, q_rs1, q_rs2, q_cut1, q_cut2, q_cut3, q_gtT]
  refine callGo_mk _ (⟨cs.map mod60, hpool⟩ : PoolT) rfl (by simp [refIx]) rfl ?_ (fun _ _ h => h.elim)
  rintro r o ⟨N, n, ns', a, hp', hN, hn, hRw, rfl, rfl⟩
  have g := hRw.good hN hn
  simp only [pSeq, Option.map_some, Option.map_none, pNext, pIf, pAsg, pRet, pRetN, pDrop, pFor, pForV, pAsgG, pAug, pSetIx, pBrk, pCnt, pFz, pFr, pIn, pVar, pArg, pMv, pC, pCons, pNil, p2, pB, pBl, pCB, ress, res, rv_non, rv_bl, rv_int, rv_str, rv_ty, rv_lst, rv_tup, rv_rls, rv_xr, rv_nc, noCe, stO, true_and, and_true, Bool.not_false, Bool.not_true, rv_oD, isNon_oD, gtN, gtsCons, gtsNil, pNot, pOr, pAnd, pVal, pTru, pNeg, pNotV, pAndV, pOrV, pIfE, pDisp, allInl, pCut, pNoPt, pPt, pSeqSrc, pEnum, enSrc, pRng1, rOf1, pRng2, rOf2, owAt, pApp, pPopAt, pPop, pClear, pLc, pLcV, pYes, noOw, wipeE, restE, rst, pRaise, resL, pCall, argsOf, argO, refIx, wbC, wb, wb1, outsOf, outP, List.getElem?_cons_zero, List.getElem?_cons_succ, List.getElem?_nil, List.set_cons_zero, List.set_cons_succ, List.length_cons, List.length_nil, List.cons_append, List.nil_append, List.append_nil, List.drop_succ_cons, List.drop_zero, List.drop_nil, List.replicate_zero, List.replicate_succ, List.getD_cons_zero, List.getD_cons_succ, Nat.reduceSub, Nat.reduceAdd, Nat.sub_self, if_true, if_false, Bool.false_eq_true, q_frz1, q_frz2, q_stR1, q_stR2, q_free1, q_free2, q_free3, q_isN1, q_isN2, q_fIsN, q_fCI, q_fI, q_fI0, q_add1, q_add2, q_add3, q_mul1, q_mul2, q_isBl, q_isInt, q_seq1, q_seq2, q_seq3, q_len1, q_len2, q_len3, q_int1, q_abs, q_two, q_list1, q_list2, q_tuple1, q_tuple2, q_tru1, q_tru2, q_rs1, q_rs2, q_cut1, q_cut2, q_cut3, q_gtT, pClaim, ix0, ix1]
  refine ⟨_, 13, rfl, ?_⟩
  simp only [dr_un, dr_fz, dr_ow, show ∀ ds, dropCe a [.ce a ds] = [] from fun ds => by simp [dropCe], pSeq, Option.map_some, Option.map_none, pNext, pIf, pAsg, pRet, pRetN, pDrop, pFor, pForV, pAsgG, pAug, pSetIx, pBrk, pCnt, pFz, pFr, pIn, pVar, pArg, pMv, pC, pCons, pNil, p2, pB, pBl, pCB, ress, res, rv_non, rv_bl, rv_int, rv_str, rv_ty, rv_lst, rv_tup, rv_rls, rv_xr, rv_nc, noCe, stO, true_and, and_true, Bool.not_false, Bool.not_true, rv_oD, isNon_oD, gtN, gtsCons, gtsNil, pNot, pOr, pAnd, pVal, pTru, pNeg, pNotV, pAndV, pOrV, pIfE, pDisp, allInl, pCut, pNoPt, pPt, pSeqSrc, pEnum, enSrc, pRng1, rOf1, pRng2, rOf2, owAt, pApp, pPopAt, pPop, pClear, pLc, pLcV, pYes, noOw, wipeE, restE, rst, pRaise, resL, pCall, argsOf, argO, refIx, wbC, wb, wb1, outsOf, outP, List.getElem?_cons_zero, List.getElem?_cons_succ, List.getElem?_nil, List.set_cons_zero, List.set_cons_succ, List.length_cons, List.length_nil, List.cons_append, List.nil_append, List.append_nil, List.drop_succ_cons, List.drop_zero, List.drop_nil, List.replicate_zero, List.replicate_succ, List.getD_cons_zero, List.getD_cons_succ, Nat.reduceSub, Nat.reduceAdd, Nat.sub_self, if_true, if_false, Bool.false_eq_true, q_frz1, q_frz2, q_stR1, q_stR2, q_free1, q_free2, q_free3, q_isN1, q_isN2, q_fIsN, q_fCI, q_fI, q_fI0, q_add1, q_add2, q_add3, q_mul1, q_mul2, q_isBl, q_isInt, q_seq1, q_seq2, q_seq3, q_len1, q_len2, q_len3, q_int1, q_abs, q_two, q_list1, q_list2, q_tuple1, q_tuple2, q_tru1, q_tru2, q_rs1, q_rs2, q_cut1, q_cut2, q_cut3, q_gtT, ix0, ix1, pLend, lendE, l_un, l_fz, l_ow, l_nil, rvI, PW.scal]
  refine ⟨by intro j hj; simp at hj; subst hj; trivial, ?_⟩
  refine lcGo_filter (N.map nZ) I1 (fun _ => true) (fun l => D.tup (iL l)) (by simp [sizeLine_eq]; omega) trivial ?_ ?_ rfl
  · intro x hx acc Rk hacc k1 k2
    simp only [pSeq, Option.map_some, Option.map_none, pNext, pIf, pAsg, pRet, pRetN, pDrop, pFor, pForV, pAsgG, pAug, pSetIx, pBrk, pCnt, pFz, pFr, pIn, pVar, pArg, pMv, pC, pCons, pNil, p2, pB, pBl, pCB, ress, res, rv_non, rv_bl, rv_int, rv_str, rv_ty, rv_lst, rv_tup, rv_rls, rv_xr, rv_nc, noCe, stO, true_and, and_true, Bool.not_false, Bool.not_true, rv_oD, isNon_oD, gtN, gtsCons, gtsNil, pNot, pOr, pAnd, pVal, pTru, pNeg, pNotV, pAndV, pOrV, pIfE, pDisp, allInl, pCut, pNoPt, pPt, pSeqSrc, pEnum, enSrc, pRng1, rOf1, pRng2, rOf2, owAt, pApp, pPopAt, pPop, pClear, pLc, pLcV, pYes, noOw, wipeE, restE, rst, pRaise, resL, pCall, argsOf, argO, refIx, wbC, wb, wb1, outsOf, outP, List.getElem?_cons_zero, List.getElem?_cons_succ, List.getElem?_nil, List.set_cons_zero, List.set_cons_succ, List.length_cons, List.length_nil, List.cons_append, List.nil_append, List.append_nil, List.drop_succ_cons, List.drop_zero, List.drop_nil, List.replicate_zero, List.replicate_succ, List.getD_cons_zero, List.getD_cons_succ, Nat.reduceSub, Nat.reduceAdd, Nat.sub_self, if_true, if_false, Bool.false_eq_true, q_frz1, q_frz2, q_stR1, q_stR2, q_free1, q_free2, q_free3, q_isN1, q_isN2, q_fIsN, q_fCI, q_fI, q_fI0, q_add1, q_add2, q_add3, q_mul1, q_mul2, q_isBl, q_isInt, q_seq1, q_seq2, q_seq3, q_len1, q_len2, q_len3, q_int1, q_abs, q_two, q_list1, q_list2, q_tuple1, q_tuple2, q_tru1, q_tru2, q_rs1, q_rs2, q_cut1, q_cut2, q_cut3, q_gtT]
    exact ⟨hacc, by intro j hj; simp at hj; subst hj; trivial, k1 rfl⟩
  rw [f_true]
  simp only [pSeq, Option.map_some, Option.map_none, pNext, pIf, pAsg, pRet, pRetN, pDrop, pFor, pForV, pAsgG, pAug, pSetIx, pBrk, pCnt, pFz, pFr, pIn, pVar, pArg, pMv, pC, pCons, pNil, p2, pB, pBl, pCB, ress, res, rv_non, rv_bl, rv_int, rv_str, rv_ty, rv_lst, rv_tup, rv_rls, rv_xr, rv_nc, noCe, stO, true_and, and_true, Bool.not_false, Bool.not_true, rv_oD, isNon_oD, gtN, gtsCons, gtsNil, pNot, pOr, pAnd, pVal, pTru, pNeg, pNotV, pAndV, pOrV, pIfE, pDisp, allInl, pCut, pNoPt, pPt, pSeqSrc, pEnum, enSrc, pRng1, rOf1, pRng2, rOf2, owAt, pApp, pPopAt, pPop, pClear, pLc, pLcV, pYes, noOw, wipeE, restE, rst, pRaise, resL, pCall, argsOf, argO, refIx, wbC, wb, wb1, outsOf, outP, List.getElem?_cons_zero, List.getElem?_cons_succ, List.getElem?_nil, List.set_cons_zero, List.set_cons_succ, List.length_cons, List.length_nil, List.cons_append, List.nil_append, List.append_nil, List.drop_succ_cons, List.drop_zero, List.drop_nil, List.replicate_zero, List.replicate_succ, List.getD_cons_zero, List.getD_cons_succ, Nat.reduceSub, Nat.reduceAdd, Nat.sub_self, if_true, if_false, Bool.false_eq_true, q_frz1, q_frz2, q_stR1, q_stR2, q_free1, q_free2, q_free3, q_isN1, q_isN2, q_fIsN, q_fCI, q_fI, q_fI0, q_add1, q_add2, q_add3, q_mul1, q_mul2, q_isBl, q_isInt, q_seq1, q_seq2, q_seq3, q_len1, q_len2, q_len3, q_int1, q_abs, q_two, q_list1, q_list2, q_tuple1, q_tuple2, q_tru1, q_tru2, q_rs1, q_rs2, q_cut1, q_cut2, q_cut3, q_gtT]
  refine callGo_mk _ (⟨.tup ((N.map nZ).map fun l => D.tup (iL l)), N, n, ⟨_, rfl, by simp, fun r row h => ⟨D.tup (iL row), by rw [List.getElem?_map, h]; rfl, rfl⟩⟩, g⟩ : AMt) rfl (by simp [refIx]) rfl ?_ (fun _ _ h => h.elim)
  rintro r o ⟨rfl, rfl⟩
  simp only [pSeq, Option.map_some, Option.map_none, pNext, pIf, pAsg, pRet, pRetN, pDrop, pFor, pForV, pAsgG, pAug, pSetIx, pBrk, pCnt, pFz, pFr, pIn, pVar, pArg, pMv, pC, pCons, pNil, p2, pB, pBl, pCB, ress, res, rv_non, rv_bl, rv_int, rv_str, rv_ty, rv_lst, rv_tup, rv_rls, rv_xr, rv_nc, noCe, stO, true_and, and_true, Bool.not_false, Bool.not_true, rv_oD, isNon_oD, gtN, gtsCons, gtsNil, pNot, pOr, pAnd, pVal, pTru, pNeg, pNotV, pAndV, pOrV, pIfE, pDisp, allInl, pCut, pNoPt, pPt, pSeqSrc, pEnum, enSrc, pRng1, rOf1, pRng2, rOf2, owAt, pApp, pPopAt, pPop, pClear, pLc, pLcV, pYes, noOw, wipeE, restE, rst, pRaise, resL, pCall, argsOf, argO, refIx, wbC, wb, wb1, outsOf, outP, List.getElem?_cons_zero, List.getElem?_cons_succ, List.getElem?_nil, List.set_cons_zero, List.set_cons_succ, List.length_cons, List.length_nil, List.cons_append, List.nil_append, List.append_nil, List.drop_succ_cons, List.drop_zero, List.drop_nil, List.replicate_zero, List.replicate_succ, List.getD_cons_zero, List.getD_cons_succ, Nat.reduceSub, Nat.reduceAdd, Nat.sub_self, if_true, if_false, Bool.false_eq_true, q_frz1, q_frz2, q_stR1, q_stR2, q_free1, q_free2, q_free3, q_isN1, q_isN2, q_fIsN, q_fCI, q_fI, q_fI0, q_add1, q_add2, q_add3, q_mul1, q_mul2, q_isBl, q_isInt, q_seq1, q_seq2, q_seq3, q_len1, q_len2, q_len3, q_int1, q_abs, q_two, q_list1, q_list2, q_tuple1, q_tuple2, q_tru1, q_tru2, q_rs1, q_rs2, q_cut1, q_cut2, q_cut3, q_gtT]
  have hlen : ((N.map nZ).map iL).length = N.length := by simp
  refine ⟨by intro j hj; simp at hj; subst hj; trivial, ?_⟩
  refine lcGo_inv (fun i acc e => ∃ as : List Addr, as.length = i ∧ as.Nodup ∧ acc = as.map D.ref ∧ e = [.fz (.rls (ns.map .int)), .fz (.lst (cs.map .int)), .ow false (ns'.map .int), .un, .ow false [.ref a, .int (n : Int)], .ow true ((N.map nZ).map I1), .fz (.int (n : Int)), .un, .un, .un, .un, .un, .un] ++ cel (as.zip (((N.map nZ).map iL).take i))) (fun i a e _ h => by obtain ⟨as, _, _, _, rfl⟩ := h; rfl) ?_ ?_ ⟨[], rfl, List.nodup_nil, rfl, rfl⟩
  · rintro i d acc e Rk hd ⟨as, has, hnd, rfl, rfl⟩ hRk
    have hi : i < N.length := by have := (List.getElem?_eq_some_iff.mp hd).1; simpa using this
    obtain ⟨row, hrow⟩ : ∃ row, (N.map nZ)[i]? = some row := ⟨_, List.getElem?_eq_getElem (by simpa using hi)⟩
    have hd' : d = I1 row := by
      have h : ((N.map nZ).map I1)[i]? = some d := hd
      rw [List.getElem?_map, hrow] at h
      exact (Option.some.inj h).symm
    subst hd'
    have hC : ((N.map nZ).map iL)[i]? = some (iL row) := by rw [List.getElem?_map, hrow]; rfl
    simp only [pSeq, Option.map_some, Option.map_none, pNext, pIf, pAsg, pRet, pRetN, pDrop, pFor, pForV, pAsgG, pAug, pSetIx, pBrk, pCnt, pFz, pFr, pIn, pVar, pArg, pMv, pC, pCons, pNil, p2, pB, pBl, pCB, ress, res, rv_non, rv_bl, rv_int, rv_str, rv_ty, rv_lst, rv_tup, rv_rls, rv_xr, rv_nc, noCe, stO, true_and, and_true, Bool.not_false, Bool.not_true, rv_oD, isNon_oD, gtN, gtsCons, gtsNil, pNot, pOr, pAnd, pVal, pTru, pNeg, pNotV, pAndV, pOrV, pIfE, pDisp, allInl, pCut, pNoPt, pPt, pSeqSrc, pEnum, enSrc, pRng1, rOf1, pRng2, rOf2, owAt, pApp, pPopAt, pPop, pClear, pLc, pLcV, pYes, noOw, wipeE, restE, rst, pRaise, resL, pCall, argsOf, argO, refIx, wbC, wb, wb1, outsOf, outP, List.getElem?_cons_zero, List.getElem?_cons_succ, List.getElem?_nil, List.set_cons_zero, List.set_cons_succ, List.length_cons, List.length_nil, List.cons_append, List.nil_append, List.append_nil, List.drop_succ_cons, List.drop_zero, List.drop_nil, List.replicate_zero, List.replicate_succ, List.getD_cons_zero, List.getD_cons_succ, Nat.reduceSub, Nat.reduceAdd, Nat.sub_self, if_true, if_false, Bool.false_eq_true, q_frz1, q_frz2, q_stR1, q_stR2, q_free1, q_free2, q_free3, q_isN1, q_isN2, q_fIsN, q_fCI, q_fI, q_fI0, q_add1, q_add2, q_add3, q_mul1, q_mul2, q_isBl, q_isInt, q_seq1, q_seq2, q_seq3, q_len1, q_len2, q_len3, q_int1, q_abs, q_two, q_list1, q_list2, q_tuple1, q_tuple2, q_tru1, q_tru2, q_rs1, q_rs2, q_cut1, q_cut2, q_cut3, q_gtT, pCe, I1]
    intro b hb
    simp only [c_un, c_fz, c_ow] at hb
    have hz : as.length = (((N.map nZ).map iL).take i).length := by simp; omega
    refine ⟨by rw [List.length_map]; rw [sizeLine_eq]; omega, by intro j hj; simp at hj; subst hj; trivial, hRk _ _ ⟨as ++ [b], by simp [has], ?_, by simp, ?_⟩⟩
    · rw [List.nodup_append]
      refine ⟨hnd, by simp, fun x hx y hy => ?_⟩
      simp at hy; subst hy
      rintro rfl
      exact cellOf_cel_none hz hb hx
    · rw [List.take_succ_eq_append_getElem (by rw [hlen]; exact hi)]
      have e1 : ((N.map nZ).map iL)[i]'(by rw [hlen]; exact hi) = iL row := by
        have := List.getElem?_eq_getElem (l := (N.map nZ).map iL) (by rw [hlen]; exact hi)
        rw [hC] at this; exact (Option.some.inj this).symm
      rw [e1, ← zip_app hz, ← cel_app]
      rfl
  rintro acc e ⟨as, has, hnd, rfl, rfl⟩
  have hk : (((N.map nZ).map I1)).length = N.length := by simp
  have has' : as.length = N.length := by rw [has]; exact hk
  rw [show id ((N.map nZ).map I1) = (N.map nZ).map I1 from rfl, hk, List.take_of_length_le (by rw [hlen]; exact Nat.le_refl _)]
  have hrefs : ∀ (e0 : PW.Env) (C : List (List Int)), C.length = N.length → (∀ x, cellOf e0 x = cellOf (cel (as.zip (C.map iL))) x) → (as.map D.ref).map (rv e0) = C.map I1 := fun e0 C hC hx => by
    rw [← iLI]
    refine refs_rv (by rw [has']; simp [hC]) fun i x c h1 h2 => ?_
    rw [hx]
    exact cellOf_cel hnd h1 h2
  simp only [pSeq, Option.map_some, Option.map_none, pNext, pIf, pAsg, pRet, pRetN, pDrop, pFor, pForV, pAsgG, pAug, pSetIx, pBrk, pCnt, pFz, pFr, pIn, pVar, pArg, pMv, pC, pCons, pNil, p2, pB, pBl, pCB, ress, res, rv_non, rv_bl, rv_int, rv_str, rv_ty, rv_lst, rv_tup, rv_rls, rv_xr, rv_nc, noCe, stO, true_and, and_true, Bool.not_false, Bool.not_true, rv_oD, isNon_oD, gtN, gtsCons, gtsNil, pNot, pOr, pAnd, pVal, pTru, pNeg, pNotV, pAndV, pOrV, pIfE, pDisp, allInl, pCut, pNoPt, pPt, pSeqSrc, pEnum, enSrc, pRng1, rOf1, pRng2, rOf2, owAt, pApp, pPopAt, pPop, pClear, pLc, pLcV, pYes, noOw, wipeE, restE, rst, pRaise, resL, pCall, argsOf, argO, refIx, wbC, wb, wb1, outsOf, outP, List.getElem?_cons_zero, List.getElem?_cons_succ, List.getElem?_nil, List.set_cons_zero, List.set_cons_succ, List.length_cons, List.length_nil, List.cons_append, List.nil_append, List.append_nil, List.drop_succ_cons, List.drop_zero, List.drop_nil, List.replicate_zero, List.replicate_succ, List.getD_cons_zero, List.getD_cons_succ, Nat.reduceSub, Nat.reduceAdd, Nat.sub_self, if_true, if_false, Bool.false_eq_true, q_frz1, q_frz2, q_stR1, q_stR2, q_free1, q_free2, q_free3, q_isN1, q_isN2, q_fIsN, q_fCI, q_fI, q_fI0, q_add1, q_add2, q_add3, q_mul1, q_mul2, q_isBl, q_isInt, q_seq1, q_seq2, q_seq3, q_len1, q_len2, q_len3, q_int1, q_abs, q_two, q_list1, q_list2, q_tuple1, q_tuple2, q_tru1, q_tru2, q_rs1, q_rs2, q_cut1, q_cut2, q_cut3, q_gtT, pLend, lendE, l_un, l_fz, l_ow, l_nil, rvI, PW.scal]
  rw [hrefs _ (N.map nZ) (by simp) (fun x => by simp only [c_un, c_fz, c_ow])]
  refine callGo_mk _ (⟨I2 (N.map nZ), N, n, tabZ_I2 _, g⟩ : AMt) rfl (by simp [refIx]) rfl ?_ (fun _ _ h => h.elim)
  rintro r o ⟨rfl, rfl⟩
  simp only [pSeq, Option.map_some, Option.map_none, pNext, pIf, pAsg, pRet, pRetN, pDrop, pFor, pForV, pAsgG, pAug, pSetIx, pBrk, pCnt, pFz, pFr, pIn, pVar, pArg, pMv, pC, pCons, pNil, p2, pB, pBl, pCB, ress, res, rv_non, rv_bl, rv_int, rv_str, rv_ty, rv_lst, rv_tup, rv_rls, rv_xr, rv_nc, noCe, stO, true_and, and_true, Bool.not_false, Bool.not_true, rv_oD, isNon_oD, gtN, gtsCons, gtsNil, pNot, pOr, pAnd, pVal, pTru, pNeg, pNotV, pAndV, pOrV, pIfE, pDisp, allInl, pCut, pNoPt, pPt, pSeqSrc, pEnum, enSrc, pRng1, rOf1, pRng2, rOf2, owAt, pApp, pPopAt, pPop, pClear, pLc, pLcV, pYes, noOw, wipeE, restE, rst, pRaise, resL, pCall, argsOf, argO, refIx, wbC, wb, wb1, outsOf, outP, List.getElem?_cons_zero, List.getElem?_cons_succ, List.getElem?_nil, List.set_cons_zero, List.set_cons_succ, List.length_cons, List.length_nil, List.cons_append, List.nil_append, List.append_nil, List.drop_succ_cons, List.drop_zero, List.drop_nil, List.replicate_zero, List.replicate_succ, List.getD_cons_zero, List.getD_cons_succ, Nat.reduceSub, Nat.reduceAdd, Nat.sub_self, if_true, if_false, Bool.false_eq_true, q_frz1, q_frz2, q_stR1, q_stR2, q_free1, q_free2, q_free3, q_isN1, q_isN2, q_fIsN, q_fCI, q_fI, q_fI0, q_add1, q_add2, q_add3, q_mul1, q_mul2, q_isBl, q_isInt, q_seq1, q_seq2, q_seq3, q_len1, q_len2, q_len3, q_int1, q_abs, q_two, q_list1, q_list2, q_tuple1, q_tuple2, q_tru1, q_tru2, q_rs1, q_rs2, q_cut1, q_cut2, q_cut3, q_gtT, PW.scal]
  split
  · rename_i hpos
    have hNl : 0 < N.length := by simpa using hpos
    refine callGo_mk _ (⟨ns', (((N.map nZ).map I1).length : Int), divOk (by simp; omega) (by simp; omega), hp'⟩ : ADr) rfl (by simp [refIx]) rfl ?_ (fun _ _ h => h.elim)
    rintro r o ⟨v, ns2, h0, h1, hp2, rfl, rfl⟩
    obtain ⟨p, rfl, hp⟩ : ∃ p : Nat, v = (p : Int) ∧ p < N.length := ⟨v.toNat, by omega, by
      have : v < (((N.map nZ).map I1).length : Int) := h1
      simp at this; omega⟩
    obtain ⟨b, hb⟩ : ∃ b, as[p]? = some b := ⟨_, List.getElem?_eq_getElem (by omega)⟩
    obtain ⟨row, hrow⟩ : ∃ row, (N.map nZ)[p]? = some row := ⟨_, List.getElem?_eq_getElem (by simpa using hp)⟩
    have hC : ((N.map nZ).map iL)[p]? = some (iL row) := by rw [List.getElem?_map, hrow]; rfl
    have hbr : (as.map D.ref)[p]? = some (.ref b) := by rw [List.getElem?_map, hb]; rfl
    simp only [pSeq, Option.map_some, Option.map_none, pNext, pIf, pAsg, pRet, pRetN, pDrop, pFor, pForV, pAsgG, pAug, pSetIx, pBrk, pCnt, pFz, pFr, pIn, pVar, pArg, pMv, pC, pCons, pNil, p2, pB, pBl, pCB, ress, res, rv_non, rv_bl, rv_int, rv_str, rv_ty, rv_lst, rv_tup, rv_rls, rv_xr, rv_nc, noCe, stO, true_and, and_true, Bool.not_false, Bool.not_true, rv_oD, isNon_oD, gtN, gtsCons, gtsNil, pNot, pOr, pAnd, pVal, pTru, pNeg, pNotV, pAndV, pOrV, pIfE, pDisp, allInl, pCut, pNoPt, pPt, pSeqSrc, pEnum, enSrc, pRng1, rOf1, pRng2, rOf2, owAt, pApp, pPopAt, pPop, pClear, pLc, pLcV, pYes, noOw, wipeE, restE, rst, pRaise, resL, pCall, argsOf, argO, refIx, wbC, wb, wb1, outsOf, outP, List.getElem?_cons_zero, List.getElem?_cons_succ, List.getElem?_nil, List.set_cons_zero, List.set_cons_succ, List.length_cons, List.length_nil, List.cons_append, List.nil_append, List.append_nil, List.drop_succ_cons, List.drop_zero, List.drop_nil, List.replicate_zero, List.replicate_succ, List.getD_cons_zero, List.getD_cons_succ, Nat.reduceSub, Nat.reduceAdd, Nat.sub_self, if_true, if_false, Bool.false_eq_true, q_frz1, q_frz2, q_stR1, q_stR2, q_free1, q_free2, q_free3, q_isN1, q_isN2, q_fIsN, q_fCI, q_fI, q_fI0, q_add1, q_add2, q_add3, q_mul1, q_mul2, q_isBl, q_isInt, q_seq1, q_seq2, q_seq3, q_len1, q_len2, q_len3, q_int1, q_abs, q_two, q_list1, q_list2, q_tuple1, q_tuple2, q_tru1, q_tru2, q_rs1, q_rs2, q_cut1, q_cut2, q_cut3, q_gtT, pClearX]
    rw [fIx_seq (d := .lst (as.map D.ref)) rfl hbr]
    simp only [pSeq, Option.map_some, Option.map_none, pNext, pIf, pAsg, pRet, pRetN, pDrop, pFor, pForV, pAsgG, pAug, pSetIx, pBrk, pCnt, pFz, pFr, pIn, pVar, pArg, pMv, pC, pCons, pNil, p2, pB, pBl, pCB, ress, res, rv_non, rv_bl, rv_int, rv_str, rv_ty, rv_lst, rv_tup, rv_rls, rv_xr, rv_nc, noCe, stO, true_and, and_true, Bool.not_false, Bool.not_true, rv_oD, isNon_oD, gtN, gtsCons, gtsNil, pNot, pOr, pAnd, pVal, pTru, pNeg, pNotV, pAndV, pOrV, pIfE, pDisp, allInl, pCut, pNoPt, pPt, pSeqSrc, pEnum, enSrc, pRng1, rOf1, pRng2, rOf2, owAt, pApp, pPopAt, pPop, pClear, pLc, pLcV, pYes, noOw, wipeE, restE, rst, pRaise, resL, pCall, argsOf, argO, refIx, wbC, wb, wb1, outsOf, outP, List.getElem?_cons_zero, List.getElem?_cons_succ, List.getElem?_nil, List.set_cons_zero, List.set_cons_succ, List.length_cons, List.length_nil, List.cons_append, List.nil_append, List.append_nil, List.drop_succ_cons, List.drop_zero, List.drop_nil, List.replicate_zero, List.replicate_succ, List.getD_cons_zero, List.getD_cons_succ, Nat.reduceSub, Nat.reduceAdd, Nat.sub_self, if_true, if_false, Bool.false_eq_true, q_frz1, q_frz2, q_stR1, q_stR2, q_free1, q_free2, q_free3, q_isN1, q_isN2, q_fIsN, q_fCI, q_fI, q_fI0, q_add1, q_add2, q_add3, q_mul1, q_mul2, q_isBl, q_isInt, q_seq1, q_seq2, q_seq3, q_len1, q_len2, q_len3, q_int1, q_abs, q_two, q_list1, q_list2, q_tuple1, q_tuple2, q_tru1, q_tru2, q_rs1, q_rs2, q_cut1, q_cut2, q_cut3, q_gtT]
    refine ⟨iL row, by simp only [c_un, c_fz, c_ow]; exact cellOf_cel hnd hb hC, ?_⟩
    simp only [pSeq, Option.map_some, Option.map_none, pNext, pIf, pAsg, pRet, pRetN, pDrop, pFor, pForV, pAsgG, pAug, pSetIx, pBrk, pCnt, pFz, pFr, pIn, pVar, pArg, pMv, pC, pCons, pNil, p2, pB, pBl, pCB, ress, res, rv_non, rv_bl, rv_int, rv_str, rv_ty, rv_lst, rv_tup, rv_rls, rv_xr, rv_nc, noCe, stO, true_and, and_true, Bool.not_false, Bool.not_true, rv_oD, isNon_oD, gtN, gtsCons, gtsNil, pNot, pOr, pAnd, pVal, pTru, pNeg, pNotV, pAndV, pOrV, pIfE, pDisp, allInl, pCut, pNoPt, pPt, pSeqSrc, pEnum, enSrc, pRng1, rOf1, pRng2, rOf2, owAt, pApp, pPopAt, pPop, pClear, pLc, pLcV, pYes, noOw, wipeE, restE, rst, pRaise, resL, pCall, argsOf, argO, refIx, wbC, wb, wb1, outsOf, outP, List.getElem?_cons_zero, List.getElem?_cons_succ, List.getElem?_nil, List.set_cons_zero, List.set_cons_succ, List.length_cons, List.length_nil, List.cons_append, List.nil_append, List.append_nil, List.drop_succ_cons, List.drop_zero, List.drop_nil, List.replicate_zero, List.replicate_succ, List.getD_cons_zero, List.getD_cons_succ, Nat.reduceSub, Nat.reduceAdd, Nat.sub_self, if_true, if_false, Bool.false_eq_true, q_frz1, q_frz2, q_stR1, q_stR2, q_free1, q_free2, q_free3, q_isN1, q_isN2, q_fIsN, q_fCI, q_fI, q_fI0, q_add1, q_add2, q_add3, q_mul1, q_mul2, q_isBl, q_isInt, q_seq1, q_seq2, q_seq3, q_len1, q_len2, q_len3, q_int1, q_abs, q_two, q_list1, q_list2, q_tuple1, q_tuple2, q_tru1, q_tru2, q_rs1, q_rs2, q_cut1, q_cut2, q_cut3, q_gtT, s_un, s_fz, s_ow, setCe_cel hnd hb (by rw [hlen]; exact has'), pLend, lendE, l_un, l_fz, l_ow, l_nil, rvI, PW.scal]
    refine ⟨Nat.zero_le _, p, ixN_nat (by simp; omega), ?_⟩
    have s1 : ((N.map nZ).map I1).set p (.lst []) = ((N.set p []).map nZ).map I1 := by rw [List.map_set, List.map_set]; rfl
    have s2 : ((N.map nZ).map iL).set p [] = ((N.set p []).map nZ).map iL := by rw [List.map_set, List.map_set]; rfl
    rw [s1, s2, hrefs _ ((N.set p []).map nZ) (by simp) (fun x => by simp only [c_un, c_fz, c_ow])]
    simp only [rvI]
    have hR2 : Rws n (N.set p []) := fun r hr => by
      rcases List.mem_or_eq_of_mem_set hr with h | rfl
      · exact hRw r h
      · rfl
    refine callGo_mk _ (⟨I2 ((N.set p []).map nZ), N.set p [], n, tabZ_I2 _, hR2.good (by simpa using hN) hn⟩ : AMt) rfl (by simp [refIx]) rfl ?_ (fun _ _ h => h.elim)
    rintro r o ⟨rfl, rfl⟩
    simp only [pSeq, Option.map_some, Option.map_none, pNext, pIf, pAsg, pRet, pRetN, pDrop, pFor, pForV, pAsgG, pAug, pSetIx, pBrk, pCnt, pFz, pFr, pIn, pVar, pArg, pMv, pC, pCons, pNil, p2, pB, pBl, pCB, ress, res, rv_non, rv_bl, rv_int, rv_str, rv_ty, rv_lst, rv_tup, rv_rls, rv_xr, rv_nc, noCe, stO, true_and, and_true, Bool.not_false, Bool.not_true, rv_oD, isNon_oD, gtN, gtsCons, gtsNil, pNot, pOr, pAnd, pVal, pTru, pNeg, pNotV, pAndV, pOrV, pIfE, pDisp, allInl, pCut, pNoPt, pPt, pSeqSrc, pEnum, enSrc, pRng1, rOf1, pRng2, rOf2, owAt, pApp, pPopAt, pPop, pClear, pLc, pLcV, pYes, noOw, wipeE, restE, rst, pRaise, resL, pCall, argsOf, argO, refIx, wbC, wb, wb1, outsOf, outP, List.getElem?_cons_zero, List.getElem?_cons_succ, List.getElem?_nil, List.set_cons_zero, List.set_cons_succ, List.length_cons, List.length_nil, List.cons_append, List.nil_append, List.append_nil, List.drop_succ_cons, List.drop_zero, List.drop_nil, List.replicate_zero, List.replicate_succ, List.getD_cons_zero, List.getD_cons_succ, Nat.reduceSub, Nat.reduceAdd, Nat.sub_self, if_true, if_false, Bool.false_eq_true, q_frz1, q_frz2, q_stR1, q_stR2, q_free1, q_free2, q_free3, q_isN1, q_isN2, q_fIsN, q_fCI, q_fI, q_fI0, q_add1, q_add2, q_add3, q_mul1, q_mul2, q_isBl, q_isInt, q_seq1, q_seq2, q_seq3, q_len1, q_len2, q_len3, q_int1, q_abs, q_two, q_list1, q_list2, q_tuple1, q_tuple2, q_tru1, q_tru2, q_rs1, q_rs2, q_cut1, q_cut2, q_cut3, q_gtT, PW.scal]
    exact q _ _ ns2 _ _ _ _ (.fz (.int (p : Int))) _ hp2 (.inr ⟨_, rfl⟩)
  · exact q _ _ ns' _ _ _ _ .un _ hp' (.inl rfl)
end K12
set_option Elab.async false
set_option linter.all false
set_option maxRecDepth 100000
set_option maxHeartbeats 4000000
namespace K12
open PySem PySem.Spec PyProof.Rows L2 PW
theorem fEq_t0 {Q : Bool → Prop} : fEq true (.tup []) (.tup []) Q ↔ Q false := by
  show ((SeqAt.shaped (.tuple []) = true ∧ SeqAt.shaped (.tuple []) = true) ∧ Q (!PyData.eqv (.tuple []) (.tuple []))) ↔ _
  rw [show SeqAt.shaped (.tuple []) = true by decide +kernel, show PyData.eqv (.tuple []) (.tuple []) = true by decide +kernel]
  simp
theorem fEq_t2 {Q : Bool → Prop} : fEq true (.tup [.tup [], .tup []]) (.tup [.tup [], .tup []]) Q ↔ Q false := by
  show ((SeqAt.shaped (.tuple [.tuple [], .tuple []]) = true ∧ SeqAt.shaped (.tuple [.tuple [], .tuple []]) = true) ∧ Q (!PyData.eqv (.tuple [.tuple [], .tuple []]) (.tuple [.tuple [], .tuple []]))) ↔ _
  rw [show SeqAt.shaped (.tuple [.tuple [], .tuple []]) = true by decide +kernel, show PyData.eqv (.tuple [.tuple [], .tuple []]) (.tuple [.tuple [], .tuple []]) = true by decide +kernel]
  simp
theorem cov_nil {n : Nat} {P O : List (Option Nat)} {RM CM : List Bool} (C : Cov [] n P O RM CM) : covD RM CM = .tup [.tup [], .tup []] := by
  have h := cov_size C
  have hP : P = [] := List.length_eq_zero_iff.mp C.B.M.lp
  subst hP
  have h0 : nm ([] : List (Option Nat)) = 0 := rfl
  rw [h0] at h
  have h1 : whereN (! ·) RM = [] := List.length_eq_zero_iff.mp (by omega)
  have h2 : whereN id CM = [] := List.length_eq_zero_iff.mp (by omega)
  unfold covD
  rw [h1, h2]
  rfl
theorem nil_of {N : List (List Nat)} (h : ([] : List (List Int)) = N.map nZ) : N = [] := by
  cases N with
  | nil => rfl
  | cons a N => cases h
theorem tab_nil {d : D} (h : seqOf d = some []) : TabZ d [] := ⟨[], h, rfl, fun r row h => by simp at h⟩
theorem no_wrong {R : List (List Int)} {m : Int} (g : Good R m) {CC CN CT : Addr} {x : Er} : ¬ Wrong CC CN CT R m x := fun hw => by
  have g0 := g.m0
  have g1 := g.m1
  have g2 := g.l
  cases hw with
  | many h => omega
  | cols h h2 => omega
  | row h h2 h3 i row h4 h5 h6 =>
    have := g.rows row (List.mem_of_getElem? h4)
    rw [h5] at this; cases this
theorem lpair_oL {k s : Nat} : oL (lpair k s) = nL (ldues k s k) := by
  show ((ldues k s k).map some).map oD = _
  rw [List.map_map]
  rfl
theorem p_lawB {CC CN CT : Addr} {d0 d1 d6 : D} {ns' : List Int} {T4 T5 T8 : List D} {o9 : PW.O} {l : List (Addr × List D)} (hp : PoolOk ns') (h9 : o9 = .un ∨ ∃ d, o9 = .fz d) {Z : PEnds} (q : ∀ e, Z.rt (.fz (.bl true)) e) :
    lawB spDr spLt spBp spRs spSc spSp spBp (spGp CC CN CT) (spPc CC CN CT) Z ([.fz d0, .fz d1, .ow false (ns'.map .int), .un, .ow false T4, .ow false T5, .fz d6, .un, .ow false T8, o9, .un, .un, .un] ++ cel l) := by
  unfold lawB
  simp only [pSeq, Option.map_some, Option.map_none, pNext, pIf, pAsg, pRet, pRetN, pDrop, pFor, pForV, pAsgG, pAug, pSetIx, pBrk, pCnt, pFz, pFr, pIn, pVar, pArg, pMv, pC, pCons, pNil, p2, pB, pBl, pCB, ress, res, rv_non, rv_bl, rv_int, rv_str, rv_ty, rv_lst, rv_tup, rv_rls, rv_xr, rv_nc, noCe, stO, true_and, and_true, Bool.not_false, Bool.not_true, rv_oD, isNon_oD, gtN, gtsCons, gtsNil, pNot, pOr, pAnd, pVal, pTru, pNeg, pNotV, pAndV, pOrV, pIfE, pDisp, allInl, pCut, pNoPt, pPt, pSeqSrc, pEnum, enSrc, pRng1, rOf1, pRng2, rOf2, owAt, pApp, pPopAt, pPop, pClear, pLc, pLcV, pYes, noOw, wipeE, restE, rst, pRaise, resL, pCall, argsOf, argO, refIx, wbC, wb, wb1, outsOf, outP, List.getElem?_cons_zero, List.getElem?_cons_succ, List.getElem?_nil, List.set_cons_zero, List.set_cons_succ, List.length_cons, List.length_nil, List.cons_append, List.nil_append, List.append_nil, List.drop_succ_cons, List.drop_zero, List.drop_nil, List.replicate_zero, List.replicate_succ, List.getD_cons_zero, List.getD_cons_succ, Nat.reduceSub, Nat.reduceAdd, Nat.sub_self, if_true, if_false, Bool.false_eq_true, q_frz1, q_frz2, q_stR1, q_stR2, q_free1, q_free2, q_free3, q_isN1, q_isN2, q_fIsN, q_fCI, q_fI, q_fI0, q_add1, q_add2, q_add3, q_mul1, q_mul2, q_isBl, q_isInt, q_seq1, q_seq2, q_seq3, q_len1, q_len2, q_len3, q_int1, q_abs, q_two, q_list1, q_list2, q_tuple1, q_tuple2, q_tru1, q_tru2, q_rs1, q_rs2, q_cut1, q_cut2, q_cut3, q_gtT]
  refine callGo_mk _ (⟨ns', hp⟩ : PoolT) rfl (by simp [refIx]) rfl ?_ (fun _ _ h => h.elim)
  rintro r o ⟨ns2, hp2, rfl, rfl⟩
  simp only [pSeq, Option.map_some, Option.map_none, pNext, pIf, pAsg, pRet, pRetN, pDrop, pFor, pForV, pAsgG, pAug, pSetIx, pBrk, pCnt, pFz, pFr, pIn, pVar, pArg, pMv, pC, pCons, pNil, p2, pB, pBl, pCB, ress, res, rv_non, rv_bl, rv_int, rv_str, rv_ty, rv_lst, rv_tup, rv_rls, rv_xr, rv_nc, noCe, stO, true_and, and_true, Bool.not_false, Bool.not_true, rv_oD, isNon_oD, gtN, gtsCons, gtsNil, pNot, pOr, pAnd, pVal, pTru, pNeg, pNotV, pAndV, pOrV, pIfE, pDisp, allInl, pCut, pNoPt, pPt, pSeqSrc, pEnum, enSrc, pRng1, rOf1, pRng2, rOf2, owAt, pApp, pPopAt, pPop, pClear, pLc, pLcV, pYes, noOw, wipeE, restE, rst, pRaise, resL, pCall, argsOf, argO, refIx, wbC, wb, wb1, outsOf, outP, List.getElem?_cons_zero, List.getElem?_cons_succ, List.getElem?_nil, List.set_cons_zero, List.set_cons_succ, List.length_cons, List.length_nil, List.cons_append, List.nil_append, List.append_nil, List.drop_succ_cons, List.drop_zero, List.drop_nil, List.replicate_zero, List.replicate_succ, List.getD_cons_zero, List.getD_cons_succ, Nat.reduceSub, Nat.reduceAdd, Nat.sub_self, if_true, if_false, Bool.false_eq_true, q_frz1, q_frz2, q_stR1, q_stR2, q_free1, q_free2, q_free3, q_isN1, q_isN2, q_fIsN, q_fCI, q_fI, q_fI0, q_add1, q_add2, q_add3, q_mul1, q_mul2, q_isBl, q_isInt, q_seq1, q_seq2, q_seq3, q_len1, q_len2, q_len3, q_int1, q_abs, q_two, q_list1, q_list2, q_tuple1, q_tuple2, q_tru1, q_tru2, q_rs1, q_rs2, q_cut1, q_cut2, q_cut3, q_gtT]
  refine callGo_mk _ (⟨ns2, hp2⟩ : PoolT) rfl (by simp [refIx]) rfl ?_ (fun _ _ h => h.elim)
  rintro r o ⟨ns3, hp3, rfl, rfl⟩
  simp only [pSeq, Option.map_some, Option.map_none, pNext, pIf, pAsg, pRet, pRetN, pDrop, pFor, pForV, pAsgG, pAug, pSetIx, pBrk, pCnt, pFz, pFr, pIn, pVar, pArg, pMv, pC, pCons, pNil, p2, pB, pBl, pCB, ress, res, rv_non, rv_bl, rv_int, rv_str, rv_ty, rv_lst, rv_tup, rv_rls, rv_xr, rv_nc, noCe, stO, true_and, and_true, Bool.not_false, Bool.not_true, rv_oD, isNon_oD, gtN, gtsCons, gtsNil, pNot, pOr, pAnd, pVal, pTru, pNeg, pNotV, pAndV, pOrV, pIfE, pDisp, allInl, pCut, pNoPt, pPt, pSeqSrc, pEnum, enSrc, pRng1, rOf1, pRng2, rOf2, owAt, pApp, pPopAt, pPop, pClear, pLc, pLcV, pYes, noOw, wipeE, restE, rst, pRaise, resL, pCall, argsOf, argO, refIx, wbC, wb, wb1, outsOf, outP, List.getElem?_cons_zero, List.getElem?_cons_succ, List.getElem?_nil, List.set_cons_zero, List.set_cons_succ, List.length_cons, List.length_nil, List.cons_append, List.nil_append, List.append_nil, List.drop_succ_cons, List.drop_zero, List.drop_nil, List.replicate_zero, List.replicate_succ, List.getD_cons_zero, List.getD_cons_succ, Nat.reduceSub, Nat.reduceAdd, Nat.sub_self, if_true, if_false, Bool.false_eq_true, q_frz1, q_frz2, q_stR1, q_stR2, q_free1, q_free2, q_free3, q_isN1, q_isN2, q_fIsN, q_fCI, q_fI, q_fI0, q_add1, q_add2, q_add3, q_mul1, q_mul2, q_isBl, q_isInt, q_seq1, q_seq2, q_seq3, q_len1, q_len2, q_len3, q_int1, q_abs, q_two, q_list1, q_list2, q_tuple1, q_tuple2, q_tru1, q_tru2, q_rs1, q_rs2, q_cut1, q_cut2, q_cut3, q_gtT]
  refine callGo_mk _ (⟨ns3, 129, divOk (by decide) (by decide), hp3⟩ : ADr) rfl (by simp [refIx]) rfl ?_ (fun _ _ h => h.elim)
  rintro r o ⟨v, ns4, h0, h1, hp4, rfl, rfl⟩
  have h1' : v < 129 := h1
  obtain ⟨n, rfl, hn⟩ : ∃ n : Nat, v = (n : Int) ∧ n ≤ 128 := ⟨v.toNat, by omega, by omega⟩
  simp only [pSeq, Option.map_some, Option.map_none, pNext, pIf, pAsg, pRet, pRetN, pDrop, pFor, pForV, pAsgG, pAug, pSetIx, pBrk, pCnt, pFz, pFr, pIn, pVar, pArg, pMv, pC, pCons, pNil, p2, pB, pBl, pCB, ress, res, rv_non, rv_bl, rv_int, rv_str, rv_ty, rv_lst, rv_tup, rv_rls, rv_xr, rv_nc, noCe, stO, true_and, and_true, Bool.not_false, Bool.not_true, rv_oD, isNon_oD, gtN, gtsCons, gtsNil, pNot, pOr, pAnd, pVal, pTru, pNeg, pNotV, pAndV, pOrV, pIfE, pDisp, allInl, pCut, pNoPt, pPt, pSeqSrc, pEnum, enSrc, pRng1, rOf1, pRng2, rOf2, owAt, pApp, pPopAt, pPop, pClear, pLc, pLcV, pYes, noOw, wipeE, restE, rst, pRaise, resL, pCall, argsOf, argO, refIx, wbC, wb, wb1, outsOf, outP, List.getElem?_cons_zero, List.getElem?_cons_succ, List.getElem?_nil, List.set_cons_zero, List.set_cons_succ, List.length_cons, List.length_nil, List.cons_append, List.nil_append, List.append_nil, List.drop_succ_cons, List.drop_zero, List.drop_nil, List.replicate_zero, List.replicate_succ, List.getD_cons_zero, List.getD_cons_succ, Nat.reduceSub, Nat.reduceAdd, Nat.sub_self, if_true, if_false, Bool.false_eq_true, q_frz1, q_frz2, q_stR1, q_stR2, q_free1, q_free2, q_free3, q_isN1, q_isN2, q_fIsN, q_fCI, q_fI, q_fI0, q_add1, q_add2, q_add3, q_mul1, q_mul2, q_isBl, q_isInt, q_seq1, q_seq2, q_seq3, q_len1, q_len2, q_len3, q_int1, q_abs, q_two, q_list1, q_list2, q_tuple1, q_tuple2, q_tru1, q_tru2, q_rs1, q_rs2, q_cut1, q_cut2, q_cut3, q_gtT]
  have g0 : Good [] (n : Int) := ⟨by simp, by omega, by omega, fun row h => by simp at h⟩
  refine ⟨Nat.zero_le _, ?_⟩
  refine callGo_mk _ (⟨.lst [], [], n, tab_nil rfl, by simp, natLog (by omega)⟩ : ACt) rfl (by simp [refIx]) rfl ?_ (fun x _ h => absurd h.1 (no_wrong g0))
  rintro r o ⟨N1, n1, P1, O1, e1, e2, -, B1, rfl, rfl⟩
  have e1' := nil_of e1
  subst e1'
  have hP : P1 = [] := List.length_eq_zero_iff.mp B1.M.lp
  subst hP
  simp only [pSeq, Option.map_some, Option.map_none, pNext, pIf, pAsg, pRet, pRetN, pDrop, pFor, pForV, pAsgG, pAug, pSetIx, pBrk, pCnt, pFz, pFr, pIn, pVar, pArg, pMv, pC, pCons, pNil, p2, pB, pBl, pCB, ress, res, rv_non, rv_bl, rv_int, rv_str, rv_ty, rv_lst, rv_tup, rv_rls, rv_xr, rv_nc, noCe, stO, true_and, and_true, Bool.not_false, Bool.not_true, rv_oD, isNon_oD, gtN, gtsCons, gtsNil, pNot, pOr, pAnd, pVal, pTru, pNeg, pNotV, pAndV, pOrV, pIfE, pDisp, allInl, pCut, pNoPt, pPt, pSeqSrc, pEnum, enSrc, pRng1, rOf1, pRng2, rOf2, owAt, pApp, pPopAt, pPop, pClear, pLc, pLcV, pYes, noOw, wipeE, restE, rst, pRaise, resL, pCall, argsOf, argO, refIx, wbC, wb, wb1, outsOf, outP, List.getElem?_cons_zero, List.getElem?_cons_succ, List.getElem?_nil, List.set_cons_zero, List.set_cons_succ, List.length_cons, List.length_nil, List.cons_append, List.nil_append, List.append_nil, List.drop_succ_cons, List.drop_zero, List.drop_nil, List.replicate_zero, List.replicate_succ, List.getD_cons_zero, List.getD_cons_succ, Nat.reduceSub, Nat.reduceAdd, Nat.sub_self, if_true, if_false, Bool.false_eq_true, q_frz1, q_frz2, q_stR1, q_stR2, q_free1, q_free2, q_free3, q_isN1, q_isN2, q_fIsN, q_fCI, q_fI, q_fI0, q_add1, q_add2, q_add3, q_mul1, q_mul2, q_isBl, q_isInt, q_seq1, q_seq2, q_seq3, q_len1, q_len2, q_len3, q_int1, q_abs, q_two, q_list1, q_list2, q_tuple1, q_tuple2, q_tru1, q_tru2, q_rs1, q_rs2, q_cut1, q_cut2, q_cut3, q_gtT, List.map_nil]
  refine ⟨Nat.zero_le _, fEq_t0.mpr ?_⟩
  simp only [pSeq, Option.map_some, Option.map_none, pNext, pIf, pAsg, pRet, pRetN, pDrop, pFor, pForV, pAsgG, pAug, pSetIx, pBrk, pCnt, pFz, pFr, pIn, pVar, pArg, pMv, pC, pCons, pNil, p2, pB, pBl, pCB, ress, res, rv_non, rv_bl, rv_int, rv_str, rv_ty, rv_lst, rv_tup, rv_rls, rv_xr, rv_nc, noCe, stO, true_and, and_true, Bool.not_false, Bool.not_true, rv_oD, isNon_oD, gtN, gtsCons, gtsNil, pNot, pOr, pAnd, pVal, pTru, pNeg, pNotV, pAndV, pOrV, pIfE, pDisp, allInl, pCut, pNoPt, pPt, pSeqSrc, pEnum, enSrc, pRng1, rOf1, pRng2, rOf2, owAt, pApp, pPopAt, pPop, pClear, pLc, pLcV, pYes, noOw, wipeE, restE, rst, pRaise, resL, pCall, argsOf, argO, refIx, wbC, wb, wb1, outsOf, outP, List.getElem?_cons_zero, List.getElem?_cons_succ, List.getElem?_nil, List.set_cons_zero, List.set_cons_succ, List.length_cons, List.length_nil, List.cons_append, List.nil_append, List.append_nil, List.drop_succ_cons, List.drop_zero, List.drop_nil, List.replicate_zero, List.replicate_succ, List.getD_cons_zero, List.getD_cons_succ, Nat.reduceSub, Nat.reduceAdd, Nat.sub_self, if_true, if_false, Bool.false_eq_true, q_frz1, q_frz2, q_stR1, q_stR2, q_free1, q_free2, q_free3, q_isN1, q_isN2, q_fIsN, q_fCI, q_fI, q_fI0, q_add1, q_add2, q_add3, q_mul1, q_mul2, q_isBl, q_isInt, q_seq1, q_seq2, q_seq3, q_len1, q_len2, q_len3, q_int1, q_abs, q_two, q_list1, q_list2, q_tuple1, q_tuple2, q_tru1, q_tru2, q_rs1, q_rs2, q_cut1, q_cut2, q_cut3, q_gtT]
  refine ⟨Nat.zero_le _, ?_⟩
  refine callGo_mk _ (⟨.tup [], [], n, tab_nil rfl, by simp, natLog (by omega)⟩ : ACt) rfl (by simp [refIx]) rfl ?_ (fun x _ h => absurd h.1 (no_wrong g0))
  rintro r o ⟨N2, n2, P2, O2, RM, CM, e1, e2, -, C2, rfl, rfl⟩
  have e1' := nil_of e1
  subst e1'
  rw [cov_nil C2]
  simp only [pSeq, Option.map_some, Option.map_none, pNext, pIf, pAsg, pRet, pRetN, pDrop, pFor, pForV, pAsgG, pAug, pSetIx, pBrk, pCnt, pFz, pFr, pIn, pVar, pArg, pMv, pC, pCons, pNil, p2, pB, pBl, pCB, ress, res, rv_non, rv_bl, rv_int, rv_str, rv_ty, rv_lst, rv_tup, rv_rls, rv_xr, rv_nc, noCe, stO, true_and, and_true, Bool.not_false, Bool.not_true, rv_oD, isNon_oD, gtN, gtsCons, gtsNil, pNot, pOr, pAnd, pVal, pTru, pNeg, pNotV, pAndV, pOrV, pIfE, pDisp, allInl, pCut, pNoPt, pPt, pSeqSrc, pEnum, enSrc, pRng1, rOf1, pRng2, rOf2, owAt, pApp, pPopAt, pPop, pClear, pLc, pLcV, pYes, noOw, wipeE, restE, rst, pRaise, resL, pCall, argsOf, argO, refIx, wbC, wb, wb1, outsOf, outP, List.getElem?_cons_zero, List.getElem?_cons_succ, List.getElem?_nil, List.set_cons_zero, List.set_cons_succ, List.length_cons, List.length_nil, List.cons_append, List.nil_append, List.append_nil, List.drop_succ_cons, List.drop_zero, List.drop_nil, List.replicate_zero, List.replicate_succ, List.getD_cons_zero, List.getD_cons_succ, Nat.reduceSub, Nat.reduceAdd, Nat.sub_self, if_true, if_false, Bool.false_eq_true, q_frz1, q_frz2, q_stR1, q_stR2, q_free1, q_free2, q_free3, q_isN1, q_isN2, q_fIsN, q_fCI, q_fI, q_fI0, q_add1, q_add2, q_add3, q_mul1, q_mul2, q_isBl, q_isInt, q_seq1, q_seq2, q_seq3, q_len1, q_len2, q_len3, q_int1, q_abs, q_two, q_list1, q_list2, q_tuple1, q_tuple2, q_tru1, q_tru2, q_rs1, q_rs2, q_cut1, q_cut2, q_cut3, q_gtT]
  refine ⟨Nat.zero_le _, Nat.zero_le _, by simp [sizeLine_eq], fEq_t2.mpr ?_⟩
  simp only [pSeq, Option.map_some, Option.map_none, pNext, pIf, pAsg, pRet, pRetN, pDrop, pFor, pForV, pAsgG, pAug, pSetIx, pBrk, pCnt, pFz, pFr, pIn, pVar, pArg, pMv, pC, pCons, pNil, p2, pB, pBl, pCB, ress, res, rv_non, rv_bl, rv_int, rv_str, rv_ty, rv_lst, rv_tup, rv_rls, rv_xr, rv_nc, noCe, stO, true_and, and_true, Bool.not_false, Bool.not_true, rv_oD, isNon_oD, gtN, gtsCons, gtsNil, pNot, pOr, pAnd, pVal, pTru, pNeg, pNotV, pAndV, pOrV, pIfE, pDisp, allInl, pCut, pNoPt, pPt, pSeqSrc, pEnum, enSrc, pRng1, rOf1, pRng2, rOf2, owAt, pApp, pPopAt, pPop, pClear, pLc, pLcV, pYes, noOw, wipeE, restE, rst, pRaise, resL, pCall, argsOf, argO, refIx, wbC, wb, wb1, outsOf, outP, List.getElem?_cons_zero, List.getElem?_cons_succ, List.getElem?_nil, List.set_cons_zero, List.set_cons_succ, List.length_cons, List.length_nil, List.cons_append, List.nil_append, List.append_nil, List.drop_succ_cons, List.drop_zero, List.drop_nil, List.replicate_zero, List.replicate_succ, List.getD_cons_zero, List.getD_cons_succ, Nat.reduceSub, Nat.reduceAdd, Nat.sub_self, if_true, if_false, Bool.false_eq_true, q_frz1, q_frz2, q_stR1, q_stR2, q_free1, q_free2, q_free3, q_isN1, q_isN2, q_fIsN, q_fCI, q_fI, q_fI0, q_add1, q_add2, q_add3, q_mul1, q_mul2, q_isBl, q_isInt, q_seq1, q_seq2, q_seq3, q_len1, q_len2, q_len3, q_int1, q_abs, q_two, q_list1, q_list2, q_tuple1, q_tuple2, q_tru1, q_tru2, q_rs1, q_rs2, q_cut1, q_cut2, q_cut3, q_gtT]
  refine callGo_mk _ (⟨ns4, hp4⟩ : PoolT) rfl (by simp [refIx]) rfl ?_ (fun _ _ h => h.elim)
  rintro r o ⟨k, s, ns5, a, hp5, k0, k1, hs, rfl, rfl⟩
  simp only [pSeq, Option.map_some, Option.map_none, pNext, pIf, pAsg, pRet, pRetN, pDrop, pFor, pForV, pAsgG, pAug, pSetIx, pBrk, pCnt, pFz, pFr, pIn, pVar, pArg, pMv, pC, pCons, pNil, p2, pB, pBl, pCB, ress, res, rv_non, rv_bl, rv_int, rv_str, rv_ty, rv_lst, rv_tup, rv_rls, rv_xr, rv_nc, noCe, stO, true_and, and_true, Bool.not_false, Bool.not_true, rv_oD, isNon_oD, gtN, gtsCons, gtsNil, pNot, pOr, pAnd, pVal, pTru, pNeg, pNotV, pAndV, pOrV, pIfE, pDisp, allInl, pCut, pNoPt, pPt, pSeqSrc, pEnum, enSrc, pRng1, rOf1, pRng2, rOf2, owAt, pApp, pPopAt, pPop, pClear, pLc, pLcV, pYes, noOw, wipeE, restE, rst, pRaise, resL, pCall, argsOf, argO, refIx, wbC, wb, wb1, outsOf, outP, List.getElem?_cons_zero, List.getElem?_cons_succ, List.getElem?_nil, List.set_cons_zero, List.set_cons_succ, List.length_cons, List.length_nil, List.cons_append, List.nil_append, List.append_nil, List.drop_succ_cons, List.drop_zero, List.drop_nil, List.replicate_zero, List.replicate_succ, List.getD_cons_zero, List.getD_cons_succ, Nat.reduceSub, Nat.reduceAdd, Nat.sub_self, if_true, if_false, Bool.false_eq_true, q_frz1, q_frz2, q_stR1, q_stR2, q_free1, q_free2, q_free3, q_isN1, q_isN2, q_fIsN, q_fCI, q_fI, q_fI0, q_add1, q_add2, q_add3, q_mul1, q_mul2, q_isBl, q_isInt, q_seq1, q_seq2, q_seq3, q_len1, q_len2, q_len3, q_int1, q_abs, q_two, q_list1, q_list2, q_tuple1, q_tuple2, q_tru1, q_tru2, q_rs1, q_rs2, q_cut1, q_cut2, q_cut3, q_gtT, pClaim, ix0, ix1]
  have hce : ∀ (x : PW.O), (cel l ++ [x])[l.length]? = some x := fun x => by
    have hl : (cel l).length = l.length := by simp [cel]
    rw [List.getElem?_append_right (by omega), hl, Nat.sub_self]; rfl
  obtain ⟨l', hl'⟩ := dropCe_cel (a := a) (l := l ++ [(a, ((lrows k s k).map nZ).map I1)])
  rw [← cel_app] at hl'
  refine ⟨((lrows k s k).map nZ).map I1, l.length + 13, by simpa using hce _, ?_⟩
  have gN := lrows_rws hs
  have hN := lrows_len (k := k) (s := s) (i := k)
  have g := gN.good (by omega) k1
  generalize hNe : lrows k s k = N at *
  rcases h9 with rfl | ⟨d9, rfl⟩
  all_goals
    simp only [pSeq, Option.map_some, Option.map_none, pNext, pIf, pAsg, pRet, pRetN, pDrop, pFor, pForV, pAsgG, pAug, pSetIx, pBrk, pCnt, pFz, pFr, pIn, pVar, pArg, pMv, pC, pCons, pNil, p2, pB, pBl, pCB, ress, res, rv_non, rv_bl, rv_int, rv_str, rv_ty, rv_lst, rv_tup, rv_rls, rv_xr, rv_nc, noCe, stO, true_and, and_true, Bool.not_false, Bool.not_true, rv_oD, isNon_oD, gtN, gtsCons, gtsNil, pNot, pOr, pAnd, pVal, pTru, pNeg, pNotV, pAndV, pOrV, pIfE, pDisp, allInl, pCut, pNoPt, pPt, pSeqSrc, pEnum, enSrc, pRng1, rOf1, pRng2, rOf2, owAt, pApp, pPopAt, pPop, pClear, pLc, pLcV, pYes, noOw, wipeE, restE, rst, pRaise, resL, pCall, argsOf, argO, refIx, wbC, wb, wb1, outsOf, outP, List.getElem?_cons_zero, List.getElem?_cons_succ, List.getElem?_nil, List.set_cons_zero, List.set_cons_succ, List.length_cons, List.length_nil, List.cons_append, List.nil_append, List.append_nil, List.drop_succ_cons, List.drop_zero, List.drop_nil, List.replicate_zero, List.replicate_succ, List.getD_cons_zero, List.getD_cons_succ, Nat.reduceSub, Nat.reduceAdd, Nat.sub_self, if_true, if_false, Bool.false_eq_true, q_frz1, q_frz2, q_stR1, q_stR2, q_free1, q_free2, q_free3, q_isN1, q_isN2, q_fIsN, q_fCI, q_fI, q_fI0, q_add1, q_add2, q_add3, q_mul1, q_mul2, q_isBl, q_isInt, q_seq1, q_seq2, q_seq3, q_len1, q_len2, q_len3, q_int1, q_abs, q_two, q_list1, q_list2, q_tuple1, q_tuple2, q_tru1, q_tru2, q_rs1, q_rs2, q_cut1, q_cut2, q_cut3, q_gtT, ix0, ix1, dr_un, dr_fz, dr_ow, hl']
    refine ⟨by intro j hj; simp at hj; subst hj; trivial, ?_⟩
    refine lcGo_filter (N.map nZ) I1 (fun _ => true) I1 (by simp [sizeLine_eq]; omega) ?_ ?_ ?_ rfl
    · rfl
    · intro x hx acc Rk hacc k1 k2
      simp only [pSeq, Option.map_some, Option.map_none, pNext, pIf, pAsg, pRet, pRetN, pDrop, pFor, pForV, pAsgG, pAug, pSetIx, pBrk, pCnt, pFz, pFr, pIn, pVar, pArg, pMv, pC, pCons, pNil, p2, pB, pBl, pCB, ress, res, rv_non, rv_bl, rv_int, rv_str, rv_ty, rv_lst, rv_tup, rv_rls, rv_xr, rv_nc, noCe, stO, true_and, and_true, Bool.not_false, Bool.not_true, rv_oD, isNon_oD, gtN, gtsCons, gtsNil, pNot, pOr, pAnd, pVal, pTru, pNeg, pNotV, pAndV, pOrV, pIfE, pDisp, allInl, pCut, pNoPt, pPt, pSeqSrc, pEnum, enSrc, pRng1, rOf1, pRng2, rOf2, owAt, pApp, pPopAt, pPop, pClear, pLc, pLcV, pYes, noOw, wipeE, restE, rst, pRaise, resL, pCall, argsOf, argO, refIx, wbC, wb, wb1, outsOf, outP, List.getElem?_cons_zero, List.getElem?_cons_succ, List.getElem?_nil, List.set_cons_zero, List.set_cons_succ, List.length_cons, List.length_nil, List.cons_append, List.nil_append, List.append_nil, List.drop_succ_cons, List.drop_zero, List.drop_nil, List.replicate_zero, List.replicate_succ, List.getD_cons_zero, List.getD_cons_succ, Nat.reduceSub, Nat.reduceAdd, Nat.sub_self, if_true, if_false, Bool.false_eq_true, q_frz1, q_frz2, q_stR1, q_stR2, q_free1, q_free2, q_free3, q_isN1, q_isN2, q_fIsN, q_fCI, q_fI, q_fI0, q_add1, q_add2, q_add3, q_mul1, q_mul2, q_isBl, q_isInt, q_seq1, q_seq2, q_seq3, q_len1, q_len2, q_len3, q_int1, q_abs, q_two, q_list1, q_list2, q_tuple1, q_tuple2, q_tru1, q_tru2, q_rs1, q_rs2, q_cut1, q_cut2, q_cut3, q_gtT]
      exact ⟨hacc, by intro j hj; simp at hj; subst hj; trivial, k1 rfl⟩
    rw [f_true]
    have hlen : (((N.map nZ).map I1).length : Int) = (k : Int) := by simp [hN]
    simp only [pSeq, Option.map_some, Option.map_none, pNext, pIf, pAsg, pRet, pRetN, pDrop, pFor, pForV, pAsgG, pAug, pSetIx, pBrk, pCnt, pFz, pFr, pIn, pVar, pArg, pMv, pC, pCons, pNil, p2, pB, pBl, pCB, ress, res, rv_non, rv_bl, rv_int, rv_str, rv_ty, rv_lst, rv_tup, rv_rls, rv_xr, rv_nc, noCe, stO, true_and, and_true, Bool.not_false, Bool.not_true, rv_oD, isNon_oD, gtN, gtsCons, gtsNil, pNot, pOr, pAnd, pVal, pTru, pNeg, pNotV, pAndV, pOrV, pIfE, pDisp, allInl, pCut, pNoPt, pPt, pSeqSrc, pEnum, enSrc, pRng1, rOf1, pRng2, rOf2, owAt, pApp, pPopAt, pPop, pClear, pLc, pLcV, pYes, noOw, wipeE, restE, rst, pRaise, resL, pCall, argsOf, argO, refIx, wbC, wb, wb1, outsOf, outP, List.getElem?_cons_zero, List.getElem?_cons_succ, List.getElem?_nil, List.set_cons_zero, List.set_cons_succ, List.length_cons, List.length_nil, List.cons_append, List.nil_append, List.append_nil, List.drop_succ_cons, List.drop_zero, List.drop_nil, List.replicate_zero, List.replicate_succ, List.getD_cons_zero, List.getD_cons_succ, Nat.reduceSub, Nat.reduceAdd, Nat.sub_self, if_true, if_false, Bool.false_eq_true, q_frz1, q_frz2, q_stR1, q_stR2, q_free1, q_free2, q_free3, q_isN1, q_isN2, q_fIsN, q_fCI, q_fI, q_fI0, q_add1, q_add2, q_add3, q_mul1, q_mul2, q_isBl, q_isInt, q_seq1, q_seq2, q_seq3, q_len1, q_len2, q_len3, q_int1, q_abs, q_two, q_list1, q_list2, q_tuple1, q_tuple2, q_tru1, q_tru2, q_rs1, q_rs2, q_cut1, q_cut2, q_cut3, q_gtT, hlen]
    refine callGo_mk _ (⟨I2 (N.map nZ), N.map nZ, k, tabZ_I2 _, by simp; omega, natLog (by omega)⟩ : ACt) rfl (by simp [refIx]) rfl ?_ (fun x _ h => absurd h.1 (no_wrong g))
    rintro r o ⟨N3, k3, P3, O3, e3, e4, -, B3, rfl, rfl⟩
    have e3' := nZ2_inj e3
    have e4' : k = k3 := Int.ofNat.inj e4
    subst e3' e4'
    have hP : nm P3 = k := lbest_nm hs (by rw [hNe]; exact B3)
    have hP2 : P3 = lpair k s := lbest_eq hs (by rw [hNe]; exact B3)
    simp only [pSeq, Option.map_some, Option.map_none, pNext, pIf, pAsg, pRet, pRetN, pDrop, pFor, pForV, pAsgG, pAug, pSetIx, pBrk, pCnt, pFz, pFr, pIn, pVar, pArg, pMv, pC, pCons, pNil, p2, pB, pBl, pCB, ress, res, rv_non, rv_bl, rv_int, rv_str, rv_ty, rv_lst, rv_tup, rv_rls, rv_xr, rv_nc, noCe, stO, true_and, and_true, Bool.not_false, Bool.not_true, rv_oD, isNon_oD, gtN, gtsCons, gtsNil, pNot, pOr, pAnd, pVal, pTru, pNeg, pNotV, pAndV, pOrV, pIfE, pDisp, allInl, pCut, pNoPt, pPt, pSeqSrc, pEnum, enSrc, pRng1, rOf1, pRng2, rOf2, owAt, pApp, pPopAt, pPop, pClear, pLc, pLcV, pYes, noOw, wipeE, restE, rst, pRaise, resL, pCall, argsOf, argO, refIx, wbC, wb, wb1, outsOf, outP, List.getElem?_cons_zero, List.getElem?_cons_succ, List.getElem?_nil, List.set_cons_zero, List.set_cons_succ, List.length_cons, List.length_nil, List.cons_append, List.nil_append, List.append_nil, List.drop_succ_cons, List.drop_zero, List.drop_nil, List.replicate_zero, List.replicate_succ, List.getD_cons_zero, List.getD_cons_succ, Nat.reduceSub, Nat.reduceAdd, Nat.sub_self, if_true, if_false, Bool.false_eq_true, q_frz1, q_frz2, q_stR1, q_stR2, q_free1, q_free2, q_free3, q_isN1, q_isN2, q_fIsN, q_fCI, q_fI, q_fI0, q_add1, q_add2, q_add3, q_mul1, q_mul2, q_isBl, q_isInt, q_seq1, q_seq2, q_seq3, q_len1, q_len2, q_len3, q_int1, q_abs, q_two, q_list1, q_list2, q_tuple1, q_tuple2, q_tru1, q_tru2, q_rs1, q_rs2, q_cut1, q_cut2, q_cut3, q_gtT, pLend, lendE, l_un, l_fz, l_ow, l_nil, rvI, PW.scal]
    refine callGo_mk _ (⟨N, k, P3, O3, B3.M, by omega⟩ : ASp) rfl (by simp [refIx]) rfl ?_ (fun _ _ h => h.elim)
    rintro r o ⟨rfl, rfl⟩
    simp only [pSeq, Option.map_some, Option.map_none, pNext, pIf, pAsg, pRet, pRetN, pDrop, pFor, pForV, pAsgG, pAug, pSetIx, pBrk, pCnt, pFz, pFr, pIn, pVar, pArg, pMv, pC, pCons, pNil, p2, pB, pBl, pCB, ress, res, rv_non, rv_bl, rv_int, rv_str, rv_ty, rv_lst, rv_tup, rv_rls, rv_xr, rv_nc, noCe, stO, true_and, and_true, Bool.not_false, Bool.not_true, rv_oD, isNon_oD, gtN, gtsCons, gtsNil, pNot, pOr, pAnd, pVal, pTru, pNeg, pNotV, pAndV, pOrV, pIfE, pDisp, allInl, pCut, pNoPt, pPt, pSeqSrc, pEnum, enSrc, pRng1, rOf1, pRng2, rOf2, owAt, pApp, pPopAt, pPop, pClear, pLc, pLcV, pYes, noOw, wipeE, restE, rst, pRaise, resL, pCall, argsOf, argO, refIx, wbC, wb, wb1, outsOf, outP, List.getElem?_cons_zero, List.getElem?_cons_succ, List.getElem?_nil, List.set_cons_zero, List.set_cons_succ, List.length_cons, List.length_nil, List.cons_append, List.nil_append, List.append_nil, List.drop_succ_cons, List.drop_zero, List.drop_nil, List.replicate_zero, List.replicate_succ, List.getD_cons_zero, List.getD_cons_succ, Nat.reduceSub, Nat.reduceAdd, Nat.sub_self, if_true, if_false, Bool.false_eq_true, q_frz1, q_frz2, q_stR1, q_stR2, q_free1, q_free2, q_free3, q_isN1, q_isN2, q_fIsN, q_fCI, q_fI, q_fI0, q_add1, q_add2, q_add3, q_mul1, q_mul2, q_isBl, q_isInt, q_seq1, q_seq2, q_seq3, q_len1, q_len2, q_len3, q_int1, q_abs, q_two, q_list1, q_list2, q_tuple1, q_tuple2, q_tru1, q_tru2, q_rs1, q_rs2, q_cut1, q_cut2, q_cut3, q_gtT, PW.scal, fEq_int, hP, ix0, ix1]
    rw [if_neg (by simp), hP2, lpair_oL]
    refine fEq_nL.mpr ?_
    simp only [decide_true, pSeq, Option.map_some, Option.map_none, pNext, pIf, pAsg, pRet, pRetN, pDrop, pFor, pForV, pAsgG, pAug, pSetIx, pBrk, pCnt, pFz, pFr, pIn, pVar, pArg, pMv, pC, pCons, pNil, p2, pB, pBl, pCB, ress, res, rv_non, rv_bl, rv_int, rv_str, rv_ty, rv_lst, rv_tup, rv_rls, rv_xr, rv_nc, noCe, stO, true_and, and_true, Bool.not_false, Bool.not_true, rv_oD, isNon_oD, gtN, gtsCons, gtsNil, pNot, pOr, pAnd, pVal, pTru, pNeg, pNotV, pAndV, pOrV, pIfE, pDisp, allInl, pCut, pNoPt, pPt, pSeqSrc, pEnum, enSrc, pRng1, rOf1, pRng2, rOf2, owAt, pApp, pPopAt, pPop, pClear, pLc, pLcV, pYes, noOw, wipeE, restE, rst, pRaise, resL, pCall, argsOf, argO, refIx, wbC, wb, wb1, outsOf, outP, List.getElem?_cons_zero, List.getElem?_cons_succ, List.getElem?_nil, List.set_cons_zero, List.set_cons_succ, List.length_cons, List.length_nil, List.cons_append, List.nil_append, List.append_nil, List.drop_succ_cons, List.drop_zero, List.drop_nil, List.replicate_zero, List.replicate_succ, List.getD_cons_zero, List.getD_cons_succ, Nat.reduceSub, Nat.reduceAdd, Nat.sub_self, if_true, if_false, Bool.false_eq_true, q_frz1, q_frz2, q_stR1, q_stR2, q_free1, q_free2, q_free3, q_isN1, q_isN2, q_fIsN, q_fCI, q_fI, q_fI0, q_add1, q_add2, q_add3, q_mul1, q_mul2, q_isBl, q_isInt, q_seq1, q_seq2, q_seq3, q_len1, q_len2, q_len3, q_int1, q_abs, q_two, q_list1, q_list2, q_tuple1, q_tuple2, q_tru1, q_tru2, q_rs1, q_rs2, q_cut1, q_cut2, q_cut3, q_gtT]
    refine ⟨by intro j hj; simp at hj; subst hj; trivial, ?_⟩
    refine lcGo_filter (N.map nZ) I1 (fun _ => true) I1 (by simp [sizeLine_eq]; omega) ?_ ?_ ?_ rfl
    · rfl
    · intro x hx acc Rk hacc k1 k2
      simp only [pSeq, Option.map_some, Option.map_none, pNext, pIf, pAsg, pRet, pRetN, pDrop, pFor, pForV, pAsgG, pAug, pSetIx, pBrk, pCnt, pFz, pFr, pIn, pVar, pArg, pMv, pC, pCons, pNil, p2, pB, pBl, pCB, ress, res, rv_non, rv_bl, rv_int, rv_str, rv_ty, rv_lst, rv_tup, rv_rls, rv_xr, rv_nc, noCe, stO, true_and, and_true, Bool.not_false, Bool.not_true, rv_oD, isNon_oD, gtN, gtsCons, gtsNil, pNot, pOr, pAnd, pVal, pTru, pNeg, pNotV, pAndV, pOrV, pIfE, pDisp, allInl, pCut, pNoPt, pPt, pSeqSrc, pEnum, enSrc, pRng1, rOf1, pRng2, rOf2, owAt, pApp, pPopAt, pPop, pClear, pLc, pLcV, pYes, noOw, wipeE, restE, rst, pRaise, resL, pCall, argsOf, argO, refIx, wbC, wb, wb1, outsOf, outP, List.getElem?_cons_zero, List.getElem?_cons_succ, List.getElem?_nil, List.set_cons_zero, List.set_cons_succ, List.length_cons, List.length_nil, List.cons_append, List.nil_append, List.append_nil, List.drop_succ_cons, List.drop_zero, List.drop_nil, List.replicate_zero, List.replicate_succ, List.getD_cons_zero, List.getD_cons_succ, Nat.reduceSub, Nat.reduceAdd, Nat.sub_self, if_true, if_false, Bool.false_eq_true, q_frz1, q_frz2, q_stR1, q_stR2, q_free1, q_free2, q_free3, q_isN1, q_isN2, q_fIsN, q_fCI, q_fI, q_fI0, q_add1, q_add2, q_add3, q_mul1, q_mul2, q_isBl, q_isInt, q_seq1, q_seq2, q_seq3, q_len1, q_len2, q_len3, q_int1, q_abs, q_two, q_list1, q_list2, q_tuple1, q_tuple2, q_tru1, q_tru2, q_rs1, q_rs2, q_cut1, q_cut2, q_cut3, q_gtT]
      exact ⟨hacc, by intro j hj; simp at hj; subst hj; trivial, k1 rfl⟩
    rw [f_true]
    simp only [pSeq, Option.map_some, Option.map_none, pNext, pIf, pAsg, pRet, pRetN, pDrop, pFor, pForV, pAsgG, pAug, pSetIx, pBrk, pCnt, pFz, pFr, pIn, pVar, pArg, pMv, pC, pCons, pNil, p2, pB, pBl, pCB, ress, res, rv_non, rv_bl, rv_int, rv_str, rv_ty, rv_lst, rv_tup, rv_rls, rv_xr, rv_nc, noCe, stO, true_and, and_true, Bool.not_false, Bool.not_true, rv_oD, isNon_oD, gtN, gtsCons, gtsNil, pNot, pOr, pAnd, pVal, pTru, pNeg, pNotV, pAndV, pOrV, pIfE, pDisp, allInl, pCut, pNoPt, pPt, pSeqSrc, pEnum, enSrc, pRng1, rOf1, pRng2, rOf2, owAt, pApp, pPopAt, pPop, pClear, pLc, pLcV, pYes, noOw, wipeE, restE, rst, pRaise, resL, pCall, argsOf, argO, refIx, wbC, wb, wb1, outsOf, outP, List.getElem?_cons_zero, List.getElem?_cons_succ, List.getElem?_nil, List.set_cons_zero, List.set_cons_succ, List.length_cons, List.length_nil, List.cons_append, List.nil_append, List.append_nil, List.drop_succ_cons, List.drop_zero, List.drop_nil, List.replicate_zero, List.replicate_succ, List.getD_cons_zero, List.getD_cons_succ, Nat.reduceSub, Nat.reduceAdd, Nat.sub_self, if_true, if_false, Bool.false_eq_true, q_frz1, q_frz2, q_stR1, q_stR2, q_free1, q_free2, q_free3, q_isN1, q_isN2, q_fIsN, q_fCI, q_fI, q_fI0, q_add1, q_add2, q_add3, q_mul1, q_mul2, q_isBl, q_isInt, q_seq1, q_seq2, q_seq3, q_len1, q_len2, q_len3, q_int1, q_abs, q_two, q_list1, q_list2, q_tuple1, q_tuple2, q_tru1, q_tru2, q_rs1, q_rs2, q_cut1, q_cut2, q_cut3, q_gtT]
    refine callGo_mk _ (⟨I2 (N.map nZ), N.map nZ, k, tabZ_I2 _, by simp; omega, natLog (by omega)⟩ : ACt) rfl (by simp [refIx]) rfl ?_ (fun x _ h => absurd h.1 (no_wrong g))
    rintro r o ⟨N4, k4, P4, O4, RM4, CM4, e5, e6, -, C4, rfl, rfl⟩
    have e5' := nZ2_inj e5
    have e6' : k = k4 := Int.ofNat.inj e6
    subst e5' e6'
    have hP4 : nm P4 = k := lbest_nm hs (by rw [hNe]; exact C4.B)
    simp only [pSeq, Option.map_some, Option.map_none, pNext, pIf, pAsg, pRet, pRetN, pDrop, pFor, pForV, pAsgG, pAug, pSetIx, pBrk, pCnt, pFz, pFr, pIn, pVar, pArg, pMv, pC, pCons, pNil, p2, pB, pBl, pCB, ress, res, rv_non, rv_bl, rv_int, rv_str, rv_ty, rv_lst, rv_tup, rv_rls, rv_xr, rv_nc, noCe, stO, true_and, and_true, Bool.not_false, Bool.not_true, rv_oD, isNon_oD, gtN, gtsCons, gtsNil, pNot, pOr, pAnd, pVal, pTru, pNeg, pNotV, pAndV, pOrV, pIfE, pDisp, allInl, pCut, pNoPt, pPt, pSeqSrc, pEnum, enSrc, pRng1, rOf1, pRng2, rOf2, owAt, pApp, pPopAt, pPop, pClear, pLc, pLcV, pYes, noOw, wipeE, restE, rst, pRaise, resL, pCall, argsOf, argO, refIx, wbC, wb, wb1, outsOf, outP, List.getElem?_cons_zero, List.getElem?_cons_succ, List.getElem?_nil, List.set_cons_zero, List.set_cons_succ, List.length_cons, List.length_nil, List.cons_append, List.nil_append, List.append_nil, List.drop_succ_cons, List.drop_zero, List.drop_nil, List.replicate_zero, List.replicate_succ, List.getD_cons_zero, List.getD_cons_succ, Nat.reduceSub, Nat.reduceAdd, Nat.sub_self, if_true, if_false, Bool.false_eq_true, q_frz1, q_frz2, q_stR1, q_stR2, q_free1, q_free2, q_free3, q_isN1, q_isN2, q_fIsN, q_fCI, q_fI, q_fI0, q_add1, q_add2, q_add3, q_mul1, q_mul2, q_isBl, q_isInt, q_seq1, q_seq2, q_seq3, q_len1, q_len2, q_len3, q_int1, q_abs, q_two, q_list1, q_list2, q_tuple1, q_tuple2, q_tru1, q_tru2, q_rs1, q_rs2, q_cut1, q_cut2, q_cut3, q_gtT, pLend, lendE, l_un, l_fz, l_ow, l_nil, rvI, PW.scal]
    refine callGo_mk _ (⟨N, k, P4, O4, RM4, CM4, C4, by omega, fun row hr => ?_⟩ : ASc) rfl (by simp [refIx]) rfl ?_ (fun _ _ h => h.elim)
    · have := g.len (nZ row) (List.mem_map.mpr ⟨row, hr, rfl⟩)
      simp at this; omega
    rintro r o ⟨rfl, rfl⟩
    simp only [pSeq, Option.map_some, Option.map_none, pNext, pIf, pAsg, pRet, pRetN, pDrop, pFor, pForV, pAsgG, pAug, pSetIx, pBrk, pCnt, pFz, pFr, pIn, pVar, pArg, pMv, pC, pCons, pNil, p2, pB, pBl, pCB, ress, res, rv_non, rv_bl, rv_int, rv_str, rv_ty, rv_lst, rv_tup, rv_rls, rv_xr, rv_nc, noCe, stO, true_and, and_true, Bool.not_false, Bool.not_true, rv_oD, isNon_oD, gtN, gtsCons, gtsNil, pNot, pOr, pAnd, pVal, pTru, pNeg, pNotV, pAndV, pOrV, pIfE, pDisp, allInl, pCut, pNoPt, pPt, pSeqSrc, pEnum, enSrc, pRng1, rOf1, pRng2, rOf2, owAt, pApp, pPopAt, pPop, pClear, pLc, pLcV, pYes, noOw, wipeE, restE, rst, pRaise, resL, pCall, argsOf, argO, refIx, wbC, wb, wb1, outsOf, outP, List.getElem?_cons_zero, List.getElem?_cons_succ, List.getElem?_nil, List.set_cons_zero, List.set_cons_succ, List.length_cons, List.length_nil, List.cons_append, List.nil_append, List.append_nil, List.drop_succ_cons, List.drop_zero, List.drop_nil, List.replicate_zero, List.replicate_succ, List.getD_cons_zero, List.getD_cons_succ, Nat.reduceSub, Nat.reduceAdd, Nat.sub_self, if_true, if_false, Bool.false_eq_true, q_frz1, q_frz2, q_stR1, q_stR2, q_free1, q_free2, q_free3, q_isN1, q_isN2, q_fIsN, q_fCI, q_fI, q_fI0, q_add1, q_add2, q_add3, q_mul1, q_mul2, q_isBl, q_isInt, q_seq1, q_seq2, q_seq3, q_len1, q_len2, q_len3, q_int1, q_abs, q_two, q_list1, q_list2, q_tuple1, q_tuple2, q_tru1, q_tru2, q_rs1, q_rs2, q_cut1, q_cut2, q_cut3, q_gtT, PW.scal, fEq_int, hP4]
    rw [if_neg (by simp)]
    have hk1 : ((k : Int) - 1) = ((k - 1 : Nat) : Int) := by omega
    refine ⟨by simp [sizeLine_eq], k - 1, by rw [hk1]; exact ixN_nat (by simp; omega), ?_⟩
    have s1 : ((N.map nZ).map I1).set (k - 1) (.lst [.int (k : Int)]) = ((N.map nZ).set (k - 1) [(k : Int)]).map I1 := by rw [List.map_set]; rfl
    rw [s1, hk1]
    refine callGo_mk _ (rowRs ((N.map nZ).set (k - 1) [(k : Int)]) k (k - 1) [(k : Int)] (by simp; omega) (by omega) (by omega) (by rw [List.getElem?_set_self (by simp; omega)]) (by simp [rowOk]) (fun j r hj h => by
      rw [List.getElem?_set_ne (by omega)] at h
      exact g.rows r (List.mem_of_getElem? h))) rfl (by simp [refIx]) rfl ?_ (fun _ _ h => h.elim)
    rintro r o ⟨rfl, rfl⟩
    exact q _
end K12
set_option Elab.async false
set_option linter.all false
set_option maxRecDepth 100000
set_option maxHeartbeats 4000000
namespace K12
open PySem PySem.Spec PyProof.Rows L2 PW NdefX
theorem ini_BadNumber {P : Program} {w : World} {K : PySem.W.Frag} {mg : Str → Option Value} {base : Heap} {f cc c C : Addr} {doc pm ct : Value} (T : ExI P K mg "BadNumber.__init__" (inClass (top 2) 0) C f ⟨"__init__", "BadNumber.__init__", defArgs (inClass (top 2) 0), defBody (inClass (top 2) 0), defScope (inClass (top 2) 0), [(("__class__" : Str), cc)], c⟩ doc pm ct) (h1 : PySem.W.findIn K (.ref C) "what" = some none) (h2 : PySem.W.findIn K (.ref C) "number" = some none) :
    FnOk P w K mg base (L2.CX P w) 1 f (NF.fd ⟨"__init__", "BadNumber.__init__", defArgs (inClass (top 2) 0), defBody (inClass (top 2) 0), defScope (inClass (top 2) 0), [(("__class__" : Str), cc)], c⟩ doc pm ct) [("self" : Str), ("what" : Str), ("number" : Str)] (spIni C [("what" : Str), ("number" : Str)]) :=
  ini2 T (nscope_by (sc := defScope (inClass (top 2) 0)) (by decide +kernel)) rfl rfl rfl h1 h2 ⟨by decide +kernel, by decide +kernel⟩ ⟨by decide +kernel, by decide +kernel⟩ (fun A outer s H E => ⟨_, pe_joined (.cons (pe_fmt (pe_var (i := 1) rfl (.inl rfl))) (.cons pe_str (.cons (pe_fmt (pe_var (i := 2) rfl (.inl rfl))) .nil))), fun a v1 v2 H Q o1 o2 hq => js_ok _ _ (List.forall_mem_cons.mpr ⟨part_fmt rfl o1, (List.forall_mem_cons.mpr ⟨part_str (by decide +kernel), (List.forall_mem_cons.mpr ⟨part_fmt rfl o2, (fun _ h => nomatch h)⟩)⟩)⟩) (by decide) fun out => hq _⟩)
theorem err_BadNumber {P : Program} {w : World} {K : PySem.W.Frag} {mg : Str → Option Value} {base : Heap} {C : Addr} (E : ErrF K P.main.file "BadNumber" "BadNumber.__init__" (inClass (top 2) 0) C) (hm : mg "BadNumber" = some (.ref C)) (noS : mg "super" = none) (opq : PySem.W.nsIn K cStatics "thirdparty.any" = some none) (top : (P.main.scope.names.lookup ("super" : Str)).isSome = false) (h1 : PySem.W.findIn K (.ref C) "what" = some none) (h2 : PySem.W.findIn K (.ref C) "number" = some none) : ErrD P w K mg base "BadNumber" C [("what" : Str), ("number" : Str)] :=
  E.errD hm noS opq top (ps := [("self" : Str), ("what" : Str), ("number" : Str)]) (by decide) (fun _ _ _ _ _ us hl => match us, hl with | [_, _, _], _ => rfl) (fun f cc c doc pm ct T => ini_BadNumber T h1 h2)
theorem ini_BadCount {P : Program} {w : World} {K : PySem.W.Frag} {mg : Str → Option Value} {base : Heap} {f cc c C : Addr} {doc pm ct : Value} (T : ExI P K mg "BadCount.__init__" (inClass (top 3) 0) C f ⟨"__init__", "BadCount.__init__", defArgs (inClass (top 3) 0), defBody (inClass (top 3) 0), defScope (inClass (top 3) 0), [(("__class__" : Str), cc)], c⟩ doc pm ct) (h1 : PySem.W.findIn K (.ref C) "what" = some none) (h2 : PySem.W.findIn K (.ref C) "many" = some none) :
    FnOk P w K mg base (L2.CX P w) 1 f (NF.fd ⟨"__init__", "BadCount.__init__", defArgs (inClass (top 3) 0), defBody (inClass (top 3) 0), defScope (inClass (top 3) 0), [(("__class__" : Str), cc)], c⟩ doc pm ct) [("self" : Str), ("what" : Str), ("many" : Str)] (spIni C [("what" : Str), ("many" : Str)]) :=
  ini2 T (nscope_by (sc := defScope (inClass (top 3) 0)) (by decide +kernel)) rfl rfl rfl h1 h2 ⟨by decide +kernel, by decide +kernel⟩ ⟨by decide +kernel, by decide +kernel⟩ (fun A outer s H E => ⟨_, pe_joined (.cons pe_str (.cons (pe_fmt (pe_var (i := 1) rfl (.inl rfl))) (.cons pe_str (.cons (pe_fmt (pe_var (i := 2) rfl (.inl rfl))) .nil)))), fun a v1 v2 H Q o1 o2 hq => js_ok _ _ (List.forall_mem_cons.mpr ⟨part_str (by decide +kernel), (List.forall_mem_cons.mpr ⟨part_fmt rfl o1, (List.forall_mem_cons.mpr ⟨part_str (by decide +kernel), (List.forall_mem_cons.mpr ⟨part_fmt rfl o2, (fun _ h => nomatch h)⟩)⟩)⟩)⟩) (by decide) fun out => hq _⟩)
theorem err_BadCount {P : Program} {w : World} {K : PySem.W.Frag} {mg : Str → Option Value} {base : Heap} {C : Addr} (E : ErrF K P.main.file "BadCount" "BadCount.__init__" (inClass (top 3) 0) C) (hm : mg "BadCount" = some (.ref C)) (noS : mg "super" = none) (opq : PySem.W.nsIn K cStatics "thirdparty.any" = some none) (top : (P.main.scope.names.lookup ("super" : Str)).isSome = false) (h1 : PySem.W.findIn K (.ref C) "what" = some none) (h2 : PySem.W.findIn K (.ref C) "many" = some none) : ErrD P w K mg base "BadCount" C [("what" : Str), ("many" : Str)] :=
  E.errD hm noS opq top (ps := [("self" : Str), ("what" : Str), ("many" : Str)]) (by decide) (fun _ _ _ _ _ us hl => match us, hl with | [_, _, _], _ => rfl) (fun f cc c doc pm ct T => ini_BadCount T h1 h2)
theorem ini_BadTable {P : Program} {w : World} {K : PySem.W.Frag} {mg : Str → Option Value} {base : Heap} {f cc c C : Addr} {doc pm ct : Value} (T : ExI P K mg "BadTable.__init__" (inClass (top 4) 0) C f ⟨"__init__", "BadTable.__init__", defArgs (inClass (top 4) 0), defBody (inClass (top 4) 0), defScope (inClass (top 4) 0), [(("__class__" : Str), cc)], c⟩ doc pm ct) (h1 : PySem.W.findIn K (.ref C) "at" = some none) :
    FnOk P w K mg base (L2.CX P w) 1 f (NF.fd ⟨"__init__", "BadTable.__init__", defArgs (inClass (top 4) 0), defBody (inClass (top 4) 0), defScope (inClass (top 4) 0), [(("__class__" : Str), cc)], c⟩ doc pm ct) [("self" : Str), ("at" : Str)] (spIni C [("at" : Str)]) :=
  ini1 T (nscope_by (sc := defScope (inClass (top 4) 0)) (by decide +kernel)) rfl rfl rfl h1 ⟨by decide +kernel, by decide +kernel⟩ (fun A outer s H E => ⟨_, pe_joined (.cons pe_str (.cons (pe_fmt (pe_var (i := 1) rfl (.inl rfl))) (.cons pe_str .nil))), fun a v1 H Q o1 hq => js_ok _ _ (List.forall_mem_cons.mpr ⟨part_str (by decide +kernel), (List.forall_mem_cons.mpr ⟨part_fmt rfl o1, (List.forall_mem_cons.mpr ⟨part_str (by decide +kernel), (fun _ h => nomatch h)⟩)⟩)⟩) (by decide) fun out => hq _⟩)
theorem err_BadTable {P : Program} {w : World} {K : PySem.W.Frag} {mg : Str → Option Value} {base : Heap} {C : Addr} (E : ErrF K P.main.file "BadTable" "BadTable.__init__" (inClass (top 4) 0) C) (hm : mg "BadTable" = some (.ref C)) (noS : mg "super" = none) (opq : PySem.W.nsIn K cStatics "thirdparty.any" = some none) (top : (P.main.scope.names.lookup ("super" : Str)).isSome = false) (h1 : PySem.W.findIn K (.ref C) "at" = some none) : ErrD P w K mg base "BadTable" C [("at" : Str)] :=
  E.errD hm noS opq top (ps := [("self" : Str), ("at" : Str)]) (by decide) (fun _ _ _ _ _ us hl => match us, hl with | [_, _], _ => rfl) (fun f cc c doc pm ct T => ini_BadTable T h1)
end K12
set_option Elab.async false
set_option linter.all false
set_option maxRecDepth 100000
set_option maxHeartbeats 4000000
namespace K12
open PySem PySem.Spec PyProof.Rows L2 PW NdefX
/-! ### the law -/
abbrev spLaw : PSp := mkSp (fun (a : { ns : List Int // ns.length ≤ 63 }) args => args = [.fz (.rls (a.1.map .int))]) (fun _ r _ => r = .fz (.bl true)) noEx
theorem ok_law {P : Program} {w : World} {K : PySem.W.Frag} {mg : Str → Option Value} {base : Heap} {C_BadCount C_BadNumber C_BadTable C_ReelError f : Addr} {fd : FuncData} (T : Txt K mg C_BadCount C_BadNumber C_BadTable C_ReelError)
    (c1 : CalD P w K mg base 1 "_law_draw" spDr) (c2 : CalD P w K mg base 2 "_law_long_table" spLt) (c3 : CalD P w K mg base 6 "_law_meets" spMt) (c4 : CalD P w K mg base 8 "_law_out_of_range" spBp) (c5 : CalD P w K mg base 7 "_law_refuses" spRs) (c6 : CalD P w K mg base 2 "_law_size_of_cover" spSc) (c7 : CalD P w K mg base 2 "_law_size_of_pairing" spSp) (c8 : CalD P w K mg base 2 "_law_table" spTb) (c9 : CalD P w K mg base 8 "_law_wrong_rows" spBp)
    (c10 : CalD P w K mg base 5 "greatest_pairing" (spGp C_BadCount C_BadNumber C_BadTable)) (c11 : CalD P w K mg base 5 "pairing_cover" (spPc C_BadCount C_BadNumber C_BadTable))
    (Fn : Fun K "law" "law" s_law f fd) : FnOk P w K mg base (L2.CX P w) 9 f fd [("script" : Str)] (spM K spLaw) :=
  Fn.M sc_law (fun a args h => by rw [show args = _ from h]; rfl) (fun cdv A outer s H E hr => d_law T c1 c2 c3 c4 c5 c6 c7 c8 c9 c10 c11 hr) (fun a args h => by
    rw [show args = _ from h]
    exact p_lawA a.2 fun d0 d1 ns' T4 T5 T8 d6 o9 l h1 h2 => p_lawB h1 h2 fun e => rfl)
theorem all_mk {P : Program} {w : World} {K : PySem.W.Frag} {h : Heap} {mg : Str → Option Value} {C_BadCount C_BadNumber C_BadTable C_ReelError f_check_number f_check_count f__law_draw f__law_is_int f__turn_way f__pair_row f_paired f_check_table f_greatest_pairing f_reached f_pairing_cover f__law_size_of_pairing f__law_size_of_cover f__law_meets f__law_refusal f__law_refuses f__law_out_of_range f__law_wrong_rows f__law_table f__law_long_table f_law fa : Addr} {t_MOST_COLUMNS} {t_MOST_ROWS} (X : K.In h) (G : h.Ns mainGlobals mg) (hfa : mg "law" = some (.ref fa)) (top_ : (P.main.scope.names.lookup ("super" : Str)).isSome = false)
    (e_BadNumber : ErrF K P.main.file "BadNumber" "BadNumber.__init__" (inClass (top 2) 0) C_BadNumber)
    (e_BadCount : ErrF K P.main.file "BadCount" "BadCount.__init__" (inClass (top 3) 0) C_BadCount)
    (e_BadTable : ErrF K P.main.file "BadTable" "BadTable.__init__" (inClass (top 4) 0) C_BadTable)
    (m_ReelError : PySem.W.nsIn K mainGlobals "ReelError" = some (some (.ref C_ReelError)))
    (a_BadCount_many : PySem.W.findIn K (.ref C_BadCount) "many" = some none)
    (a_BadCount_what : PySem.W.findIn K (.ref C_BadCount) "what" = some none)
    (a_BadNumber_number : PySem.W.findIn K (.ref C_BadNumber) "number" = some none)
    (a_BadNumber_what : PySem.W.findIn K (.ref C_BadNumber) "what" = some none)
    (a_BadTable_at : PySem.W.findIn K (.ref C_BadTable) "at" = some none)
    (z_ValueError : PySem.W.nsIn K mainGlobals "ValueError" = some none)
    (z_abs : PySem.W.nsIn K mainGlobals "abs" = some none)
    (z_bool : PySem.W.nsIn K mainGlobals "bool" = some none)
    (z_enumerate : PySem.W.nsIn K mainGlobals "enumerate" = some none)
    (z_int : PySem.W.nsIn K mainGlobals "int" = some none)
    (z_isinstance : PySem.W.nsIn K mainGlobals "isinstance" = some none)
    (z_len : PySem.W.nsIn K mainGlobals "len" = some none)
    (z_list : PySem.W.nsIn K mainGlobals "list" = some none)
    (z_range : PySem.W.nsIn K mainGlobals "range" = some none)
    (z_tuple : PySem.W.nsIn K mainGlobals "tuple" = some none)
    (n_MOST_COLUMNS : PySem.W.nsIn K mainGlobals "MOST_COLUMNS" = some (some (.int 128 t_MOST_COLUMNS)))
    (n_MOST_ROWS : PySem.W.nsIn K mainGlobals "MOST_ROWS" = some (some (.int 128 t_MOST_ROWS)))
    (z_super : PySem.W.nsIn K mainGlobals "super" = some none)
    (opq : PySem.W.nsIn K cStatics "thirdparty.any" = some none)
    (xCC : PySem.W.exmOne K (.ref C_BadCount) (.ref C_BadCount) = some true)
    (xNC : PySem.W.exmOne K (.ref C_BadNumber) (.ref C_BadCount) = some false)
    (xTC : PySem.W.exmOne K (.ref C_BadTable) (.ref C_BadCount) = some false)
    (xNN : PySem.W.exmOne K (.ref C_BadNumber) (.ref C_BadNumber) = some true)
    (xTN : PySem.W.exmOne K (.ref C_BadTable) (.ref C_BadNumber) = some false)
    (xTT : PySem.W.exmOne K (.ref C_BadTable) (.ref C_BadTable) = some true)
    (iCN : PySem.W.kitOne K (.ref C_BadCount) (.ref C_BadNumber) = some false)
    (iCT : PySem.W.kitOne K (.ref C_BadCount) (.ref C_BadTable) = some false)
    (iCR : PySem.W.kitOne K (.ref C_BadCount) (.ref C_ReelError) = some true)
    (iNC : PySem.W.kitOne K (.ref C_BadNumber) (.ref C_BadCount) = some false)
    (iNT : PySem.W.kitOne K (.ref C_BadNumber) (.ref C_BadTable) = some false)
    (iNR : PySem.W.kitOne K (.ref C_BadNumber) (.ref C_ReelError) = some true)
    (iTC : PySem.W.kitOne K (.ref C_BadTable) (.ref C_BadCount) = some false)
    (iTN : PySem.W.kitOne K (.ref C_BadTable) (.ref C_BadNumber) = some false)
    (iTV : PySem.W.kitOne K (.ref C_BadTable) (.type "ValueError") = some true)
    (iTR : PySem.W.kitOne K (.ref C_BadTable) (.ref C_ReelError) = some true)
    (F_check_number : FnF K "check_number" s_check_number f_check_number)
    (F_check_count : FnF K "check_count" s_check_count f_check_count)
    (F__law_draw : FnF K "_law_draw" s__law_draw f__law_draw)
    (F__law_is_int : FnF K "_law_is_int" s__law_is_int f__law_is_int)
    (F__turn_way : FnF K "_turn_way" s__turn_way f__turn_way)
    (F__pair_row : FnF K "_pair_row" s__pair_row f__pair_row)
    (F_paired : FnF K "paired" s_paired f_paired)
    (F_check_table : FnF K "check_table" s_check_table f_check_table)
    (F_greatest_pairing : FnF K "greatest_pairing" s_greatest_pairing f_greatest_pairing)
    (F_reached : FnF K "reached" s_reached f_reached)
    (F_pairing_cover : FnF K "pairing_cover" s_pairing_cover f_pairing_cover)
    (F__law_size_of_pairing : FnF K "_law_size_of_pairing" s__law_size_of_pairing f__law_size_of_pairing)
    (F__law_size_of_cover : FnF K "_law_size_of_cover" s__law_size_of_cover f__law_size_of_cover)
    (F__law_meets : FnF K "_law_meets" s__law_meets f__law_meets)
    (F__law_refusal : FnF K "_law_refusal" s__law_refusal f__law_refusal)
    (F__law_refuses : FnF K "_law_refuses" s__law_refuses f__law_refuses)
    (F__law_out_of_range : FnF K "_law_out_of_range" s__law_out_of_range f__law_out_of_range)
    (F__law_wrong_rows : FnF K "_law_wrong_rows" s__law_wrong_rows f__law_wrong_rows)
    (F__law_table : FnF K "_law_table" s__law_table f__law_table)
    (F__law_long_table : FnF K "_law_long_table" s__law_long_table f__law_long_table)
    (F_law : FnF K "law" s_law f_law)
    : ∃ fd : FuncData, (∀ (s : Shared) (v : Value), BindsTo s fd ⟨[v], []⟩ [("script", v)]) ∧ ∀ base : Heap, K.In base → base.Ns mainGlobals mg → FnOk P w K mg base (L2.CX P w) 9 fa fd [("script" : Str)] (spM K spLaw) := by
  have e := hfa.symm.trans (F_law.mg X G)
  cases e
  have T : Txt K mg C_BadCount C_BadNumber C_BadTable C_ReelError := ⟨PySem.W.mg_of X G e_BadCount.a, PySem.W.mg_of X G e_BadNumber.a, PySem.W.mg_of X G e_BadTable.a, PySem.W.mg_of X G m_ReelError, a_BadCount_many, a_BadCount_what, a_BadNumber_number, a_BadNumber_what, a_BadTable_at, PySem.W.mg_none_of X G z_ValueError, PySem.W.mg_none_of X G z_abs, PySem.W.mg_none_of X G z_bool, PySem.W.mg_none_of X G z_enumerate, PySem.W.mg_none_of X G z_int, PySem.W.mg_none_of X G z_isinstance, PySem.W.mg_none_of X G z_len, PySem.W.mg_none_of X G z_list, PySem.W.mg_none_of X G z_range, PySem.W.mg_none_of X G z_tuple, ⟨_, PySem.W.mg_of X G n_MOST_COLUMNS⟩, ⟨_, PySem.W.mg_of X G n_MOST_ROWS⟩, e_BadCount.xf, e_BadNumber.xf, e_BadTable.xf⟩
  have noS := PySem.W.mg_none_of X G z_super
  obtain ⟨fd, Fn⟩ := F_law.fun
  have bl : BindA "law" s_law [("script" : Str)] := fun _ _ _ _ _ _ us hl => match us, hl with | [_], _ => rfl
  refine ⟨fd, fun s v => ?_, fun base _ _ => ?_⟩
  · obtain ⟨oc, od, kV, doc, pm, an, cdv, ct, osl, rfl, lk, hcd⟩ := id Fn.ex
    exact .of_eq (bl kV doc pm an cdv ct [v] rfl)
  have E_BadNumber : ErrD P w K mg base "BadNumber" C_BadNumber [("what" : Str), ("number" : Str)] := err_BadNumber e_BadNumber (PySem.W.mg_of X G e_BadNumber.a) noS opq top_ a_BadNumber_what a_BadNumber_number
  have E_BadCount : ErrD P w K mg base "BadCount" C_BadCount [("what" : Str), ("many" : Str)] := err_BadCount e_BadCount (PySem.W.mg_of X G e_BadCount.a) noS opq top_ a_BadCount_what a_BadCount_many
  have E_BadTable : ErrD P w K mg base "BadTable" C_BadTable [("at" : Str)] := err_BadTable e_BadTable (PySem.W.mg_of X G e_BadTable.a) noS opq top_ a_BadTable_at
  have hx : ∀ {D : Addr} (C : Addr), exTab K [C_BadCount, C_BadNumber, C_BadTable] D C = some true → ExcC K C := fun {D} C h => by
    have m := exTab_m h
    rcases List.mem_cons.mp m with rfl | m
    · exact e_BadCount.exc
    rcases List.mem_cons.mp m with rfl | m
    · exact e_BadNumber.exc
    rcases List.mem_cons.mp m with rfl | m
    · exact e_BadTable.exc
    · cases m
  have TB : Tabs C_BadCount C_BadNumber C_BadTable C_ReelError (exTab K [C_BadCount, C_BadNumber, C_BadTable] C_BadCount) (exTab K [C_BadCount, C_BadNumber, C_BadTable] C_BadNumber) (exTab K [C_BadCount, C_BadNumber, C_BadTable] C_BadTable) (isTab K) :=
    ⟨exTab_is (by simp) xCC, exTab_is (by simp) xNC, exTab_is (by simp) xTC, exTab_is (by simp) xNN, exTab_is (by simp) xTN, exTab_is (by simp) xTT, iCN, iCT, iCR, iNC, iNT, iNR, iTC, iTN, iTV, iTR⟩
  have c_check_number := F_check_number.cal (P := P) (w := w) (base := base) (F_check_number.mg X G) (fun fd Fn => ok_check_number T E_BadNumber Fn) (fun _ _ _ _ _ _ us hl => match us, hl with | [_, _, _, _], _ => rfl)
  have c_check_count := F_check_count.cal (P := P) (w := w) (base := base) (F_check_count.mg X G) (fun fd Fn => ok_check_count T E_BadCount Fn) (fun _ _ _ _ _ _ us hl => match us, hl with | [_, _, _, _], _ => rfl)
  have c__law_draw := F__law_draw.cal (P := P) (w := w) (base := base) (F__law_draw.mg X G) (fun fd Fn => ok__law_draw T  Fn) (fun _ _ _ _ _ _ us hl => match us, hl with | [_, _], _ => rfl)
  have c__law_is_int := F__law_is_int.cal (P := P) (w := w) (base := base) (F__law_is_int.mg X G) (fun fd Fn => ok__law_is_int T  Fn) (fun _ _ _ _ _ _ us hl => match us, hl with | [_], _ => rfl)
  have c__turn_way := F__turn_way.cal (P := P) (w := w) (base := base) (F__turn_way.mg X G) (fun fd Fn => ok__turn_way T  Fn) (fun _ _ _ _ _ _ us hl => match us, hl with | [_, _, _, _], _ => rfl)
  have c__pair_row := F__pair_row.cal (P := P) (w := w) (base := base) (F__pair_row.mg X G) (fun fd Fn => ok__pair_row T c__turn_way Fn) (fun _ _ _ _ _ _ us hl => match us, hl with | [_, _, _, _], _ => rfl)
  have c_paired := F_paired.cal (P := P) (w := w) (base := base) (F_paired.mg X G) (fun fd Fn => ok_paired T c__pair_row Fn) (fun _ _ _ _ _ _ us hl => match us, hl with | [_, _], _ => rfl)
  have c_check_table := F_check_table.cal (P := P) (w := w) (base := base) (F_check_table.mg X G) (fun fd Fn => ok_check_table T c_check_count c_check_number E_BadTable Fn) (fun _ _ _ _ _ _ us hl => match us, hl with | [_, _], _ => rfl)
  have c_greatest_pairing := F_greatest_pairing.cal (P := P) (w := w) (base := base) (F_greatest_pairing.mg X G) (fun fd Fn => ok_greatest_pairing T c_check_table c_paired Fn) (fun _ _ _ _ _ _ us hl => match us, hl with | [_, _], _ => rfl)
  have c_reached := F_reached.cal (P := P) (w := w) (base := base) (F_reached.mg X G) (fun fd Fn => ok_reached T  Fn) (fun _ _ _ _ _ _ us hl => match us, hl with | [_, _, _, _], _ => rfl)
  have c_pairing_cover := F_pairing_cover.cal (P := P) (w := w) (base := base) (F_pairing_cover.mg X G) (fun fd Fn => ok_pairing_cover T c_check_table c_paired c_reached Fn) (fun _ _ _ _ _ _ us hl => match us, hl with | [_, _], _ => rfl)
  have k_pairing_cover := F_pairing_cover.calK (P := P) (w := w) (base := base) (ks := [("rows" : Str), ("columns" : Str)]) (F_pairing_cover.mg X G) (fun fd Fn => ok_pairing_cover T c_check_table c_paired c_reached Fn) (fun _ _ _ _ _ _ us hl => match us, hl with | [_, _], _ => rfl) (by decide)
  have c__law_size_of_pairing := F__law_size_of_pairing.cal (P := P) (w := w) (base := base) (F__law_size_of_pairing.mg X G) (fun fd Fn => ok__law_size_of_pairing T c__law_is_int Fn) (fun _ _ _ _ _ _ us hl => match us, hl with | [_, _], _ => rfl)
  have c__law_size_of_cover := F__law_size_of_cover.cal (P := P) (w := w) (base := base) (F__law_size_of_cover.mg X G) (fun fd Fn => ok__law_size_of_cover T c__law_is_int Fn) (fun _ _ _ _ _ _ us hl => match us, hl with | [_, _, _], _ => rfl)
  have c__law_meets := F__law_meets.cal (P := P) (w := w) (base := base) (F__law_meets.mg X G) (fun fd Fn => ok__law_meets T c__law_size_of_cover c__law_size_of_pairing c_greatest_pairing k_pairing_cover Fn) (fun _ _ _ _ _ _ us hl => match us, hl with | [_, _, _], _ => rfl)
  have c__law_refusal := F__law_refusal.cal (P := P) (w := w) (base := base) (F__law_refusal.mg X G) (fun fd Fn => ok__law_refusal T c_greatest_pairing c_pairing_cover TB (fun _ _ => exTab_h) hx (fun _ _ => isTab_ok) (fun _ _ => exTab_h) hx (fun _ _ => isTab_ok) (fun _ _ => exTab_h) hx (fun _ _ => isTab_ok) Fn) (fun _ _ _ _ _ _ us hl => match us, hl with | [_, _, _], _ => rfl)
  have c__law_refuses := F__law_refuses.cal (P := P) (w := w) (base := base) (F__law_refuses.mg X G) (fun fd Fn => ok__law_refuses T c__law_is_int c__law_refusal Fn) (fun _ _ _ _ _ _ us hl => match us, hl with | [_, _, _, _, _], _ => rfl)
  have c__law_out_of_range := F__law_out_of_range.cal (P := P) (w := w) (base := base) (F__law_out_of_range.mg X G) (fun fd Fn => ok__law_out_of_range T c__law_draw c__law_refuses Fn) (fun _ _ _ _ _ _ us hl => match us, hl with | [_], _ => rfl)
  have c__law_wrong_rows := F__law_wrong_rows.cal (P := P) (w := w) (base := base) (F__law_wrong_rows.mg X G) (fun fd Fn => ok__law_wrong_rows T c__law_draw c__law_meets c__law_refuses Fn) (fun _ _ _ _ _ _ us hl => match us, hl with | [_], _ => rfl)
  have c__law_table := F__law_table.cal (P := P) (w := w) (base := base) (F__law_table.mg X G) (fun fd Fn => ok__law_table T c__law_draw Fn) (fun _ _ _ _ _ _ us hl => match us, hl with | [_], _ => rfl)
  have c__law_long_table := F__law_long_table.cal (P := P) (w := w) (base := base) (F__law_long_table.mg X G) (fun fd Fn => ok__law_long_table T c__law_draw Fn) (fun _ _ _ _ _ _ us hl => match us, hl with | [_], _ => rfl)
  exact ok_law T c__law_draw c__law_long_table c__law_meets c__law_out_of_range c__law_refuses c__law_size_of_cover c__law_size_of_pairing c__law_table c__law_wrong_rows c_greatest_pairing c_pairing_cover Fn
theorem entry {K : PySem.W.Frag} {H : Hp} {a : Addr} {ns : List Int} (hl : ns.length ≤ 63) (h : SqL K H a (ns.map V.int)) : spM K spLaw [.ref a] H (fun v _ => v = .bl true) fun _ _ _ => False := by
  have hr : Rps K H (ns.map V.int) (ns.map D.int) := by
    clear h hl
    induction ns with
    | nil => exact .nil
    | cons n ns ih => exact .cons (.int n) ih
  refine ⟨⟨fun _ => none, H, fun _ => none, 1⟩, H, [.fz (.rls (ns.map .int))], rfl, ⟨⟨rfl, Nat.le_refl _⟩, fun _ _ e => e, fun _ _ e => e, fun i d k => ?_, fun i an ds k => ?_, fun i v k => (nomatch k), fun i b ds k => ?_, fun i o k z => ?_, fun i j p o _ => ?_, fun b o k => (nomatch k)⟩, fun i ds k => ?_, fun i ds k => ?_, ⟨ns, hl⟩, rfl, fun r o hr F' H' v _ q => ?_, fun _ _ k => k.elim⟩
  · cases i with
    | zero => cases k; exact ⟨_, rfl, .rls h hr⟩
    | succ i => cases k
  · cases i <;> cases k
  · cases i <;> cases k
  · cases i with
    | zero => simp at z
    | succ i => cases k
  · rcases o with ⟨⟨an, ds, k⟩, _⟩ | ⟨ds, k⟩ <;> (cases i <;> cases k)
  · cases i <;> cases k
  · cases i <;> cases k
  · cases hr
    cases q
    rfl
theorem walk {l : PySem.W.OpenLaw} {q : Program} {loose : List Str} {XP : (Str → Option Value) → Heap → Prop} {YP : World → Heap → Prop} {d : DefRec} {K : Params → PySem.W.Frag} (hn : l.most = some 63) (hdf : d.params.defaults = [])
    (hY : ∀ (w : World) (h : Heap), YP w h → (K w.params).In h)
    (F : ∀ (w : World) (mg : Str → Option Value) (fa : Addr) (h : Heap), (K w.params).In h → h.Ns mainGlobals mg → mg d.name = some (.ref fa) →
      ∃ fd : FuncData, (∀ (s : Shared) (u : Value), BindsTo s fd ⟨[u], []⟩ [("script", u)]) ∧ ∀ base : Heap, (K w.params).In base → base.Ns mainGlobals mg → FnOk l.prog w (K w.params) mg base (L2.CX l.prog w) 9 fa fd [("script" : Str)] (spM (K w.params) spLaw)) :
    PySem.W.WalkO q loose XP YP l.row.toRowW d [] (fun f vs => PySem.call f vs) :=
  L2.walk_of (n := 63) (k := 9) (x := "script") (CX := fun w => L2.CX l.prog w) (sp := fun w => spM (K w.params) spLaw) hn (by decide) hdf ⟨rfl, by decide, by decide⟩ hY F (fun _ _ a ns hl _ hS => entry hl hS) fun w H s e s' z => by
    obtain ⟨_, _, _, _, _, _, _, _, _, _, _, _, h⟩ := z
    exact h
end K12
open PySem PySem.W PyProof.Rows in
set_option maxRecDepth 100000 in
set_option maxHeartbeats 0 in
theorem PySem.Challenge.cw_reelrounds_k12_matching_meets_cover_holds : PySem.Challenge.rw_reelrounds_k12_matching_meets_cover.Holds := by
  w_on; o_law; k_head; (case hw => w_witness2)
  k_fill
  refine K12.walk (l := PySem.Challenge.rw_reelrounds_k12_matching_meets_cover) rfl rfl (fun w h Y => PySem.W.kIn_of Y) ?F
  case F =>
    intro w mg fa h KX G hmg
    refine' K12.all_mk (P := PySem.Challenge.rw_reelrounds_k12_matching_meets_cover.prog) KX G hmg (by decide +kernel) ?e_BadNumber ?e_BadCount ?e_BadTable ?m_ReelError ?a_BadCount_many ?a_BadCount_what ?a_BadNumber_number ?a_BadNumber_what ?a_BadTable_at ?z_ValueError ?z_abs ?z_bool ?z_enumerate ?z_int ?z_isinstance ?z_len ?z_list ?z_range ?z_tuple ?n_MOST_COLUMNS ?n_MOST_ROWS ?z_super ?opq ?xCC ?xNC ?xTC ?xNN ?xTN ?xTT ?iCN ?iCT ?iCR ?iNC ?iNT ?iNR ?iTC ?iTN ?iTV ?iTR ?F_check_number ?F_check_count ?F__law_draw ?F__law_is_int ?F__turn_way ?F__pair_row ?F_paired ?F_check_table ?F_greatest_pairing ?F_reached ?F_pairing_cover ?F__law_size_of_pairing ?F__law_size_of_cover ?F__law_meets ?F__law_refusal ?F__law_refuses ?F__law_out_of_range ?F__law_wrong_rows ?F__law_table ?F__law_long_table ?F_law
    (case e_BadNumber => (refine' PW.ErrF.of ?ae_BadNumber ?x1e_BadNumber ?x2e_BadNumber ?sae_BadNumber ?exCe_BadNumber ?tyCe_BadNumber ?kCe_BadNumber ?i1e_BadNumber ?i2e_BadNumber ?i3e_BadNumber ?i4e_BadNumber ?i5e_BadNumber ?i6e_BadNumber ?i7e_BadNumber ?supe_BadNumber ?subVe_BadNumber ?mroe_BadNumber ?gae_BadNumber ?gge_BadNumber ?hde_BadNumber ?cae_BadNumber ?gse_BadNumber ?tke_BadNumber ?moe_BadNumber; (case ae_BadNumber => k_is); (case x1e_BadNumber => k_is); (case x2e_BadNumber => decide +kernel); (case sae_BadNumber => k_is); (case exCe_BadNumber => k_is); (case tyCe_BadNumber => k_is); (case kCe_BadNumber => k_is); (case i1e_BadNumber => k_is); (case i2e_BadNumber => k_is); (case i3e_BadNumber => k_is); (case i4e_BadNumber => k_is); (case i5e_BadNumber => k_is); (case i6e_BadNumber => k_is); (case i7e_BadNumber => rfl); (case supe_BadNumber => kernel_rfl); (case subVe_BadNumber => k_is); (case mroe_BadNumber => k_is); (case gae_BadNumber => k_is); (case gge_BadNumber => k_is); (case hde_BadNumber => k_is); (case cae_BadNumber => k_is); (case gse_BadNumber => k_is); (case tke_BadNumber => k_is); (case moe_BadNumber => k_is)))
    (case e_BadCount => (refine' PW.ErrF.of ?ae_BadCount ?x1e_BadCount ?x2e_BadCount ?sae_BadCount ?exCe_BadCount ?tyCe_BadCount ?kCe_BadCount ?i1e_BadCount ?i2e_BadCount ?i3e_BadCount ?i4e_BadCount ?i5e_BadCount ?i6e_BadCount ?i7e_BadCount ?supe_BadCount ?subVe_BadCount ?mroe_BadCount ?gae_BadCount ?gge_BadCount ?hde_BadCount ?cae_BadCount ?gse_BadCount ?tke_BadCount ?moe_BadCount; (case ae_BadCount => k_is); (case x1e_BadCount => k_is); (case x2e_BadCount => decide +kernel); (case sae_BadCount => k_is); (case exCe_BadCount => k_is); (case tyCe_BadCount => k_is); (case kCe_BadCount => k_is); (case i1e_BadCount => k_is); (case i2e_BadCount => k_is); (case i3e_BadCount => k_is); (case i4e_BadCount => k_is); (case i5e_BadCount => k_is); (case i6e_BadCount => k_is); (case i7e_BadCount => rfl); (case supe_BadCount => kernel_rfl); (case subVe_BadCount => k_is); (case mroe_BadCount => k_is); (case gae_BadCount => k_is); (case gge_BadCount => k_is); (case hde_BadCount => k_is); (case cae_BadCount => k_is); (case gse_BadCount => k_is); (case tke_BadCount => k_is); (case moe_BadCount => k_is)))
    (case e_BadTable => (refine' PW.ErrF.of ?ae_BadTable ?x1e_BadTable ?x2e_BadTable ?sae_BadTable ?exCe_BadTable ?tyCe_BadTable ?kCe_BadTable ?i1e_BadTable ?i2e_BadTable ?i3e_BadTable ?i4e_BadTable ?i5e_BadTable ?i6e_BadTable ?i7e_BadTable ?supe_BadTable ?subVe_BadTable ?mroe_BadTable ?gae_BadTable ?gge_BadTable ?hde_BadTable ?cae_BadTable ?gse_BadTable ?tke_BadTable ?moe_BadTable; (case ae_BadTable => k_is); (case x1e_BadTable => k_is); (case x2e_BadTable => decide +kernel); (case sae_BadTable => k_is); (case exCe_BadTable => k_is); (case tyCe_BadTable => k_is); (case kCe_BadTable => k_is); (case i1e_BadTable => k_is); (case i2e_BadTable => k_is); (case i3e_BadTable => k_is); (case i4e_BadTable => k_is); (case i5e_BadTable => k_is); (case i6e_BadTable => k_is); (case i7e_BadTable => rfl); (case supe_BadTable => kernel_rfl); (case subVe_BadTable => k_is); (case mroe_BadTable => k_is); (case gae_BadTable => k_is); (case gge_BadTable => k_is); (case hde_BadTable => k_is); (case cae_BadTable => k_is); (case gse_BadTable => k_is); (case tke_BadTable => k_is); (case moe_BadTable => k_is)))
    (case m_ReelError => k_is)
    (case a_BadCount_many => k_is)
    (case a_BadCount_what => k_is)
    (case a_BadNumber_number => k_is)
    (case a_BadNumber_what => k_is)
    (case a_BadTable_at => k_is)
    (case z_ValueError => k_is)
    (case z_abs => k_is)
    (case z_bool => k_is)
    (case z_enumerate => k_is)
    (case z_int => k_is)
    (case z_isinstance => k_is)
    (case z_len => k_is)
    (case z_list => k_is)
    (case z_range => k_is)
    (case z_tuple => k_is)
    (case n_MOST_COLUMNS => k_is)
    (case n_MOST_ROWS => k_is)
    (case z_super => k_is)
    (case opq => k_is)
    (case xCC => kernel_rfl)
    (case xNC => kernel_rfl)
    (case xTC => kernel_rfl)
    (case xNN => kernel_rfl)
    (case xTN => kernel_rfl)
    (case xTT => kernel_rfl)
    (case iCN => kernel_rfl)
    (case iCT => kernel_rfl)
    (case iCR => kernel_rfl)
    (case iNC => kernel_rfl)
    (case iNT => kernel_rfl)
    (case iNR => kernel_rfl)
    (case iTC => kernel_rfl)
    (case iTN => kernel_rfl)
    (case iTV => kernel_rfl)
    (case iTR => kernel_rfl)
    (case F_check_number => (refine' PW.FnF.of ?aF_check_number ?lF_check_number ?cF_check_number ?kF_check_number; (case aF_check_number => k_is); (case lF_check_number => k_is); (case cF_check_number => k_is); (case kF_check_number => k_is)))
    (case F_check_count => (refine' PW.FnF.of ?aF_check_count ?lF_check_count ?cF_check_count ?kF_check_count; (case aF_check_count => k_is); (case lF_check_count => k_is); (case cF_check_count => k_is); (case kF_check_count => k_is)))
    (case F__law_draw => (refine' PW.FnF.of ?aF__law_draw ?lF__law_draw ?cF__law_draw ?kF__law_draw; (case aF__law_draw => k_is); (case lF__law_draw => k_is); (case cF__law_draw => k_is); (case kF__law_draw => k_is)))
    (case F__law_is_int => (refine' PW.FnF.of ?aF__law_is_int ?lF__law_is_int ?cF__law_is_int ?kF__law_is_int; (case aF__law_is_int => k_is); (case lF__law_is_int => k_is); (case cF__law_is_int => k_is); (case kF__law_is_int => k_is)))
    (case F__turn_way => (refine' PW.FnF.of ?aF__turn_way ?lF__turn_way ?cF__turn_way ?kF__turn_way; (case aF__turn_way => k_is); (case lF__turn_way => k_is); (case cF__turn_way => k_is); (case kF__turn_way => k_is)))
    (case F__pair_row => (refine' PW.FnF.of ?aF__pair_row ?lF__pair_row ?cF__pair_row ?kF__pair_row; (case aF__pair_row => k_is); (case lF__pair_row => k_is); (case cF__pair_row => k_is); (case kF__pair_row => k_is)))
    (case F_paired => (refine' PW.FnF.of ?aF_paired ?lF_paired ?cF_paired ?kF_paired; (case aF_paired => k_is); (case lF_paired => k_is); (case cF_paired => k_is); (case kF_paired => k_is)))
    (case F_check_table => (refine' PW.FnF.of ?aF_check_table ?lF_check_table ?cF_check_table ?kF_check_table; (case aF_check_table => k_is); (case lF_check_table => k_is); (case cF_check_table => k_is); (case kF_check_table => k_is)))
    (case F_greatest_pairing => (refine' PW.FnF.of ?aF_greatest_pairing ?lF_greatest_pairing ?cF_greatest_pairing ?kF_greatest_pairing; (case aF_greatest_pairing => k_is); (case lF_greatest_pairing => k_is); (case cF_greatest_pairing => k_is); (case kF_greatest_pairing => k_is)))
    (case F_reached => (refine' PW.FnF.of ?aF_reached ?lF_reached ?cF_reached ?kF_reached; (case aF_reached => k_is); (case lF_reached => k_is); (case cF_reached => k_is); (case kF_reached => k_is)))
    (case F_pairing_cover => (refine' PW.FnF.of ?aF_pairing_cover ?lF_pairing_cover ?cF_pairing_cover ?kF_pairing_cover; (case aF_pairing_cover => k_is); (case lF_pairing_cover => k_is); (case cF_pairing_cover => k_is); (case kF_pairing_cover => k_is)))
    (case F__law_size_of_pairing => (refine' PW.FnF.of ?aF__law_size_of_pairing ?lF__law_size_of_pairing ?cF__law_size_of_pairing ?kF__law_size_of_pairing; (case aF__law_size_of_pairing => k_is); (case lF__law_size_of_pairing => k_is); (case cF__law_size_of_pairing => k_is); (case kF__law_size_of_pairing => k_is)))
    (case F__law_size_of_cover => (refine' PW.FnF.of ?aF__law_size_of_cover ?lF__law_size_of_cover ?cF__law_size_of_cover ?kF__law_size_of_cover; (case aF__law_size_of_cover => k_is); (case lF__law_size_of_cover => k_is); (case cF__law_size_of_cover => k_is); (case kF__law_size_of_cover => k_is)))
    (case F__law_meets => (refine' PW.FnF.of ?aF__law_meets ?lF__law_meets ?cF__law_meets ?kF__law_meets; (case aF__law_meets => k_is); (case lF__law_meets => k_is); (case cF__law_meets => k_is); (case kF__law_meets => k_is)))
    (case F__law_refusal => (refine' PW.FnF.of ?aF__law_refusal ?lF__law_refusal ?cF__law_refusal ?kF__law_refusal; (case aF__law_refusal => k_is); (case lF__law_refusal => k_is); (case cF__law_refusal => k_is); (case kF__law_refusal => k_is)))
    (case F__law_refuses => (refine' PW.FnF.of ?aF__law_refuses ?lF__law_refuses ?cF__law_refuses ?kF__law_refuses; (case aF__law_refuses => k_is); (case lF__law_refuses => k_is); (case cF__law_refuses => k_is); (case kF__law_refuses => k_is)))
    (case F__law_out_of_range => (refine' PW.FnF.of ?aF__law_out_of_range ?lF__law_out_of_range ?cF__law_out_of_range ?kF__law_out_of_range; (case aF__law_out_of_range => k_is); (case lF__law_out_of_range => k_is); (case cF__law_out_of_range => k_is); (case kF__law_out_of_range => k_is)))
    (case F__law_wrong_rows => (refine' PW.FnF.of ?aF__law_wrong_rows ?lF__law_wrong_rows ?cF__law_wrong_rows ?kF__law_wrong_rows; (case aF__law_wrong_rows => k_is); (case lF__law_wrong_rows => k_is); (case cF__law_wrong_rows => k_is); (case kF__law_wrong_rows => k_is)))
    (case F__law_table => (refine' PW.FnF.of ?aF__law_table ?lF__law_table ?cF__law_table ?kF__law_table; (case aF__law_table => k_is); (case lF__law_table => k_is); (case cF__law_table => k_is); (case kF__law_table => k_is)))
    (case F__law_long_table => (refine' PW.FnF.of ?aF__law_long_table ?lF__law_long_table ?cF__law_long_table ?kF__law_long_table; (case aF__law_long_table => k_is); (case lF__law_long_table => k_is); (case cF__law_long_table => k_is); (case kF__law_long_table => k_is)))
    (case F_law => (refine' PW.FnF.of ?aF_law ?lF_law ?cF_law ?kF_law; (case aF_law => k_is); (case lF_law => k_is); (case cF_law => k_is); (case kF_law => k_is)))
#print axioms PySem.Challenge.cw_reelrounds_k12_matching_meets_cover_holds
