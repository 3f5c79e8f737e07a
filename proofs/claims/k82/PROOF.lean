import PyProof.Rows.All
import Wide.All
import OpenK.AllK
import Wide.FinOn
import HandS.ForExc
import HandS.ForMost
import HandS.Wide
import HandS.Evl
import HandS.TryOnly
import HandS.SuiteRaise
import HandS.IsInst
import HandS.ExcCtx
import HandS.Zip
import HandS.EndBits
import HandS.ExcIs
import HandS.HotCalls
import HandS.TupAny
import HandS.Text
import HandS.List
import HandS.Iter
import HandS.Deep
import KE.IntBitsLaws
import PySem.Challenge.RW_crystalwords_k82_lays
set_option Elab.async false
set_option linter.all false
set_option maxRecDepth 100000
/-! DLa: data, what bears it, slots, the state's relation. -/
namespace DL
open PySem PySem.Spec PyProof.Rows L2 Evl

/-- frozen data -/
inductive D where
  | non | bl (b : Bool) | int (i : Int) | str (x : Str) | tup (l : List D) | lst (l : List D)
  | obj (c : Str) (ns : List Str) (vs : List D)
  | opq (a : Addr)
instance : Inhabited D := ⟨.non⟩

mutual
def D.toPy : D → PyData
  | .non => .none | .bl b => .bool b | .int i => .int i | .str x => .str x
  | .tup l => .tuple (D.toPys l) | .lst l => .list (D.toPys l) | .obj _ _ _ => .dict [] | .opq _ => .dict []
def D.toPys : List D → List PyData
  | [] => [] | d :: r => d.toPy :: D.toPys r
end
theorem toPys_map : ∀ l : List D, D.toPys l = l.map D.toPy
  | [] => rfl
  | d :: r => by rw [D.toPys, toPys_map r]; rfl
def deq (d e : D) : Bool := PyData.eqv d.toPy e.toPy
def shp (d : D) : Bool := SeqAt.shaped d.toPy

abbrev MG := Str → Option Value
section
variable (K : PySem.W.Frag) (mg : MG)
mutual
/-- in H the value v is the data d -/
inductive Rp (H : Hp) : V → D → Prop
  | non : Rp H .non .non
  | bl (b : Bool) : Rp H (.bl b) (.bl b)
  | int (i : Int) : Rp H (.int i) (.int i)
  | str (x : Str) : Rp H (.str x) (.str x)
  | tup {a : Addr} {xs : List V} {ds : List D} : SqT K H a xs → Rps H xs ds → Rp H (.ref a) (.tup ds)
  | lst {a : Addr} {xs : List V} {ds : List D} : SqL K H a xs → Rps H xs ds → Rp H (.ref a) (.lst ds)
  | obj {a C dx : Addr} {c : Str} {ns : List Str} {xs : List V} {ds : List D} : H a = some (.ins C dx (ns.zip xs)) → mg c = some (.ref C) → ns.length = xs.length → Rps H xs ds → Rp H (.ref a) (.obj c ns ds)
  | opq (a : Addr) : Rp H (.ref a) (.opq a)
inductive Rps (H : Hp) : List V → List D → Prop
  | nil : Rps H [] []
  | cons {v : V} {vs : List V} {d : D} {ds : List D} : Rp H v d → Rps H vs ds → Rps H (v :: vs) (d :: ds)
end
end
variable {K : PySem.W.Frag} {mg : MG} {H H' H1 H2 Hf Hf' : Hp} {v : V} {d : D} {xs vs : List V} {ds : List D} {σ σ' : L2.St}

mutual
theorem Rp.mono (e : Ex H H') : ∀ {v : V} {d : D}, Rp K mg H v d → Rp K mg H' v d
  | _, _, .non => .non
  | _, _, .bl b => .bl b
  | _, _, .int i => .int i
  | _, _, .str x => .str x
  | _, _, .tup h r => .tup (ex_t e h) (Rps.mono e r)
  | _, _, .lst h r => .lst (ex_l e h) (Rps.mono e r)
  | _, _, .obj h c l r => .obj (e _ _ h) c l (Rps.mono e r)
  | _, _, .opq a => .opq a
theorem Rps.mono (e : Ex H H') : ∀ {v : List V} {d : List D}, Rps K mg H v d → Rps K mg H' v d
  | _, _, .nil => .nil
  | _, _, .cons h r => .cons (Rp.mono e h) (Rps.mono e r)
end
theorem Rps.length : ∀ {xs : List V} {ds : List D}, Rps K mg H xs ds → xs.length = ds.length
  | _, _, .nil => rfl
  | _, _, .cons _ r => congrArg (· + 1) (Rps.length r)
theorem Rps.get : ∀ {xs : List V} {ds : List D} {i : Nat} {d : D}, Rps K mg H xs ds → ds[i]? = some d → ∃ x, xs[i]? = some x ∧ Rp K mg H x d
  | _, _, _, _, .nil, e => by simp at e
  | _, _, 0, _, .cons r _, e => by simp at e; subst e; exact ⟨_, rfl, r⟩
  | _, _, i + 1, d, .cons _ t, e => by
    obtain ⟨u, h1, h2⟩ := Rps.get (i := i) (d := d) t (by simpa using e)
    exact ⟨u, by simpa using h1, h2⟩
theorem Rps.getV : ∀ {xs : List V} {ds : List D} {i : Nat} {x : V}, Rps K mg H xs ds → xs[i]? = some x → ∃ d, ds[i]? = some d ∧ Rp K mg H x d
  | _, _, _, _, .nil, e => by simp at e
  | _, _, 0, _, .cons r _, e => by simp at e; subst e; exact ⟨_, rfl, r⟩
  | _, _, i + 1, d, .cons _ t, e => by
    obtain ⟨u, h1, h2⟩ := Rps.getV (i := i) (x := d) t (by simpa using e)
    exact ⟨u, by simpa using h1, h2⟩
theorem Rps.append : ∀ {xs ys : List V} {ds es : List D}, Rps K mg H xs ds → Rps K mg H ys es → Rps K mg H (xs ++ ys) (ds ++ es)
  | _, _, _, _, .nil, s => s
  | _, _, _, _, .cons r t, s => .cons r (Rps.append t s)
theorem Rps.set {x : V} {d : D} (r : Rp K mg H x d) : ∀ {xs : List V} {ds : List D} (i : Nat), Rps K mg H xs ds → Rps K mg H (xs.set i x) (ds.set i d)
  | _, _, _, .nil => .nil
  | _, _, 0, .cons _ t => .cons r t
  | _, _, i + 1, .cons q t => .cons q (Rps.set r i t)
theorem Rps.take : ∀ {xs : List V} {ds : List D} (n : Nat), Rps K mg H xs ds → Rps K mg H (xs.take n) (ds.take n)
  | _, _, 0, _ => .nil
  | _, _, _ + 1, .nil => .nil
  | _, _, n + 1, .cons r t => .cons r (Rps.take n t)
theorem Rps.drop : ∀ {xs : List V} {ds : List D} (n : Nat), Rps K mg H xs ds → Rps K mg H (xs.drop n) (ds.drop n)
  | _, _, 0, r => r
  | _, _, _ + 1, .nil => .nil
  | _, _, n + 1, .cons _ t => Rps.drop n t
theorem Rps.reverse : ∀ {xs : List V} {ds : List D}, Rps K mg H xs ds → Rps K mg H xs.reverse ds.reverse
  | _, _, .nil => .nil
  | _, _, .cons r t => by
    rw [List.reverse_cons, List.reverse_cons]
    exact (Rps.reverse t).append (.cons r .nil)
theorem Rps.dropLast {xs : List V} {ds : List D} (h : Rps K mg H xs ds) : Rps K mg H xs.dropLast ds.dropLast := by
  rw [List.dropLast_eq_take, List.dropLast_eq_take, h.length]
  exact h.take _
theorem Rps.eraseIdx : ∀ {xs : List V} {ds : List D} (i : Nat), Rps K mg H xs ds → Rps K mg H (xs.eraseIdx i) (ds.eraseIdx i)
  | _, _, _, .nil => .nil
  | _, _, 0, .cons _ t => t
  | _, _, i + 1, .cons q t => .cons q (Rps.eraseIdx i t)

mutual
/-- plain data: no object within -/
def D.py : D → Bool
  | .obj _ _ _ => false
  | .opq _ => false
  | .tup l => D.pys l
  | .lst l => D.pys l
  | _ => true
def D.pys : List D → Bool
  | [] => true
  | d :: r => d.py && D.pys r
end
mutual
theorem Rp.dp : ∀ {v : V} {d : D}, Rp K mg H v d → d.py = true → Dp K H v d.toPy
  | _, _, .non, _ => .non
  | _, _, .bl b, _ => .bl b
  | _, _, .int i, _ => .int i
  | _, _, .str x, _ => .str x
  | _, _, .tup h r, p => .tup h (Rps.dps r (by rw [D.py] at p; exact p))
  | _, _, .lst h r, p => .lst h (Rps.dps r (by rw [D.py] at p; exact p))
  | _, _, .obj _ _ _ _, p => by rw [D.py] at p; cases p
  | _, _, .opq _, p => by rw [D.py] at p; cases p
theorem Rps.dps : ∀ {v : List V} {d : List D}, Rps K mg H v d → D.pys d = true → DpAll K H v (D.toPys d)
  | _, _, .nil, _ => .nil
  | _, _, .cons h r, p => by
    rw [D.pys, Bool.and_eq_true] at p
    exact .cons (Rp.dp h p.1) (Rps.dps r p.2)
end
theorem Rp.int_inv {v : V} {i : Int} (h : Rp K mg H v (.int i)) : v = .int i := by cases h; rfl
theorem Rp.bl_inv {v : V} {i : Bool} (h : Rp K mg H v (.bl i)) : v = .bl i := by cases h; rfl
theorem Rp.str_inv {v : V} {i : Str} (h : Rp K mg H v (.str i)) : v = .str i := by cases h; rfl
theorem Rp.non_inv {v : V} (h : Rp K mg H v .non) : v = .non := by cases h; rfl
theorem Rp.non_iff {v : V} {d : D} (h : Rp K mg H v d) : decide (v = .non) = (match d with | .non => true | _ => false) := by
  cases h <;> simp
theorem Rps.ints : ∀ {vs : List V} {ns : List Int}, Rps K mg H vs (ns.map D.int) → vs = ns.map V.int
  | _, [], .nil => rfl
  | _, n :: ns, .cons h r => by
    rw [h.int_inv, Rps.ints r]; rfl

/-! ### what a slot holds -/
/-- what an owned object holds -/
inductive OD where
  | lst (l : List D)
  | dK (ks : List Key) (ds : List D)
  | dT (ks : List (List Key)) (ds : List D)
inductive Sl where
  | no
  | val (d : D)
  | own (k : Option Nat) (o : OD)
abbrev DEnv := List Sl

/-- the object o is what od says, its parts frozen -/
def OdR (K : PySem.W.Frag) (mg : MG) (Hf : Hp) : OD → HO → Prop
  | .lst l, o => ∃ vs, o = .lst vs ∧ Rps K mg Hf vs l
  | .dK ks l, o => ∃ vs, o = .dK (ks.zip vs) ∧ ks.length = l.length ∧ Rps K mg Hf vs l
  | .dT ks l, o => ∃ vs, o = .dT (ks.zip vs) ∧ ks.length = l.length ∧ Rps K mg Hf vs l
theorem OdR.mono (e : Ex Hf Hf') {od : OD} {o : HO} (h : OdR K mg Hf od o) : OdR K mg Hf' od o := by
  cases od with
  | lst l => obtain ⟨vs, a, b⟩ := h; exact ⟨vs, a, b.mono e⟩
  | dK ks l => obtain ⟨vs, a, c, b⟩ := h; exact ⟨vs, a, c, b.mono e⟩
  | dT ks l => obtain ⟨vs, a, c, b⟩ := h; exact ⟨vs, a, c, b.mono e⟩

/-- ps: the addresses of what the caller handed in to be changed; g: what stands in the heap and is not ours -/
structure Fg where
  ps : List Addr
  g : Hp
def SlR (K : PySem.W.Frag) (mg : MG) (ps : List Addr) (Hf H : Hp) (x : Option V) : Sl → Prop
  | .no => True
  | .val d => ∃ v, x = some v ∧ Rp K mg Hf v d
  | .own k od => ∃ p o, x = some (.ref p) ∧ Hf p = none ∧ H p = some o ∧ OdR K mg Hf od o ∧ ∀ j, k = some j → ps[j]? = some p

structure SR (K : PySem.W.Frag) (mg : MG) (ps : Fg) (Hf H : Hp) (σ : L2.St) (e : DEnv) : Prop where
  ex : Ex Hf H
  len : σ.length = e.length
  sl : ∀ (i : Nat) (s : Sl), e[i]? = some s → ∃ x, σ[i]? = some x ∧ SlR K mg ps.ps Hf H x s
  ap : ∀ (i j : Nat) (k k' : Option Nat) (l l' : OD) (p : Addr), i ≠ j → e[i]? = some (.own k l) → e[j]? = some (.own k' l') → σ[i]? = some (some (.ref p)) → σ[j]? = some (some (.ref p)) → False
  fg : ∀ (a : Addr) (o : HO), ps.g a = some o → H a = some o ∧ Hf a = none ∧ ∀ (i : Nat) (k : Option Nat) (l : OD), e[i]? = some (.own k l) → σ[i]? = some (some (.ref a)) → False

variable {ps : Fg} {e e' : DEnv}
theorem SR.val (S : SR K mg ps Hf H σ e) {i : Nat} {d : D} (h : e[i]? = some (.val d)) : ∃ v, σ[i]? = some (some v) ∧ Rp K mg Hf v d := by
  obtain ⟨x, hx, v, rfl, r⟩ := S.sl i _ h
  exact ⟨v, hx, r⟩
theorem SR.own (S : SR K mg ps Hf H σ e) {i : Nat} {k : Option Nat} {od : OD} (h : e[i]? = some (.own k od)) :
    ∃ p o, σ[i]? = some (some (.ref p)) ∧ Hf p = none ∧ H p = some o ∧ OdR K mg Hf od o ∧ ∀ j, k = some j → ps.ps[j]? = some p := by
  obtain ⟨x, hx, p, o, rfl, r⟩ := S.sl i _ h
  exact ⟨p, o, hx, r⟩
/-- a new object, frozen at once -/
theorem SR.froze (S : SR K mg ps Hf H σ e) {p : Addr} {o : HO} (n : H p = none) : SR K mg ps (upd Hf p o) (upd H p o) σ e := by
  have ne : ∀ q u, H q = some u → q ≠ p := fun q u h => ne_of_none h n
  have nf : Hf p = none := fresh_back S.ex n
  refine ⟨fun a u h => ?_, S.len, fun i s h => ?_, S.ap, fun a u h => ?_⟩
  · by_cases hp : a = p
    · subst hp; rw [upd_same] at h ⊢; exact h
    · rw [upd_ne hp] at h ⊢; exact S.ex a u h
  · obtain ⟨x, hx, r⟩ := S.sl i s h
    refine ⟨x, hx, ?_⟩
    cases s with
    | no => trivial
    | val d => obtain ⟨v, a, b⟩ := r; exact ⟨v, a, b.mono (Ex.new nf)⟩
    | own k od =>
      obtain ⟨q, u, a, b, c, f, g⟩ := r
      exact ⟨q, u, a, by rw [upd_ne (ne q u c)]; exact b, by rw [upd_ne (ne q u c)]; exact c, f.mono (Ex.new nf), g⟩
  · obtain ⟨h1, h2, h3⟩ := S.fg a u h
    exact ⟨by rw [upd_ne (ne a u h1)]; exact h1, by rw [upd_ne (ne a u h1)]; exact h2, h3⟩
/-- a new object that nobody names -/
theorem SR.laid (S : SR K mg ps Hf H σ e) {p : Addr} {o : HO} (n : H p = none) : SR K mg ps Hf (upd H p o) σ e := by
  have ne : ∀ q u, H q = some u → q ≠ p := fun q u h => ne_of_none h n
  refine ⟨S.ex.trans (Ex.new n), S.len, fun i s h => ?_, S.ap, fun a u h => ?_⟩
  · obtain ⟨x, hx, r⟩ := S.sl i s h
    refine ⟨x, hx, ?_⟩
    cases s with
    | no => trivial
    | val d => exact r
    | own k od =>
      obtain ⟨q, u, a, b, c, f, g⟩ := r
      exact ⟨q, u, a, b, by rw [upd_ne (ne q u c)]; exact c, f, g⟩
  · obtain ⟨h1, h2, h3⟩ := S.fg a u h
    exact ⟨by rw [upd_ne (ne a u h1)]; exact h1, h2, h3⟩
/-- an object of H that nobody owns is frozen -/
theorem SR.freezes (S : SR K mg ps Hf H σ e) {p : Addr} {o : HO} (h : H p = some o) (nf : Hf p = none) (ng : ps.g p = none)
    (no : ∀ (i : Nat) (k : Option Nat) (l : OD), e[i]? = some (.own k l) → σ[i]? = some (some (.ref p)) → False) : SR K mg ps (upd Hf p o) H σ e := by
  refine ⟨fun a u q => ?_, S.len, fun i s q => ?_, S.ap, fun a u q => ?_⟩
  · by_cases hp : a = p
    · subst hp; rw [upd_same] at q; rw [h]; exact q
    · rw [upd_ne hp] at q; exact S.ex a u q
  · obtain ⟨x, hx, r⟩ := S.sl i s q
    refine ⟨x, hx, ?_⟩
    cases s with
    | no => trivial
    | val d => obtain ⟨v, a, b⟩ := r; exact ⟨v, a, b.mono (Ex.new nf)⟩
    | own k od =>
      obtain ⟨r0, u, a, b, c, f, g⟩ := r
      have hn : r0 ≠ p := fun z => by subst z; exact no i k od q (by rw [hx, a])
      exact ⟨r0, u, a, by rw [upd_ne hn]; exact b, c, f.mono (Ex.new nf), g⟩
  · obtain ⟨h1, h2, h3⟩ := S.fg a u q
    have hn : a ≠ p := fun z => by subst z; rw [ng] at q; cases q
    exact ⟨h1, by rw [upd_ne hn]; exact h2, h3⟩
theorem Ex.upd2 {Hf : Hp} {p : Addr} {o : HO} (n : Hf p = none) : Ex Hf (upd Hf p o) := Ex.new n
/-- a slot is given a value -/
theorem SR.put (S : SR K mg ps Hf H σ e) (i : Nat) {v : V} {d : D} (r : Rp K mg Hf v d) : SR K mg ps Hf H (σ.set i (some v)) (e.set i (.val d)) := by
  refine ⟨S.ex, by simp [S.len], fun j s h => ?_, fun a b k k' l l' p hab h1 h2 h3 h4 => ?_, fun a u h => ?_⟩
  · by_cases hj : i = j
    · subst hj
      have hl : i < e.length := by
        have := (List.getElem?_eq_some_iff.mp h).1; simpa using this
      rw [List.getElem?_set_self hl] at h
      cases h
      exact ⟨some v, List.getElem?_set_self (by rw [S.len]; exact hl), v, rfl, r⟩
    · rw [List.getElem?_set_ne hj] at h ⊢
      exact S.sl j s h
  · by_cases ha : i = a
    · subst ha
      have hl : i < e.length := by
        have := (List.getElem?_eq_some_iff.mp h1).1; simpa using this
      rw [List.getElem?_set_self hl] at h1; cases h1
    · by_cases hb : i = b
      · subst hb
        have hl : i < e.length := by
          have := (List.getElem?_eq_some_iff.mp h2).1; simpa using this
        rw [List.getElem?_set_self hl] at h2; cases h2
      · rw [List.getElem?_set_ne ha] at h1 h3
        rw [List.getElem?_set_ne hb] at h2 h4
        exact S.ap a b k k' l l' p hab h1 h2 h3 h4
  · obtain ⟨h1, h2, h3⟩ := S.fg a u h
    refine ⟨h1, h2, fun j k l q1 q2 => ?_⟩
    by_cases hj : i = j
    · subst hj
      have hl : i < e.length := by
        have := (List.getElem?_eq_some_iff.mp q1).1; simpa using this
      rw [List.getElem?_set_self hl] at q1; cases q1
    · rw [List.getElem?_set_ne hj] at q1 q2
      exact h3 j k l q1 q2
/-- a slot is forgotten -/
theorem SR.drop (S : SR K mg ps Hf H σ e) (i : Nat) (x : Option V) : SR K mg ps Hf H (σ.set i x) (e.set i .no) := by
  refine ⟨S.ex, by simp [S.len], fun j s h => ?_, fun a b k k' l l' p hab h1 h2 h3 h4 => ?_, fun a u h => ?_⟩
  · by_cases hj : i = j
    · subst hj
      have hl : i < e.length := by
        have := (List.getElem?_eq_some_iff.mp h).1; simpa using this
      rw [List.getElem?_set_self hl] at h
      cases h
      exact ⟨x, List.getElem?_set_self (by rw [S.len]; exact hl), trivial⟩
    · rw [List.getElem?_set_ne hj] at h ⊢
      exact S.sl j s h
  · by_cases ha : i = a
    · subst ha
      have hl : i < e.length := by
        have := (List.getElem?_eq_some_iff.mp h1).1; simpa using this
      rw [List.getElem?_set_self hl] at h1; cases h1
    · by_cases hb : i = b
      · subst hb
        have hl : i < e.length := by
          have := (List.getElem?_eq_some_iff.mp h2).1; simpa using this
        rw [List.getElem?_set_self hl] at h2; cases h2
      · rw [List.getElem?_set_ne ha] at h1 h3
        rw [List.getElem?_set_ne hb] at h2 h4
        exact S.ap a b k k' l l' p hab h1 h2 h3 h4
  · obtain ⟨h1, h2, h3⟩ := S.fg a u h
    refine ⟨h1, h2, fun j k l q1 q2 => ?_⟩
    by_cases hj : i = j
    · subst hj
      have hl : i < e.length := by
        have := (List.getElem?_eq_some_iff.mp q1).1; simpa using this
      rw [List.getElem?_set_self hl] at q1; cases q1
    · rw [List.getElem?_set_ne hj] at q1 q2
      exact h3 j k l q1 q2
/-- a slot is given a new object of its own, which H bears and nobody else names -/
theorem SR.take (S : SR K mg ps Hf H σ e) (i : Nat) {p : Addr} {o : HO} {od : OD} (hp : H p = some o) (nf : Hf p = none) (ng : ps.g p = none) (r : OdR K mg Hf od o)
    (no : ∀ (i : Nat) (k : Option Nat) (l : OD), e[i]? = some (.own k l) → σ[i]? = some (some (.ref p)) → False) : SR K mg ps Hf H (σ.set i (some (.ref p))) (e.set i (.own none od)) := by
  refine ⟨S.ex, by simp [S.len], fun j s h => ?_, fun a b k k' l l' q hab h1 h2 h3 h4 => ?_, fun a u h => ?_⟩
  · by_cases hj : i = j
    · subst hj
      have hl : i < e.length := by
        have := (List.getElem?_eq_some_iff.mp h).1; simpa using this
      rw [List.getElem?_set_self hl] at h
      cases h
      exact ⟨some (.ref p), List.getElem?_set_self (by rw [S.len]; exact hl), p, o, rfl, nf, hp, r, fun _ z => by cases z⟩
    · rw [List.getElem?_set_ne hj] at h ⊢
      exact S.sl j s h
  · have hlen : ∀ {a : Nat} {s : Sl}, (e.set i (.own none od))[a]? = some s → a < e.length := fun h => by
      have := (List.getElem?_eq_some_iff.mp h).1; simpa using this
    by_cases ha : i = a
    · subst ha
      have hb : i ≠ b := hab
      rw [List.getElem?_set_self (by rw [S.len]; exact hlen h1)] at h3
      rw [List.getElem?_set_ne hb] at h2 h4
      cases h3
      exact no b k' l' h2 h4
    · rw [List.getElem?_set_ne ha] at h1 h3
      by_cases hb : i = b
      · subst hb
        rw [List.getElem?_set_self (by rw [S.len]; exact hlen h2)] at h4
        cases h4
        exact no a k l h1 h3
      · rw [List.getElem?_set_ne hb] at h2 h4
        exact S.ap a b k k' l l' q hab h1 h2 h3 h4
  · obtain ⟨h1, h2, h3⟩ := S.fg a u h
    refine ⟨h1, h2, fun j k l q1 q2 => ?_⟩
    by_cases hj : i = j
    · subst hj
      have hl : i < e.length := by
        have := (List.getElem?_eq_some_iff.mp q1).1; simpa using this
      rw [List.getElem?_set_self (by rw [S.len]; exact hl)] at q2
      cases q2
      rw [ng] at h; cases h
    · rw [List.getElem?_set_ne hj] at q1 q2
      exact h3 j k l q1 q2
/-- what a slot owns is changed -/
theorem SR.turn (S : SR K mg ps Hf H σ e) {i : Nat} {p : Addr} {o' : HO} {k : Option Nat} {od od' : OD} (h : e[i]? = some (.own k od)) (hp : σ[i]? = some (some (.ref p))) (r : OdR K mg Hf od' o') :
    SR K mg ps Hf (upd H p o') σ (e.set i (.own k od')) := by
  obtain ⟨p', o, hp', nf, hh, _, hk⟩ := S.own h
  rw [hp] at hp'; cases hp'
  have hl : i < e.length := (List.getElem?_eq_some_iff.mp h).1
  have back : ∀ {a : Nat} {k2 l2}, (e.set i (.own k od'))[a]? = some (.own k2 l2) → ∃ k3 l3, e[a]? = some (.own k3 l3) := fun {a k2 l2} q => by
    by_cases ha : i = a
    · subst ha; exact ⟨_, _, h⟩
    · rw [List.getElem?_set_ne ha] at q; exact ⟨_, _, q⟩
  refine ⟨fun a u q => ?_, by simp [S.len], fun j s q => ?_, fun a b k1 k' l l' q hab h1 h2 h3 h4 => ?_, fun a u q => ?_⟩
  · rw [upd_ne (ne_of_none q nf)]; exact S.ex a u q
  · by_cases hj : i = j
    · subst hj
      rw [List.getElem?_set_self hl] at q
      cases q
      exact ⟨_, hp, p, o', rfl, nf, upd_same, r, hk⟩
    · rw [List.getElem?_set_ne hj] at q
      obtain ⟨x, hx, z⟩ := S.sl j s q
      refine ⟨x, hx, ?_⟩
      cases s with
      | no => trivial
      | val d => exact z
      | own k2 od2 =>
        obtain ⟨q2, u, a, b, c, f, g⟩ := z
        have hn : q2 ≠ p := fun z => by subst z; exact S.ap i j _ _ _ _ q2 hj h q hp (by rw [hx, a])
        exact ⟨q2, u, a, b, by rw [upd_ne hn]; exact c, f, g⟩
  · obtain ⟨_, _, g1⟩ := back h1
    obtain ⟨_, _, g2⟩ := back h2
    exact S.ap a b _ _ _ _ q hab g1 g2 h3 h4
  · obtain ⟨h1, h2, h3⟩ := S.fg a u q
    refine ⟨by rw [upd_ne (fun z => by subst z; exact h3 i _ _ h hp)]; exact h1, h2, fun j k2 l2 q1 q2 => ?_⟩
    obtain ⟨_, _, g1⟩ := back q1
    exact h3 j _ _ g1 q2
/-- an own slot is frozen -/
def frz1 (e : DEnv) (i : Nat) : DEnv := match e[i]? with
  | some (.own none (.lst l)) => e.set i (.val (.lst l))
  | _ => e
theorem SR.frz (S : SR K mg ps Hf H σ e) (i : Nat) : ∃ Hf', Ex Hf Hf' ∧ SR K mg ps Hf' H σ (frz1 e i) := by
  unfold frz1
  split
  · rename_i l h
    obtain ⟨p, o, hp, nf, hh, ⟨vs, rfl, r⟩, hk⟩ := S.own h
    have hl : i < e.length := (List.getElem?_eq_some_iff.mp h).1
    have S1 := S.drop i (some (.ref p))
    rw [show σ.set i (some (.ref p)) = σ from by
      apply List.ext_getElem?
      intro j
      by_cases hj : i = j
      · subst hj; rw [List.getElem?_set_self (by rw [S.len]; exact hl), hp]
      · rw [List.getElem?_set_ne hj]] at S1
    have ng : ps.g p = none := by
      cases q : ps.g p with
      | none => rfl
      | some u => exact ((S.fg p u q).2.2 i _ _ h hp).elim
    have S2 := S1.freezes hh nf ng (fun j k l2 q1 q2 => by
      by_cases hj : i = j
      · subst hj; rw [List.getElem?_set_self hl] at q1; cases q1
      · rw [List.getElem?_set_ne hj] at q1
        exact S.ap i j _ _ _ _ p hj h q1 hp q2)
    refine ⟨upd Hf p (.lst vs), Ex.new nf, ?_⟩
    have S3 := S2.put i (v := .ref p) (d := .lst l) (.lst (.inl (.inl upd_same)) (r.mono (Ex.new nf)))
    rw [List.set_set] at S3
    rw [show σ.set i (some (.ref p)) = σ from by
      apply List.ext_getElem?
      intro j
      by_cases hj : i = j
      · subst hj; rw [List.getElem?_set_self (by rw [S.len]; exact hl), hp]
      · rw [List.getElem?_set_ne hj]] at S3
    exact S3
  · exact ⟨Hf, Ex.refl Hf, S⟩
end DL

/-! DLb: what an expression, a test, a statement is worth over data; the core's rules. -/
namespace DL
open PySem PySem.Spec PyProof.Rows L2 Evl

inductive Res (α : Type) where
  | ok (a : α) (e : DEnv) | exc (x : Str) (p : Option D) (e : DEnv) | stuck
abbrev M (α : Type) := DEnv → Res α
def ret {α : Type} (a : α) : M α := fun e => .ok a e
def stk {α : Type} : M α := fun _ => .stuck
def bnd {α β : Type} (m : M α) (f : α → M β) : M β := fun e => match m e with
  | .ok a e' => f a e' | .exc x p e' => .exc x p e' | .stuck => .stuck
@[simp] theorem ret_ap {α : Type} (a : α) (e : DEnv) : ret a e = .ok a e := rfl
@[simp] theorem stk_ap {α : Type} (e : DEnv) : (stk e : Res α) = .stuck := rfl
theorem bnd_ok {α β : Type} {m : M α} {f : α → M β} {e e' : DEnv} {a : α} (h : m e = .ok a e') : bnd m f e = f a e' := by unfold bnd; rw [h]
theorem bnd_exc {α β : Type} {m : M α} {f : α → M β} {e e' : DEnv} {x : Str} {p : Option D} (h : m e = .exc x p e') : bnd m f e = .exc x p e' := by unfold bnd; rw [h]

def IsExc (K : PySem.W.Frag) (mg : MG) (Hf : Hp) (x : Str) (p : Option D) (cls : Value) (dd : Option Addr) : Prop :=
  mg x = some cls ∧ match p with
    | none => dd = none
    | some d => ∃ a v, dd = some a ∧ Hf a = some (.xd [("apart", v)]) ∧ Rp K mg Hf v d

section
variable (K : PySem.W.Frag) (mg : MG) (ps : Fg) (W : WX)
/-- what is wanted behind an expression: P of what it is worth -/
def EG {α : Type} (Hf : Hp) (σ : L2.St) (P : α → Hp → Hp → Prop) : Res α → Prop
  | .ok a e' => ∀ Hf' H', Ex Hf Hf' → SR K mg ps Hf' H' σ e' → P a Hf' H'
  | .exc x p e' => ∀ cls dd Hf' H', Ex Hf Hf' → SR K mg ps Hf' H' σ e' → IsExc K mg Hf' x p cls dd → W cls dd σ H'
  | .stuck => False
def Pd (Q : VK) : D → Hp → Hp → Prop := fun d Hf H => ∀ v, Rp K mg Hf v d → Q v H
def Pds (Q : List V → Hp → Prop) : List D → Hp → Hp → Prop := fun d Hf H => ∀ v, Rps K mg Hf v d → Q v H
def Pb (Q : Bool → Hp → Prop) : Bool → Hp → Hp → Prop := fun b _ H => Q b H
end
section
variable {K : PySem.W.Frag} {mg : MG} {ps : Fg} {W : WX} {Hf Hf' H H' : Hp} {σ : L2.St} {α β : Type} {e : DEnv}
theorem EG.mono {P : α → Hp → Hp → Prop} (x : Ex Hf Hf') : ∀ {r : Res α}, EG K mg ps W Hf σ P r → EG K mg ps W Hf' σ P r
  | .ok _ _, h => fun Hf2 H2 y s => h Hf2 H2 (x.trans y) s
  | .exc _ _ _, h => fun c d Hf2 H2 y s z => h c d Hf2 H2 (x.trans y) s z
  | .stuck, h => h
theorem EG.imp {P P' : α → Hp → Hp → Prop} : ∀ {r : Res α}, EG K mg ps W Hf σ P r → (∀ a Hf' H' , Ex Hf Hf' → P a Hf' H' → P' a Hf' H') → EG K mg ps W Hf σ P' r
  | .ok a _, h, i => fun Hf2 H2 y s => i a Hf2 H2 y (h Hf2 H2 y s)
  | .exc _ _ _, h, _ => h
  | .stuck, h, _ => h
/-- first m, then f -/
theorem EG.bnd {P : β → Hp → Hp → Prop} {P1 : α → Hp → Hp → Prop} {m : M α} {f : α → M β} (h : EG K mg ps W Hf σ P (bnd m f e))
    (hk : ∀ a e' Hf' H', Ex Hf Hf' → SR K mg ps Hf' H' σ e' → EG K mg ps W Hf' σ P (f a e') → P1 a Hf' H') : EG K mg ps W Hf σ P1 (m e) := by
  unfold DL.bnd at h
  cases q : m e with
  | ok a e' =>
    rw [q] at h
    exact fun Hf2 H2 y s => hk a e' Hf2 H2 y s (EG.mono y h)
  | exc x p e' => rw [q] at h; exact h
  | stuck => rw [q] at h; exact h
theorem EG.ret {P : α → Hp → Hp → Prop} {a : α} (h : EG K mg ps W Hf σ P (ret a e)) (S : SR K mg ps Hf H σ e) : P a Hf H := h Hf H (Ex.refl Hf) S
end

/-! ### the judgements -/
section
variable (X : Cx) (W : WX)
structure JE (e : Expr) (f : M D) : Prop where
  ex : ∃ t, PE X e t ∧ ∀ (ps : Fg) (σ : L2.St) (Hf H : Hp) (env : DEnv), SR X.K X.mg ps Hf H σ env → ∀ Q : VK, EG X.K X.mg ps W Hf σ (Pd X.K X.mg Q) (f env) → t σ H Q
structure JT (e : Expr) (f : M Bool) : Prop where
  ex : ∃ t, PT X e t ∧ ∀ (ps : Fg) (σ : L2.St) (Hf H : Hp) (env : DEnv), SR X.K X.mg ps Hf H σ env → ∀ Q : Bool → Hp → Prop, EG X.K X.mg ps W Hf σ (Pb Q) (f env) → t σ H Q
structure JW (e : Expr) (f : M Bool) : Prop where
  ex : ∃ t, PW X e t ∧ ∀ (ps : Fg) (σ : L2.St) (Hf H : Hp) (env : DEnv), SR X.K X.mg ps Hf H σ env → ∀ Q : Bool → Hp → Prop, EG X.K X.mg ps W Hf σ (Pb Q) (f env) → t σ H Q
structure JA (es : List Expr) (f : M (List D)) : Prop where
  ex : ∃ t, PA X es t ∧ ∀ (ps : Fg) (σ : L2.St) (Hf H : Hp) (env : DEnv), SR X.K X.mg ps Hf H σ env → ∀ Q : List V → Hp → Prop, EG X.K X.mg ps W Hf σ (Pds X.K X.mg Q) (f env) → t σ H Q
end
/-- what the context bears -/
structure CtxOk (X : Cx) (W : WX) : Prop where
  calm : X.calm = true
  hu : X.A.units + 64 < cLine
  po : PassesOwn (model X.prog X.w) X.A X.env X.xe
  tk : L2N.Takes X W


/-! ### names -/
/-- which names the code's block has -/
structure Nm (X : Cx) (N : List Str) (sc raw : Scope) : Prop where
  hN : X.N = N
  hs : X.env.scope = sc
  nd : N.Nodup
  kind : sc.kind = .function
  fn : ∀ x, raw.names.lookup x = some .cell → X.fn x = true
def okV (N : List Str) (sc : Scope) (i : Nat) (x : Str) : Bool := decide (N[i]? = some x) && (decide (sc.names.lookup x = some .local) || decide (sc.names.lookup x = some .cell) || decide (sc.names.lookup x = some .free)) && !(x == ("__debug__" : Str)) && !(x == ("__classdict__" : Str))
def okS (N : List Str) (sc raw : Scope) (i : Nat) (x : Str) : Bool := decide (N[i]? = some x) && (decide (sc.names.lookup x = some .local) || (decide (sc.names.lookup x = some .cell) && decide (raw.names.lookup x = some .cell)))
def okG (sc : Scope) (x : Str) : Bool := decide (sc.names.lookup x = some .globalImplicit) && !(x == ("__debug__" : Str)) && !decide (x = ("__name__" : Str))
section
variable {X : Cx} {N : List Str} {sc raw : Scope} {i : Nat} {x : Str}
theorem Nm.v (V : Nm X N sc raw) (h : okV N sc i x = true) : X.N[i]? = some x ∧ Vis X.env.scope x ∧ (x == ("__debug__" : Str)) = false ∧ (x == ("__classdict__" : Str)) = false := by
  unfold okV at h
  simp only [Bool.and_eq_true, Bool.or_eq_true, decide_eq_true_eq, Bool.not_eq_true'] at h
  obtain ⟨⟨⟨h1, h2⟩, h3⟩, h4⟩ := h
  refine ⟨by rw [V.hN]; exact h1, ?_, h3, h4⟩
  unfold Vis
  rw [V.hs]
  rcases h2 with (h2 | h2) | h2
  · exact .inl h2
  · exact .inr (.inl h2)
  · exact .inr (.inr h2)
theorem Nm.s (V : Nm X N sc raw) (h : okS N sc raw i x = true) : X.N[i]? = some x ∧ L2.Loc X.env.scope x ∧ (X.fn x = true ∨ X.env.scope.names.lookup x = some .local) := by
  unfold okS at h
  simp only [Bool.and_eq_true, Bool.or_eq_true, decide_eq_true_eq] at h
  obtain ⟨h1, h2⟩ := h
  refine ⟨by rw [V.hN]; exact h1, ?_⟩
  unfold L2.Loc
  rw [V.hs]
  rcases h2 with h2 | ⟨h2, h3⟩
  · exact ⟨.inl h2, .inr h2⟩
  · exact ⟨.inr h2, .inl (V.fn x h3)⟩
theorem Nm.g (V : Nm X N sc raw) (h : okG sc x = true) : Gl X x ∧ (x == ("__debug__" : Str)) = false ∧ x ≠ "__name__" := by
  unfold okG at h
  simp only [Bool.and_eq_true, decide_eq_true_eq, Bool.not_eq_true', decide_eq_false_iff_not] at h
  obtain ⟨⟨h1, h2⟩, h3⟩ := h
  refine ⟨?_, h2, h3⟩
  unfold Gl Env.kindOf
  rw [V.hs]; exact h1
theorem Nm.nodup (V : Nm X N sc raw) : X.N.Nodup := by rw [V.hN]; exact V.nd
end
section
variable {X : Cx} {W : WX} {a b c e : Expr} {es : List Expr} {fa fb fc : M D} {pos : Pos} {N : List Str} {sc raw : Scope}
/-! ### constants -/
def mVar (i : Nat) : M D := fun env => match env[i]? with
  | some (.val d) => .ok d env
  | some (.own none (.lst l)) => .ok (.lst l) (frz1 env i)
  | _ => .stuck
theorem je_var (V : Nm X N sc raw) {i : Nat} {x : Str} (hv : okV N sc i x = true) : JE X W (.Name x pos) (mVar i) := by
  obtain ⟨hN, hv, hd, hcd⟩ := V.v hv
  refine ⟨⟨_, pe_var hN hv hd hcd, fun ps σ Hf H env S Q h => ?_⟩⟩
  unfold mVar at h
  split at h
  · rename_i d q
    obtain ⟨v, h1, h2⟩ := S.val q
    exact ⟨v, h1, h Hf H (Ex.refl Hf) S v h2⟩
  · rename_i l q
    obtain ⟨Hf', ex, S'⟩ := S.frz i
    have hl : i < env.length := (List.getElem?_eq_some_iff.mp q).1
    have q' : (frz1 env i)[i]? = some (.val (.lst l)) := by
      unfold frz1; rw [q]; exact List.getElem?_set_self hl
    obtain ⟨v, h1, h2⟩ := S'.val q'
    exact ⟨v, h1, h Hf' H ex S' v h2⟩
  · exact h.elim
theorem je_c {d : D} {v : V} {t : TE} (h : PE X e (tC v)) (r : ∀ K mg H, Rp K mg H v d) : JE X W e (ret d) :=
  ⟨⟨_, h, fun ps σ Hf H env S Q q => q.ret S v (r _ _ _)⟩⟩
theorem je_int {i : Int} {j : Nat} : JE X W (.Constant (.int i) j pos) (ret (.int i)) := ⟨⟨_, pe_int, fun ps σ Hf H env S Q q => q.ret S _ (.int i)⟩⟩
theorem je_bl {i : Bool} {j : Nat} : JE X W (.Constant (.bool i) j pos) (ret (.bl i)) := ⟨⟨_, pe_bl, fun ps σ Hf H env S Q q => q.ret S _ (.bl i)⟩⟩
theorem je_str {i : Str} {j : Nat} : JE X W (.Constant (.str i) j pos) (ret (.str i)) := ⟨⟨_, pe_str, fun ps σ Hf H env S Q q => q.ret S _ (.str i)⟩⟩
theorem je_non {j : Nat} : JE X W (.Constant .none j pos) (ret .non) := ⟨⟨_, pe_non, fun ps σ Hf H env S Q q => q.ret S _ .non⟩⟩

/-! ### operators -/
/-- a two-place operation's rule is worth g -/
def RJ (X : Cx) (W : WX) (r : R2) (g : D → D → M D) : Prop := ∀ (ps : Fg) (σ : L2.St) (Hf H : Hp) (env : DEnv) (x y : V) (dx dy : D) (Q : VK), SR X.K X.mg ps Hf H σ env → Rp X.K X.mg Hf x dx → Rp X.K X.mg Hf y dy →
  EG X.K X.mg ps W Hf σ (Pd X.K X.mg Q) (g dx dy env) → r x y H Q
def RU1 (X : Cx) (W : WX) (r : V → Hp → VK → Prop) (g : D → M D) : Prop := ∀ (ps : Fg) (σ : L2.St) (Hf H : Hp) (env : DEnv) (x : V) (dx : D) (Q : VK), SR X.K X.mg ps Hf H σ env → Rp X.K X.mg Hf x dx →
  EG X.K X.mg ps W Hf σ (Pd X.K X.mg Q) (g dx env) → r x H Q
def m2 (fa fb : M D) (g : D → D → M D) : M D := bnd fa fun x => bnd fb fun y => g x y
theorem tOp_ok {ta tb : TE} {r : R2} {g : D → D → M D} (ha : ∀ (ps : Fg) (σ : L2.St) (Hf H : Hp) (env : DEnv), SR X.K X.mg ps Hf H σ env → ∀ Q : VK, EG X.K X.mg ps W Hf σ (Pd X.K X.mg Q) (fa env) → ta σ H Q)
    (hb : ∀ (ps : Fg) (σ : L2.St) (Hf H : Hp) (env : DEnv), SR X.K X.mg ps Hf H σ env → ∀ Q : VK, EG X.K X.mg ps W Hf σ (Pd X.K X.mg Q) (fb env) → tb σ H Q) (hr : RJ X W r g)
    {ps : Fg} {σ : L2.St} {Hf H : Hp} {env : DEnv} (S : SR X.K X.mg ps Hf H σ env) {Q : VK} (h : EG X.K X.mg ps W Hf σ (Pd X.K X.mg Q) (m2 fa fb g env)) : tOp r ta tb σ H Q := by
  refine ha ps σ Hf H env S _ (EG.bnd h fun x e1 Hf1 H1 x1 S1 h1 v rv => ?_)
  refine hb ps σ Hf1 H1 e1 S1 _ (EG.bnd h1 fun y e2 Hf2 H2 x2 S2 h2 u ru => ?_)
  exact hr ps σ Hf2 H2 e2 v u x y Q S2 (rv.mono x2) ru h2
theorem je_op {op : Operator} {r : R2} {g : D → D → M D} (ho : OpR X (binaryOp op) r) (hr : RJ X W r g) (ja : JE X W a fa) (jb : JE X W b fb) : JE X W (.BinOp a op b pos) (m2 fa fb g) := by
  obtain ⟨ta, pa, ha⟩ := ja.ex
  obtain ⟨tb, pb, hb⟩ := jb.ex
  exact ⟨⟨_, pe_op ho pa pb, fun ps σ Hf H env S Q h => tOp_ok ha hb hr S h⟩⟩
theorem je_cmp {op : CmpOp} {r : R2} {g : D → D → M D} (ho : OpR X (compareOp op) r) (hr : RJ X W r g) (ja : JE X W a fa) (jb : JE X W b fb) (hm : behindInMarks op b = false := by first | exact nomark _ | rfl) : JE X W (.Compare a [op] [b] pos) (m2 fa fb g) := by
  obtain ⟨ta, pa, ha⟩ := ja.ex
  obtain ⟨tb, pb, hb⟩ := jb.ex
  exact ⟨⟨_, pe_cmpR ho pa pb hm, fun ps σ Hf H env S Q h => tOp_ok ha hb hr S h⟩⟩
theorem je_un {op : UnaryOp} {r : V → Hp → VK → Prop} {g : D → M D} (ho : UnR X (unaryOp op) r) (hr : RU1 X W r g) (ja : JE X W a fa) : JE X W (.UnaryOp op a pos) (bnd fa g) := by
  obtain ⟨ta, pa, ha⟩ := ja.ex
  refine ⟨⟨_, pe_un ho pa, fun ps σ Hf H env S Q h => ?_⟩⟩
  exact ha ps σ Hf H env S _ (EG.bnd h fun x e1 Hf1 H1 x1 S1 h1 v rv => hr ps σ Hf1 H1 e1 v x Q S1 rv h1)

/-- on two whole numbers -/
def g2i (g : Int → Int → M D) : D → D → M D := fun x y => match x, y with
  | .int i, .int j => g i j
  | _, _ => stk
theorem rj_i {r : R2} {g : Int → Int → M D} (h : ∀ (ps : Fg) (σ : L2.St) (Hf H : Hp) (env : DEnv) (i j : Int) (Q : VK), SR X.K X.mg ps Hf H σ env → EG X.K X.mg ps W Hf σ (Pd X.K X.mg Q) (g i j env) → r (.int i) (.int j) H Q) : RJ X W r (g2i g) := by
  intro ps σ Hf H env x y dx dy Q S rx ry q
  unfold g2i at q
  split at q
  · rw [rx.int_inv, ry.int_inv]; exact h ps σ Hf H env _ _ Q S q
  · exact q.elim
instance (i j : Int) : Decidable (IntMulOk i j) := by unfold IntMulOk; infer_instance
def iAdd : Int → Int → M D := fun i j => ret (.int (i + j))
def iSub : Int → Int → M D := fun i j => ret (.int (i - j))
def iMul : Int → Int → M D := fun i j => if IntMulOk i j then ret (.int (i * j)) else stk
def DivOk (j : Int) : Prop := j ≠ 0 ∧ j.natAbs.log2 < 9000
instance (j : Int) : Decidable (DivOk j) := by unfold DivOk; infer_instance
def iDiv : Int → Int → M D := fun i j => if DivOk j then ret (.int (i.fdiv j)) else stk
def iMod : Int → Int → M D := fun i j => if j ≠ 0 then ret (.int (i.fmod j)) else stk
def PowOk (i j : Int) : Prop := 0 ≤ j ∧ j ≤ 1000000 ∧ i.natAbs < 2 ^ 64
instance (i j : Int) : Decidable (PowOk i j) := by unfold PowOk; infer_instance
def iPow : Int → Int → M D := fun i j => if PowOk i j then ret (.int (i ^ j.toNat)) else stk
def iCmp (p : Int → Int → Bool) : Int → Int → M D := fun i j => ret (.bl (p i j))
theorem op_mulX : OpR X (binaryOp .Mult) (rI IntMulOk fun i j => .int (i * j)) := opI fun _ _ _ _ _ _ _ hc q => mul_int q hc
theorem op_fdivX : OpR X (binaryOp .FloorDiv) (rI (fun _ j => DivOk j) fun i j => .int (i.fdiv j)) := opI fun i j _ _ _ _ _ hc q =>
  floordiv_int hc.1 q (.inl (PyProof.noPylong_of_log2 hc.2))
theorem rj_rI0 {g : Int → Int → V} {gd : Int → Int → D} (h : ∀ K mg H i j, Rp K mg H (g i j) (gd i j)) : RJ X W (rI0 g) (g2i fun i j => ret (gd i j)) :=
  rj_i fun ps σ Hf H env i j Q S q => ⟨i, j, rfl, rfl, q.ret S _ (h _ _ _ _ _)⟩
theorem rj_rI {C : Int → Int → Prop} [∀ i j, Decidable (C i j)] {g : Int → Int → V} {gd : Int → Int → D} (h : ∀ K mg H i j, Rp K mg H (g i j) (gd i j)) : RJ X W (rI C g) (g2i fun i j => if C i j then ret (gd i j) else stk) :=
  rj_i fun ps σ Hf H env i j Q S q => by
    split at q
    · rename_i hc; exact ⟨i, j, rfl, rfl, hc, q.ret S _ (h _ _ _ _ _)⟩
    · exact q.elim
theorem je_sub (ja : JE X W a fa) (jb : JE X W b fb) : JE X W (.BinOp a .Sub b pos) (m2 fa fb (g2i iSub)) := je_op op_sub (rj_rI0 fun _ _ _ _ _ => .int _) ja jb
theorem je_fdiv (ja : JE X W a fa) (jb : JE X W b fb) : JE X W (.BinOp a .FloorDiv b pos) (m2 fa fb (g2i iDiv)) := je_op op_fdivX (rj_rI (C := fun _ j => DivOk j) fun _ _ _ _ _ => .int _) ja jb
theorem je_mod (ja : JE X W a fa) (jb : JE X W b fb) : JE X W (.BinOp a .Mod b pos) (m2 fa fb (g2i iMod)) := je_op op_modN (rj_rI (C := fun _ j => j ≠ 0) fun _ _ _ _ _ => .int _) ja jb
theorem je_pow (ja : JE X W a fa) (jb : JE X W b fb) : JE X W (.BinOp a .Pow b pos) (m2 fa fb (g2i iPow)) := je_op op_pow (rj_rI (C := PowOk) fun _ _ _ _ _ => .int _) ja jb
def iShr : Int → Int → M D := fun i j => if 0 ≤ j then ret (.int (i / 2 ^ j.toNat)) else stk
def iShl : Int → Int → M D := fun i j => if PowOk i j then ret (.int (i * 2 ^ j.toNat)) else stk
theorem je_shr (ja : JE X W a fa) (jb : JE X W b fb) : JE X W (.BinOp a .RShift b pos) (m2 fa fb (g2i iShr)) := je_op op_shr (rj_rI (C := fun _ j => 0 ≤ j) fun _ _ _ _ _ => .int _) ja jb
theorem je_shl (ja : JE X W a fa) (jb : JE X W b fb) : JE X W (.BinOp a .LShift b pos) (m2 fa fb (g2i iShl)) := je_op op_shl (rj_rI (C := PowOk) fun _ _ _ _ _ => .int _) ja jb
theorem je_band (ja : JE X W a fa) (jb : JE X W b fb) : JE X W (.BinOp a .BitAnd b pos) (m2 fa fb (g2i fun i j => ret (.int (Builtin.bitAnd i j)))) := je_op op_and (rj_rI0 fun _ _ _ _ _ => .int _) ja jb
theorem je_bor (ja : JE X W a fa) (jb : JE X W b fb) : JE X W (.BinOp a .BitOr b pos) (m2 fa fb (g2i fun i j => ret (.int (Builtin.bitOr i j)))) := je_op op_or (rj_rI0 fun _ _ _ _ _ => .int _) ja jb
theorem je_bxor (ja : JE X W a fa) (jb : JE X W b fb) : JE X W (.BinOp a .BitXor b pos) (m2 fa fb (g2i fun i j => ret (.int (Builtin.bitXor i j)))) := je_op op_xor (rj_rI0 fun _ _ _ _ _ => .int _) ja jb
theorem je_lt (ja : JE X W a fa) (jb : JE X W b fb) : JE X W (.Compare a [.Lt] [b] pos) (m2 fa fb (g2i (iCmp fun i j => decide (i < j)))) := je_cmp op_lt (rj_rI0 fun _ _ _ _ _ => .bl _) ja jb
theorem je_le (ja : JE X W a fa) (jb : JE X W b fb) : JE X W (.Compare a [.LtE] [b] pos) (m2 fa fb (g2i (iCmp fun i j => decide (i ≤ j)))) := je_cmp op_le (rj_rI0 fun _ _ _ _ _ => .bl _) ja jb
theorem je_gt (ja : JE X W a fa) (jb : JE X W b fb) : JE X W (.Compare a [.Gt] [b] pos) (m2 fa fb (g2i (iCmp fun i j => decide (j < i)))) := je_cmp op_gt (rj_rI0 fun _ _ _ _ _ => .bl _) ja jb
theorem je_ge (ja : JE X W a fa) (jb : JE X W b fb) : JE X W (.Compare a [.GtE] [b] pos) (m2 fa fb (g2i (iCmp fun i j => decide (j ≤ i)))) := je_cmp op_ge (rj_rI0 fun _ _ _ _ _ => .bl _) ja jb
/-- == of data -/
def eqOk (x y : D) : Bool := x.py && y.py && shp x && shp y
def mEq (x y : D) : M D := if eqOk x y then ret (.bl (deq x y)) else stk
def mNe (x y : D) : M D := if eqOk x y then ret (.bl (!deq x y)) else stk
theorem eqOk_of {x y : D} (h : eqOk x y = true) : x.py = true ∧ y.py = true ∧ shp x = true ∧ shp y = true := by
  unfold eqOk at h
  simp only [Bool.and_eq_true] at h
  exact ⟨h.1.1.1, h.1.1.2, h.1.2, h.2⟩
theorem rj_eq : RJ X W (rEqD X.K) mEq := by
  intro ps σ Hf H env x y dx dy Q S rx ry q
  unfold mEq at q
  split at q
  · rename_i hc
    obtain ⟨p1, p2, s1, s2⟩ := eqOk_of hc
    exact ⟨_, _, (rx.mono S.ex).dp p1, (ry.mono S.ex).dp p2, s1, s2, q.ret S _ (.bl _)⟩
  · exact q.elim
theorem rj_ne : RJ X W (rNeD X.K) mNe := by
  intro ps σ Hf H env x y dx dy Q S rx ry q
  unfold mNe at q
  split at q
  · rename_i hc
    obtain ⟨p1, p2, s1, s2⟩ := eqOk_of hc
    exact ⟨_, _, (rx.mono S.ex).dp p1, (ry.mono S.ex).dp p2, s1, s2, q.ret S _ (.bl _)⟩
  · exact q.elim
theorem je_eq (C : CtxOk X W) (ja : JE X W a fa) (jb : JE X W b fb) : JE X W (.Compare a [.Eq] [b] pos) (m2 fa fb mEq) := je_cmp (op_eqD C.hu) rj_eq ja jb
theorem je_ne (C : CtxOk X W) (ja : JE X W a fa) (jb : JE X W b fb) : JE X W (.Compare a [.NotEq] [b] pos) (m2 fa fb mNe) := je_cmp (op_neD C.hu) rj_ne ja jb
def isNon : D → Bool | .non => true | _ => false
theorem je_isN {j : Nat} {p2 : Pos} (ja : JE X W a fa) : JE X W (.Compare a [.Is] [.Constant .none j p2] pos) (bnd fa fun x => ret (.bl (isNon x))) := by
  obtain ⟨ta, pa, ha⟩ := ja.ex
  refine ⟨⟨_, pe_cmpR op_isN pa pe_non (nomark _), fun ps σ Hf H env S Q h => ?_⟩⟩
  refine ha ps σ Hf H env S _ (EG.bnd h fun x e1 Hf1 H1 x1 S1 h1 v rv => ⟨rfl, ?_⟩)
  rw [rv.non_iff]
  exact h1.ret S1 _ (by cases x <;> exact .bl _)
theorem je_isNN {j : Nat} {p2 : Pos} (ja : JE X W a fa) : JE X W (.Compare a [.IsNot] [.Constant .none j p2] pos) (bnd fa fun x => ret (.bl (!isNon x))) := by
  obtain ⟨ta, pa, ha⟩ := ja.ex
  refine ⟨⟨_, pe_cmpR op_notN pa pe_non (nomark _), fun ps σ Hf H env S Q h => ?_⟩⟩
  refine ha ps σ Hf H env S _ (EG.bnd h fun x e1 Hf1 H1 x1 S1 h1 v rv => ⟨rfl, ?_⟩)
  rw [rv.non_iff]
  exact h1.ret S1 _ (by cases x <;> exact .bl _)
def u1i (g : Int → M D) : D → M D := fun x => match x with | .int i => g i | _ => stk
theorem je_neg (ja : JE X W a fa) : JE X W (.UnaryOp .USub a pos) (bnd fa (u1i fun i => ret (.int (-i)))) := by
  refine je_un un_neg (fun ps σ Hf H env x dx Q S rx q => ?_) ja
  unfold u1i at q
  split at q
  · rw [rx.int_inv]; exact ⟨_, rfl, q.ret S _ (.int _)⟩
  · exact q.elim

/-! ### tests -/
def mB : D → M Bool := fun x => match x with | .bl b => ret b | _ => stk
theorem jt_val (ja : JE X W a fa) (he : ∀ whole, isTrue a X.env whole = (do let v ← whole; standAt a.pos; holding [v] (truthy v)) := by intro _; rfl) : JT X W a (bnd fa mB) := by
  obtain ⟨ta, pa, ha⟩ := ja.ex
  refine ⟨⟨_, pt_val pa he, fun ps σ Hf H env S Q h => ?_⟩⟩
  refine ha ps σ Hf H env S _ (EG.bnd h fun x e1 Hf1 H1 x1 S1 h1 v rv => ?_)
  unfold mB at h1
  split at h1
  · exact ⟨_, rv.bl_inv, h1.ret S1⟩
  · exact h1.elim
/-- truth of any kind -/
def mTru : D → M Bool := fun x => match x with
  | .bl b => ret b
  | .int i => ret (i != 0)
  | .non => ret false
  | .str s => if s.length ≤ sizeLine then ret ((s.length : Int) != 0) else stk
  | .lst l => ret (!l.isEmpty)
  | .tup l => ret (!l.isEmpty)
  | _ => stk
theorem isEmpty_rps {K : PySem.W.Frag} {mg : MG} {H : Hp} {vs : List V} {ds : List D} (r : Rps K mg H vs ds) : (!vs.isEmpty) = !ds.isEmpty := by
  cases r <;> rfl
theorem jt_tru (ja : JE X W a fa) (he : ∀ whole, isTrue a X.env whole = (do let v ← whole; standAt a.pos; holding [v] (truthy v)) := by intro _; rfl) : JT X W a (bnd fa mTru) := by
  obtain ⟨ta, pa, ha⟩ := ja.ex
  refine ⟨⟨_, pt_truth pa he, fun ps σ Hf H env S Q h => ?_⟩⟩
  refine ha ps σ Hf H env S _ (EG.bnd h fun x e1 Hf1 H1 x1 S1 h1 v rv => ?_)
  cases x with
  | bl b => rw [rv.bl_inv]; exact ⟨b, rfl, h1.ret S1⟩
  | int i => rw [rv.int_inv]; exact ⟨_, rfl, h1.ret S1⟩
  | non => rw [rv.non_inv]; exact ⟨_, rfl, h1.ret S1⟩
  | str s =>
    rw [rv.str_inv]
    unfold mTru at h1
    dsimp only at h1
    split at h1
    · rename_i hs; exact ⟨_, ⟨hs, rfl⟩, h1.ret S1⟩
    · exact h1.elim
  | lst l =>
    cases rv with
    | lst hq r => exact ⟨_, .inl ⟨_, ex_l S1.ex hq, isEmpty_rps r ▸ rfl⟩, (isEmpty_rps r) ▸ h1.ret S1⟩
  | tup l =>
    cases rv with
    | tup hq r => exact ⟨_, .inr (.inl ⟨_, ex_t S1.ex hq, isEmpty_rps r ▸ rfl⟩), (isEmpty_rps r) ▸ h1.ret S1⟩
  | obj c ns vs => exact h1.elim
  | opq a => exact h1.elim
def bAnd (f g : M Bool) : M Bool := bnd f fun c => if c = true then g else ret false
def bOr (f g : M Bool) : M Bool := bnd f fun c => if c = true then ret true else g
variable {ga gb : M Bool} {rest : List Expr}
theorem JW.jt (j : JW X W a ga) : JT X W a ga := by
  obtain ⟨t, p, h⟩ := j.ex
  exact ⟨⟨t, p.pt, h⟩⟩
theorem jw_and1 (ja : JT X W a ga) : JW X W (.BoolOp .And [a] pos) ga := by
  obtain ⟨t, p, h⟩ := ja.ex
  exact ⟨⟨t, pw_and1 p, h⟩⟩
theorem jw_or1 (ja : JT X W a ga) : JW X W (.BoolOp .Or [a] pos) ga := by
  obtain ⟨t, p, h⟩ := ja.ex
  exact ⟨⟨t, pw_or1 p, h⟩⟩
theorem jw_and (ja : JT X W a ga) (jb : JW X W (.BoolOp .And (b :: rest) pos) gb) : JW X W (.BoolOp .And (a :: b :: rest) pos) (bAnd ga gb) := by
  obtain ⟨t, p, h⟩ := ja.ex
  obtain ⟨u, q, k⟩ := jb.ex
  refine ⟨⟨_, pw_and p q, fun ps σ Hf H env S Q z => ?_⟩⟩
  refine h ps σ Hf H env S _ (EG.bnd z fun x e1 Hf1 H1 x1 S1 h1 => ?_)
  cases x with
  | true => show (if true = true then u σ H1 Q else Q false H1); rw [if_pos rfl]; exact k ps σ Hf1 H1 e1 S1 _ h1
  | false => show (if false = true then u σ H1 Q else Q false H1); rw [if_neg Bool.false_ne_true]; exact EG.ret (W := W) (P := Pb Q) h1 S1
theorem jw_or (ja : JT X W a ga) (jb : JW X W (.BoolOp .Or (b :: rest) pos) gb) : JW X W (.BoolOp .Or (a :: b :: rest) pos) (bOr ga gb) := by
  obtain ⟨t, p, h⟩ := ja.ex
  obtain ⟨u, q, k⟩ := jb.ex
  refine ⟨⟨_, pw_or p q, fun ps σ Hf H env S Q z => ?_⟩⟩
  refine h ps σ Hf H env S _ (EG.bnd z fun x e1 Hf1 H1 x1 S1 h1 => ?_)
  cases x with
  | true => show (if true = true then Q true H1 else u σ H1 Q); rw [if_pos rfl]; exact EG.ret (W := W) (P := Pb Q) h1 S1
  | false => show (if false = true then Q true H1 else u σ H1 Q); rw [if_neg Bool.false_ne_true]; exact k ps σ Hf1 H1 e1 S1 _ h1
def bNot (f : M Bool) : M Bool := bnd f fun c => ret (!c)
theorem jt_not (ja : JT X W a ga) : JT X W (.UnaryOp .Not a pos) (bNot ga) := by
  obtain ⟨t, p, h⟩ := ja.ex
  refine ⟨⟨_, pt_not p, fun ps σ Hf H env S Q z => ?_⟩⟩
  exact h ps σ Hf H env S _ (EG.bnd z fun x e1 Hf1 H1 x1 S1 h1 => EG.ret (W := W) (P := Pb Q) (a := !x) h1 S1)
/-- and, or, not as values: all but the last True or False -/
def vAnd (f g : M D) : M D := bnd f fun x => match x with | .bl c => if c = true then g else ret (.bl false) | _ => stk
def vOr (f g : M D) : M D := bnd f fun x => match x with | .bl c => if c = true then ret (.bl true) else g | _ => stk
def vNot (f : M D) : M D := bnd f fun x => match x with | .bl c => ret (.bl (!c)) | _ => stk
theorem je_one {op : BoolOp} (ja : JE X W a fa) : JE X W (.BoolOp op [a] pos) fa := by
  obtain ⟨t, p, h⟩ := ja.ex
  exact ⟨⟨t, pe_one p, h⟩⟩
theorem je_and (ja : JE X W a fa) (jb : JE X W (.BoolOp .And (b :: rest) pos) fb) : JE X W (.BoolOp .And (a :: b :: rest) pos) (vAnd fa fb) := by
  obtain ⟨t, p, h⟩ := ja.ex
  obtain ⟨u, q, k⟩ := jb.ex
  refine ⟨⟨_, pe_and p q, fun ps σ Hf H env S Q z => ?_⟩⟩
  refine h ps σ Hf H env S _ (EG.bnd z fun x e1 Hf1 H1 x1 S1 h1 v rv => ?_)
  split at h1
  · rename_i c
    refine ⟨c, rv.bl_inv, ?_⟩
    cases c with
    | true => exact iteT (k ps σ Hf1 H1 e1 S1 _ h1)
    | false => exact iteF (EG.ret h1 S1 _ (.bl _))
  · exact h1.elim
theorem je_or (ja : JE X W a fa) (jb : JE X W (.BoolOp .Or (b :: rest) pos) fb) : JE X W (.BoolOp .Or (a :: b :: rest) pos) (vOr fa fb) := by
  obtain ⟨t, p, h⟩ := ja.ex
  obtain ⟨u, q, k⟩ := jb.ex
  refine ⟨⟨_, pe_or p q, fun ps σ Hf H env S Q z => ?_⟩⟩
  refine h ps σ Hf H env S _ (EG.bnd z fun x e1 Hf1 H1 x1 S1 h1 v rv => ?_)
  split at h1
  · rename_i c
    refine ⟨c, rv.bl_inv, ?_⟩
    cases c with
    | true => exact iteT (EG.ret h1 S1 _ (.bl _))
    | false => exact iteF (k ps σ Hf1 H1 e1 S1 _ h1)
  · exact h1.elim
theorem je_not (ja : JE X W a fa) : JE X W (.UnaryOp .Not a pos) (vNot fa) := by
  obtain ⟨t, p, h⟩ := ja.ex
  refine ⟨⟨_, pe_not p, fun ps σ Hf H env S Q z => ?_⟩⟩
  refine h ps σ Hf H env S _ (EG.bnd z fun x e1 Hf1 H1 x1 S1 h1 v rv => ?_)
  split at h1
  · exact ⟨_, rv.bl_inv, EG.ret h1 S1 _ (.bl _)⟩
  · exact h1.elim
def mIf {α : Type} (c : M Bool) (f g : M α) : M α := bnd c fun b => if b = true then f else g
theorem je_if {t : Expr} (jc : JT X W t ga) (ja : JE X W a fa) (jb : JE X W b fb) : JE X W (.IfExp t a b pos) (mIf ga fa fb) := by
  obtain ⟨tc, pc, hc⟩ := jc.ex
  obtain ⟨ta, pa, ha⟩ := ja.ex
  obtain ⟨tb, pb, hb⟩ := jb.ex
  refine ⟨⟨_, pe_ifExp pc pa pb, fun ps σ Hf H env S Q z => ?_⟩⟩
  refine hc ps σ Hf H env S _ (EG.bnd z fun x e1 Hf1 H1 x1 S1 h1 => ?_)
  cases x with
  | true => show (if true = true then ta σ H1 Q else tb σ H1 Q); rw [if_pos rfl]; exact ha ps σ Hf1 H1 e1 S1 _ h1
  | false => show (if false = true then ta σ H1 Q else tb σ H1 Q); rw [if_neg Bool.false_ne_true]; exact hb ps σ Hf1 H1 e1 S1 _ h1

/-! ### arguments, displays -/
def aNil : M (List D) := ret []
def aCons (f : M D) (g : M (List D)) : M (List D) := bnd f fun d => bnd g fun ds => ret (d :: ds)
theorem ja_nil : JA X W [] aNil := ⟨⟨_, pa_nil, fun ps σ Hf H env S Q z => z.ret S [] .nil⟩⟩
theorem ja_cons {g : M (List D)} (je : JE X W e fa) (jr : JA X W es g) (hs : starEach (e :: es) X.env = (false, eval e X.env) :: starEach es X.env := by rfl) : JA X W (e :: es) (aCons fa g) := by
  obtain ⟨t, p, h⟩ := je.ex
  obtain ⟨u, q, k⟩ := jr.ex
  refine ⟨⟨_, pa_cons p q hs, fun ps σ Hf H env S Q z => ?_⟩⟩
  refine h ps σ Hf H env S _ (EG.bnd z fun x e1 Hf1 H1 x1 S1 h1 v rv => ?_)
  refine k ps σ Hf1 H1 e1 S1 _ (EG.bnd h1 fun xs e2 Hf2 H2 x2 S2 h2 vs rvs => ?_)
  exact h2.ret S2 _ (.cons (rv.mono x2) rvs)
def szOk (n : Nat) : Prop := n ≤ sizeLine
instance (n : Nat) : Decidable (szOk n) := by unfold szOk; infer_instance
def mTup (g : M (List D)) : M D := bnd g fun ds => if szOk ds.length then ret (.tup ds) else stk
def mLst (g : M (List D)) : M D := bnd g fun ds => if szOk ds.length then ret (.lst ds) else stk
theorem je_tup {g : M (List D)} {x1 : Nat} (j : JA X W es g) : JE X W (.Tuple es x1 pos) (mTup g) := by
  obtain ⟨t, p, h⟩ := j.ex
  refine ⟨⟨_, pe_tup p, fun ps σ Hf H env S Q z => ?_⟩⟩
  refine h ps σ Hf H env S _ (EG.bnd z fun xs e1 Hf1 H1 x1 S1 h1 vs rvs => ?_)
  split at h1
  · rename_i hz
    refine ⟨by rw [rvs.length]; exact hz, fun p np => ?_⟩
    exact h1 _ _ (Ex.new (fresh_back S1.ex np)) (S1.froze np) _ (.tup (.inl (.inl upd_same)) (rvs.mono (Ex.new (fresh_back S1.ex np))))
  · exact h1.elim
theorem je_lst {g : M (List D)} (j : JA X W es g) : JE X W (.List es pos) (mLst g) := by
  obtain ⟨t, p, h⟩ := j.ex
  refine ⟨⟨_, pe_lst p, fun ps σ Hf H env S Q z => ?_⟩⟩
  refine h ps σ Hf H env S _ (EG.bnd z fun xs e1 Hf1 H1 x1 S1 h1 vs rvs => ?_)
  split at h1
  · rename_i hz
    refine ⟨by rw [rvs.length]; exact hz, fun p np => ?_⟩
    exact h1 _ _ (Ex.new (fresh_back S1.ex np)) (S1.froze np) _ (.lst (.inl (.inl upd_same)) (rvs.mono (Ex.new (fresh_back S1.ex np))))
  · exact h1.elim

/-! ### calls of built-ins -/
def CJ (X : Cx) (W : WX) (r : List V → Hp → VK → Prop) (g : List D → M D) : Prop := ∀ (ps : Fg) (σ : L2.St) (Hf H : Hp) (env : DEnv) (xs : List V) (ds : List D) (Q : VK), SR X.K X.mg ps Hf H σ env → Rps X.K X.mg Hf xs ds →
  EG X.K X.mg ps W Hf σ (Pd X.K X.mg Q) (g ds env) → r xs H Q
theorem je_callB {id : String} {r : List V → Hp → VK → Prop} {g : List D → M D} {x : Str} {p : Pos} {f : M (List D)} (hc : CallR X (.builtin id) r) (hj : CJ X W r g) (V : Nm X N sc raw) (hG : okG sc x = true) (hm : X.mg x = none) (ja : JA X W (e :: es) f) (hv : bootBuiltins x = some (.builtin id) := by decide +kernel)
    (he : starEach (e :: es) X.env = (false, eval e X.env) :: starEach es X.env := by rfl) (hpl : (backTo pos (starEach es X.env)).any (·.1) = false := by rfl) : JE X W (.Call (.Name x p) (e :: es) [] pos) (bnd f g) := by
  obtain ⟨hg, hdb, hn⟩ := V.g hG
  obtain ⟨t, q, h⟩ := ja.ex
  refine ⟨⟨_, pe_callB hc hg hm hv q hn hdb he hpl, fun ps σ Hf H env S Q z => ?_⟩⟩
  exact h ps σ Hf H env S _ (EG.bnd z fun xs e1 Hf1 H1 x1 S1 h1 vs rvs => hj ps σ Hf1 H1 e1 vs xs Q S1 rvs h1)
theorem je_callTy {T : String} {r : List V → Hp → VK → Prop} {g : List D → M D} {x : Str} {p : Pos} {f : M (List D)} (hc : CallR X (.type T) r) (hj : CJ X W r g) (V : Nm X N sc raw) (hG : okG sc x = true) (hm : X.mg x = none) (ja : JA X W (e :: es) f) (hv : bootBuiltins x = some (.type T) := by decide +kernel)
    (he : starEach (e :: es) X.env = (false, eval e X.env) :: starEach es X.env := by rfl) (hpl : (backTo pos (starEach es X.env)).any (·.1) = false := by rfl) : JE X W (.Call (.Name x p) (e :: es) [] pos) (bnd f g) := by
  obtain ⟨hg, hdb, hn⟩ := V.g hG
  obtain ⟨t, q, h⟩ := ja.ex
  refine ⟨⟨_, pe_callTy hc hg hm hv q hn hdb he hpl, fun ps σ Hf H env S Q z => ?_⟩⟩
  exact h ps σ Hf H env S _ (EG.bnd z fun xs e1 Hf1 H1 x1 S1 h1 vs rvs => hj ps σ Hf1 H1 e1 vs xs Q S1 rvs h1)
def c1i (g : Int → M D) : List D → M D := fun ds => match ds with | [.int i] => g i | _ => stk
theorem cj_i {r : List V → Hp → VK → Prop} {g : Int → M D} (h : ∀ (ps : Fg) (σ : L2.St) (Hf H : Hp) (env : DEnv) (i : Int) (Q : VK), SR X.K X.mg ps Hf H σ env → EG X.K X.mg ps W Hf σ (Pd X.K X.mg Q) (g i env) → r [.int i] H Q) : CJ X W r (c1i g) := by
  intro ps σ Hf H env xs ds Q S rx q
  unfold c1i at q
  split at q
  · cases rx with
    | cons r1 r2 => cases r2; rw [r1.int_inv]; exact h ps σ Hf H env _ Q S q
  · exact q.elim
def c2i (g : Int → Int → M D) : List D → M D := fun ds => match ds with | [.int i, .int j] => g i j | _ => stk
theorem cj_i2 {r : List V → Hp → VK → Prop} {g : Int → Int → M D} (h : ∀ (ps : Fg) (σ : L2.St) (Hf H : Hp) (env : DEnv) (i j : Int) (Q : VK), SR X.K X.mg ps Hf H σ env → EG X.K X.mg ps W Hf σ (Pd X.K X.mg Q) (g i j env) → r [.int i, .int j] H Q) : CJ X W r (c2i g) := by
  intro ps σ Hf H env xs ds Q S rx q
  unfold c2i at q
  split at q
  · cases rx with
    | cons r1 r2 => cases r2 with
      | cons r3 r4 => cases r4; rw [r1.int_inv, r3.int_inv]; exact h ps σ Hf H env _ _ Q S q
  · exact q.elim
def iAbs (i : Int) : Int := if i < 0 then -i else i
theorem je_abs {p : Pos} {f : M (List D)} (V : Nm X N sc raw) (hG : okG sc "abs" = true) (hm : X.mg "abs" = none) (ja : JA X W [a] f) (he : starEach [a] X.env = (false, eval a X.env) :: starEach [] X.env := by rfl) : JE X W (.Call (.Name "abs" p) [a] [] pos) (bnd f (c1i fun i => ret (.int (iAbs i)))) :=
  je_callB call_abs (cj_i fun ps σ Hf H env i Q S q => ⟨i, rfl, q.ret S _ (.int _)⟩) V hG hm ja (by decide +kernel) he
theorem je_max2 {p : Pos} {f : M (List D)} (C : CtxOk X W) (V : Nm X N sc raw) (hG : okG sc "max" = true) (hm : X.mg "max" = none) (ja : JA X W [a, b] f) (he : starEach [a, b] X.env = (false, eval a X.env) :: starEach [b] X.env := by rfl) (hpl : (backTo pos (starEach [b] X.env)).any (·.1) = false := by rfl) :
    JE X W (.Call (.Name "max" p) [a, b] [] pos) (bnd f (c2i fun i j => ret (.int (if j > i then j else i)))) :=
  je_callB (call_max2 C.calm) (cj_i2 fun ps σ Hf H env i j Q S q => ⟨i, j, rfl, q.ret S _ (.int _)⟩) V hG hm ja (by decide +kernel) he hpl
theorem je_min2 {p : Pos} {f : M (List D)} (C : CtxOk X W) (V : Nm X N sc raw) (hG : okG sc "min" = true) (hm : X.mg "min" = none) (ja : JA X W [a, b] f) (he : starEach [a, b] X.env = (false, eval a X.env) :: starEach [b] X.env := by rfl) (hpl : (backTo pos (starEach [b] X.env)).any (·.1) = false := by rfl) :
    JE X W (.Call (.Name "min" p) [a, b] [] pos) (bnd f (c2i fun i j => ret (.int (if j < i then j else i)))) :=
  je_callB (call_min2 C.calm) (cj_i2 fun ps σ Hf H env i j Q S q => ⟨i, j, rfl, q.ret S _ (.int _)⟩) V hG hm ja (by decide +kernel) he hpl
/-- int(n), int(flag) -/
def cInt : List D → M D := fun ds => match ds with | [.int i] => ret (.int i) | [.bl k] => ret (.int (if k then 1 else 0)) | _ => stk
theorem je_intC {p : Pos} {f : M (List D)} (V : Nm X N sc raw) (hG : okG sc "int" = true) (hm : X.mg "int" = none) (ja : JA X W [a] f) (he : starEach [a] X.env = (false, eval a X.env) :: starEach [] X.env := by rfl) : JE X W (.Call (.Name "int" p) [a] [] pos) (bnd f cInt) := by
  refine je_callTy call_int1 (fun ps σ Hf H env xs ds Q S rx q => ?_) V hG hm ja (by decide +kernel) he
  unfold cInt at q
  split at q
  · cases rx with
    | cons r1 r2 => cases r2; rw [r1.int_inv]; exact .inl ⟨_, rfl, q.ret S _ (.int _)⟩
  · cases rx with
    | cons r1 r2 => cases r2; rw [r1.bl_inv]; exact .inr ⟨_, rfl, q.ret S _ (.int _)⟩
  · exact q.elim
/-- len of text, list, tuple -/
def cLen : List D → M D := fun ds => match ds with | [.lst l] => ret (.int l.length) | [.tup l] => ret (.int l.length) | [.str s] => if s.length ≤ sizeLine then ret (.int s.length) else stk | _ => stk
theorem je_len {p : Pos} {f : M (List D)} (V : Nm X N sc raw) (hG : okG sc "len" = true) (hm : X.mg "len" = none) (ja : JA X W [a] f) (he : starEach [a] X.env = (false, eval a X.env) :: starEach [] X.env := by rfl) : JE X W (.Call (.Name "len" p) [a] [] pos) (bnd f cLen) := by
  refine je_callB (call_len_seq.or call_len_str) (fun ps σ Hf H env xs ds Q S rx q => ?_) V hG hm ja (by decide +kernel) he
  unfold cLen at q
  split at q
  · cases rx with
    | cons r1 r2 => cases r2; cases r1 with
      | lst hq r => exact .inl ⟨_, _, rfl, .inl (ex_l S.ex hq), by rw [r.length]; exact q.ret S _ (.int _)⟩
  · cases rx with
    | cons r1 r2 => cases r2; cases r1 with
      | tup hq r => exact .inl ⟨_, _, rfl, .inr (ex_t S.ex hq), by rw [r.length]; exact q.ret S _ (.int _)⟩
  · cases rx with
    | cons r1 r2 =>
      cases r2; rw [r1.str_inv]
      split at q
      · rename_i hz; exact .inr ⟨_, rfl, hz, q.ret S _ (.int _)⟩
      · exact q.elim
  · exact q.elim
/-- isinstance(x, T) for a built-in T -/
def tyD : D → String
  | .non => "NoneType" | .bl _ => "bool" | .int _ => "int" | .str _ => "str" | .tup _ => "tuple" | .lst _ => "list" | .obj _ _ _ => "object" | .opq _ => "object"
def cIsi (T : String) : List D → M D := fun ds => match ds with
  | [.obj _ _ _] => stk
  | [.opq _] => stk
  | [d] => match kitB (tyD d) T with | some b => ret (.bl b) | none => stk
  | _ => stk
end
end DL

/-! DLc: statements, targets, loops, raise, defs and their calls. -/
namespace DL
open PySem PySem.Spec PyProof.Rows L2 Evl

inductive Fl where
  | nx | rt (d : D) | bk | ct
section
variable (K : PySem.W.Frag) (mg : MG) (ps : Fg) (W : WX)
def FP (De : Ends) : Fl → Hp → L2.St → Hp → Prop
  | .nx, _, σ, H => De.nx σ H
  | .rt d, Hf, _, H => ∀ v, Rp K mg Hf v d → De.rt v H
  | .bk, _, σ, H => De.bk σ H
  | .ct, _, σ, H => De.ct σ H
def SG (De : Ends) (Hf : Hp) : Res Fl → Prop
  | .ok fl e' => ∀ σ' Hf' H', Ex Hf Hf' → SR K mg ps Hf' H' σ' e' → FP K mg De fl Hf' σ' H'
  | .exc x p e' => ∀ cls dd σ' Hf' H', Ex Hf Hf' → SR K mg ps Hf' H' σ' e' → IsExc K mg Hf' x p cls dd → W cls dd σ' H'
  | .stuck => False
def UG (Q : L2.St → Hp → Prop) (Hf : Hp) : Res Unit → Prop
  | .ok _ e' => ∀ σ' Hf' H', Ex Hf Hf' → SR K mg ps Hf' H' σ' e' → Q σ' H'
  | .exc x p e' => ∀ cls dd σ' Hf' H', Ex Hf Hf' → SR K mg ps Hf' H' σ' e' → IsExc K mg Hf' x p cls dd → W cls dd σ' H'
  | .stuck => False
end
section
variable {K : PySem.W.Frag} {mg : MG} {ps : Fg} {W : WX} {Hf Hf' H H' : Hp} {σ : L2.St} {α β : Type} {e : DEnv} {De De' : Ends} {Q : L2.St → Hp → Prop}
theorem SG.mono (x : Ex Hf Hf') : ∀ {r : Res Fl}, SG K mg ps W De Hf r → SG K mg ps W De Hf' r
  | .ok _ _, h => fun σ' Hf2 H2 y s => h σ' Hf2 H2 (x.trans y) s
  | .exc _ _ _, h => fun c d σ' Hf2 H2 y s z => h c d σ' Hf2 H2 (x.trans y) s z
  | .stuck, h => h
theorem UG.mono (x : Ex Hf Hf') : ∀ {r : Res Unit}, UG K mg ps W Q Hf r → UG K mg ps W Q Hf' r
  | .ok _ _, h => fun σ' Hf2 H2 y s => h σ' Hf2 H2 (x.trans y) s
  | .exc _ _ _, h => fun c d σ' Hf2 H2 y s z => h c d σ' Hf2 H2 (x.trans y) s z
  | .stuck, h => h
theorem SG.bnd {P1 : α → Hp → Hp → Prop} {m : M α} {f : α → M Fl} (h : SG K mg ps W De Hf (DL.bnd m f e))
    (hk : ∀ a e' Hf' H', Ex Hf Hf' → SR K mg ps Hf' H' σ e' → SG K mg ps W De Hf' (f a e') → P1 a Hf' H') : EG K mg ps W Hf σ P1 (m e) := by
  unfold DL.bnd at h
  cases q : m e with
  | ok a e' => rw [q] at h; exact fun Hf2 H2 y s => hk a e' Hf2 H2 y s (SG.mono y h)
  | exc x p e' => rw [q] at h; exact fun c d Hf2 H2 y s z => h c d σ Hf2 H2 y s z
  | stuck => rw [q] at h; exact h
theorem SG.ubnd {m : M Unit} {f : Unit → M Fl} (h : SG K mg ps W De Hf (DL.bnd m f e))
    (hk : ∀ e' σ' Hf' H', Ex Hf Hf' → SR K mg ps Hf' H' σ' e' → SG K mg ps W De Hf' (f () e') → Q σ' H') : UG K mg ps W Q Hf (m e) := by
  unfold DL.bnd at h
  cases q : m e with
  | ok a e' => rw [q] at h; exact fun σ2 Hf2 H2 y s => hk e' σ2 Hf2 H2 y s (SG.mono y h)
  | exc x p e' => rw [q] at h; exact h
  | stuck => rw [q] at h; exact h
theorem UG.bnd {P1 : α → Hp → Hp → Prop} {m : M α} {f : α → M Unit} (h : UG K mg ps W Q Hf (DL.bnd m f e))
    (hk : ∀ a e' Hf' H', Ex Hf Hf' → SR K mg ps Hf' H' σ e' → UG K mg ps W Q Hf' (f a e') → P1 a Hf' H') : EG K mg ps W Hf σ P1 (m e) := by
  unfold DL.bnd at h
  cases q : m e with
  | ok a e' => rw [q] at h; exact fun Hf2 H2 y s => hk a e' Hf2 H2 y s (UG.mono y h)
  | exc x p e' => rw [q] at h; exact fun c d Hf2 H2 y s z => h c d σ Hf2 H2 y s z
  | stuck => rw [q] at h; exact h
theorem UG.ubnd {Q' : L2.St → Hp → Prop} {m : M Unit} {f : Unit → M Unit} (h : UG K mg ps W Q Hf (DL.bnd m f e))
    (hk : ∀ e' σ' Hf' H', Ex Hf Hf' → SR K mg ps Hf' H' σ' e' → UG K mg ps W Q Hf' (f () e') → Q' σ' H') : UG K mg ps W Q' Hf (m e) := by
  unfold DL.bnd at h
  cases q : m e with
  | ok a e' => rw [q] at h; exact fun σ2 Hf2 H2 y s => hk e' σ2 Hf2 H2 y s (UG.mono y h)
  | exc x p e' => rw [q] at h; exact h
  | stuck => rw [q] at h; exact h
theorem UG.ret {e : DEnv} (h : UG K mg ps W Q Hf (ret () e)) (S : SR K mg ps Hf H σ e) : Q σ H := h σ Hf H (Ex.refl Hf) S
theorem SG.ret {e : DEnv} {fl : Fl} (h : SG K mg ps W De Hf (ret fl e)) (S : SR K mg ps Hf H σ e) : FP K mg De fl Hf σ H := h σ Hf H (Ex.refl Hf) S
end
section
variable (X : Cx) (W : WX)
structure JS (s : Stmt) (f : M Fl) : Prop where
  ex : ∃ t, PS X s t ∧ ∀ (ps : Fg) (σ : L2.St) (Hf H : Hp) (env : DEnv), SR X.K X.mg ps Hf H σ env → ∀ De : Ends, SG X.K X.mg ps W De Hf (f env) → t De σ H
structure JSs (s : List Stmt) (f : M Fl) : Prop where
  ex : ∃ t, PSs X s t ∧ ∀ (ps : Fg) (σ : L2.St) (Hf H : Hp) (env : DEnv), SR X.K X.mg ps Hf H σ env → ∀ De : Ends, SG X.K X.mg ps W De Hf (f env) → t De σ H
structure JG (tg : Expr) (g : D → M Unit) : Prop where
  ex : ∃ t, PG X tg t ∧ ∀ (ps : Fg) (σ : L2.St) (Hf H : Hp) (env : DEnv) (v : V) (d : D), SR X.K X.mg ps Hf H σ env → Rp X.K X.mg Hf v d → ∀ Q : L2.St → Hp → Prop, UG X.K X.mg ps W Q Hf (g d env) → t v σ H Q
structure JGs (tgs : List Expr) (g : List D → M Unit) : Prop where
  ex : ∃ t, PGs X tgs t ∧ ∀ (ps : Fg) (σ : L2.St) (Hf H : Hp) (env : DEnv) (v : List V) (d : List D), SR X.K X.mg ps Hf H σ env → Rps X.K X.mg Hf v d → ∀ Q : L2.St → Hp → Prop, UG X.K X.mg ps W Q Hf (g d env) → t v σ H Q
end
section
variable {X : Cx} {W : WX} {a b c e : Expr} {es : List Expr} {fa fb fc : M D} {pos : Pos} {s : Stmt} {ss : List Stmt} {f g : M Fl} {ga : M Bool} {N : List Str} {sc raw : Scope}
/-! ### blocks -/
def nx : M Fl := ret .nx
def sq (f g : M Fl) : M Fl := fun env => match f env with | .ok .nx e' => g e' | r => r
theorem jss_nil : JSs X W [] nx := ⟨⟨_, pss_nil, fun ps σ Hf H env S De h => h.ret S⟩⟩
theorem sq_ok {t u : TS} (ht : ∀ (ps : Fg) (σ : L2.St) (Hf H : Hp) (env : DEnv), SR X.K X.mg ps Hf H σ env → ∀ De : Ends, SG X.K X.mg ps W De Hf (f env) → t De σ H)
    (hu : ∀ (ps : Fg) (σ : L2.St) (Hf H : Hp) (env : DEnv), SR X.K X.mg ps Hf H σ env → ∀ De : Ends, SG X.K X.mg ps W De Hf (g env) → u De σ H)
    {ps : Fg} {σ : L2.St} {Hf H : Hp} {env : DEnv} (S : SR X.K X.mg ps Hf H σ env) {De : Ends} (h : SG X.K X.mg ps W De Hf (sq f g env)) : tSeq t u De σ H := by
  refine ht ps σ Hf H env S _ ?_
  unfold sq at h
  cases q : f env with
  | ok fl e' =>
    rw [q] at h
    cases fl with
    | nx => exact fun σ' Hf' H' x S' => hu ps σ' Hf' H' e' S' De (SG.mono x h)
    | rt d => exact h
    | bk => exact h
    | ct => exact h
  | exc x p e' => rw [q] at h; exact h
  | stuck => rw [q] at h; exact h
theorem jss_cons (j : JS X W s f) (k : JSs X W ss g) : JSs X W (s :: ss) (sq f g) := by
  obtain ⟨t, p, h⟩ := j.ex
  obtain ⟨u, q, r⟩ := k.ex
  exact ⟨⟨_, pss_cons p q, fun ps σ Hf H env S De z => sq_ok h r S z⟩⟩
theorem jss_one (j : JS X W s f) : JSs X W [s] f := by
  obtain ⟨t, p, h⟩ := j.ex
  exact ⟨⟨_, pss_one p, h⟩⟩
theorem js_pass : JS X W (.Pass pos) nx := ⟨⟨_, ps_pass, fun ps σ Hf H env S De h => h.ret S⟩⟩
theorem js_break : JS X W (.Break pos) (ret .bk) := ⟨⟨_, ps_break, fun ps σ Hf H env S De h => h.ret S⟩⟩
theorem js_continue : JS X W (.Continue pos) (ret .ct) := ⟨⟨_, ps_continue, fun ps σ Hf H env S De h => h.ret S⟩⟩
theorem js_doc {x : Str} {j : Nat} {pos' : Pos} : JS X W (.Expr (.Constant (.str x) j pos) pos') nx := ⟨⟨_, ps_doc, fun ps σ Hf H env S De h => h.ret S⟩⟩
/-! ### simple statements -/
def mAsg (i : Nat) (f : M D) : M Fl := bnd f fun d env => .ok .nx (env.set i (.val d))
theorem js_asg (V : Nm X N sc raw) {i : Nat} {x : Str} {pos' : Pos} (hS : okS N sc raw i x = true) (j : JE X W e fa)
    (hs : swapsWith e (some (.Name x pos')) pos.line X.env = pure false := by rfl) : JS X W (.Assign [.Name x pos'] e pos) (mAsg i fa) := by
  obtain ⟨hi, hx, hf⟩ := V.s hS
  have hN := V.nodup
  obtain ⟨t, p, h⟩ := j.ex
  refine ⟨⟨_, ps_set (i := i) hN hi hx p hs hf, fun ps σ Hf H env S De z => ?_⟩⟩
  exact h ps σ Hf H env S _ (SG.bnd z fun d e' Hf' H' x S' h1 v r => h1 _ Hf' H' (Ex.refl _) (S'.put i r))
def mRet (f : M D) : M Fl := bnd f fun d => ret (.rt d)
theorem js_ret (j : JE X W e fa) : JS X W (.Return (some e) pos) (mRet fa) := by
  obtain ⟨t, p, h⟩ := j.ex
  refine ⟨⟨_, ps_ret p, fun ps σ Hf H env S De z => ?_⟩⟩
  exact h ps σ Hf H env S _ (SG.bnd z fun d e' Hf' H' x S' h1 v r => h1.ret S' v r)
theorem js_retN : JS X W (.Return none pos) (ret (.rt .non)) := ⟨⟨_, ps_retN, fun ps σ Hf H env S De h => h.ret S _ .non⟩⟩
def mDrop (f : M D) : M Fl := bnd f fun _ => nx
theorem js_expr (j : JE X W e fa) (hs : swapsWith e none pos.line X.env = pure false := by rfl) : JS X W (.Expr e pos) (mDrop fa) := by
  obtain ⟨t, p, h⟩ := j.ex
  refine ⟨⟨_, ps_expr p hs, fun ps σ Hf H env S De z => ?_⟩⟩
  exact h ps σ Hf H env S _ (SG.bnd z fun d e' Hf' H' x S' h1 v r => h1.ret S')
theorem js_if {A B : List Stmt} (jc : JT X W c ga) (ja : JSs X W A f) (jb : JSs X W B g) : JS X W (.If c A B pos) (mIf ga f g) := by
  obtain ⟨tc, pc, hc⟩ := jc.ex
  obtain ⟨t, p, h⟩ := ja.ex
  obtain ⟨u, q, r⟩ := jb.ex
  refine ⟨⟨_, ps_if pc p q, fun ps σ Hf H env S De z => ?_⟩⟩
  refine hc ps σ Hf H env S _ (SG.bnd z fun c0 e' Hf' H' x S' h1 => ?_)
  cases c0 with
  | true => show (if true = true then t De σ H' else u De σ H'); rw [if_pos rfl]; exact h ps σ Hf' H' e' S' De h1
  | false => show (if false = true then t De σ H' else u De σ H'); rw [if_neg Bool.false_ne_true]; exact r ps σ Hf' H' e' S' De h1
/-- x += e, whole numbers -/
def mAug (i : Nat) (f : M D) (g : Int → Int → D) : M Fl := fun env => match env[i]? with
  | some (.val (.int a)) => bnd f (fun d env' => match d with | .int b => .ok .nx (env'.set i (.val (g a b))) | _ => .stuck) env
  | _ => .stuck
theorem js_add (V : Nm X N sc raw) {i : Nat} {x : Str} {pos' : Pos} (hS : okS N sc raw i x = true) (j : JE X W e fa) : JS X W (.AugAssign (.Name x pos') .Add e pos) (mAug i fa fun a b => .int (a + b)) := by
  obtain ⟨hi, hx, hf⟩ := V.s hS
  have hN := V.nodup
  obtain ⟨t, p, h⟩ := j.ex
  refine ⟨⟨_, ps_aug (i := i) hN hi hx p ip_add hf, fun ps σ Hf H env S De z => ?_⟩⟩
  unfold mAug at z
  split at z
  · rename_i k q
    obtain ⟨v, h1, h2⟩ := S.val q
    refine ⟨v, h1, h ps σ Hf H env S _ (SG.bnd z fun d e' Hf' H' x S' z1 v2 r => ?_)⟩
    split at z1
    · rw [h2.int_inv, r.int_inv]
      exact ⟨_, _, rfl, rfl, z1 _ Hf' H' (Ex.refl _) (S'.put i (.int _))⟩
    · exact z1.elim
  · exact z.elim

/-! ### targets -/
def gN (i : Nat) : D → M Unit := fun d env => .ok () (env.set i (.val d))
theorem jg_name (V : Nm X N sc raw) {i : Nat} {x : Str} (hS : okS N sc raw i x = true) : JG X W (.Name x pos) (gN i) :=
  ⟨⟨_, pg_name (i := i) V.nodup (V.s hS).1 (V.s hS).2.1 (V.s hS).2.2, fun ps σ Hf H env v d S r Q z => z _ Hf H (Ex.refl _) (S.put i r)⟩⟩
def gsNil : List D → M Unit := fun ds => match ds with | [] => ret () | _ => stk
def gsCons (g : D → M Unit) (gs : List D → M Unit) : List D → M Unit := fun ds => match ds with | d :: r => bnd (g d) fun _ => gs r | [] => stk
theorem jgs_nil : JGs X W [] gsNil := ⟨⟨_, pgs_nil, fun ps σ Hf H env v d S r Q z => by
  cases r with
  | nil => exact ⟨rfl, z.ret S⟩
  | cons _ _ => exact z.elim⟩⟩
theorem jgs_cons {g1 : D → M Unit} {gs : List D → M Unit} (j : JG X W e g1) (k : JGs X W es gs) (hs : (assignEach (e :: es) X.env).map (·.2) = assign e X.env :: (assignEach es X.env).map (·.2) := by rfl) : JGs X W (e :: es) (gsCons g1 gs) := by
  obtain ⟨t, p, h⟩ := j.ex
  obtain ⟨u, q, hu⟩ := k.ex
  refine ⟨⟨_, pgs_cons p q hs, fun ps σ Hf H env v d S r Q z => ?_⟩⟩
  cases r with
  | nil => exact z.elim
  | cons r1 r2 => exact ⟨_, _, rfl, h ps σ Hf H env _ _ S r1 _ (UG.ubnd z fun e' σ' Hf' H' x S' z1 => hu ps σ' Hf' H' e' _ _ S' (r2.mono x) Q z1)⟩
def gTp (n : Nat) (gs : List D → M Unit) : D → M Unit := fun d => match d with
  | .tup ds => if ds.length = n then gs ds else stk
  | .lst ds => if ds.length = n then gs ds else stk
  | _ => stk
theorem pg_or {tg : Expr} {t u : TG} (h : PG X tg t) (k : PG X tg u) : PG X tg (fun v σ H Q => t v σ H Q ∨ u v σ H Q) :=
  ⟨fun pins s σ H v w Q I r z => z.elim (h.run pins s σ H v w Q I r) (k.run pins s σ H v w Q I r)⟩
theorem jg_tup {gs : List D → M Unit} {k n : Nat} (C : CtxOk X W) (j : JGs X W es gs) (hn : (assignEach es X.env).length = n := by rfl) (hst : (assignEach es X.env).findIdx? (·.1) = none := by rfl) : JG X W (.Tuple es k pos) (gTp n gs) := by
  obtain ⟨t, p, h⟩ := j.ex
  refine ⟨⟨_, pg_or (pg_tup C.calm p hn hst) (pg_lst C.calm p hn hst), fun ps σ Hf H env v d S r Q z => ?_⟩⟩
  unfold gTp at z
  split at z
  · split at z
    · rename_i hl
      cases r with
      | tup hq rr => exact .inl ⟨_, _, rfl, ex_t S.ex hq, by rw [rr.length]; exact hl, h ps σ Hf H env _ _ S rr Q z⟩
    · exact z.elim
  · split at z
    · rename_i hl
      cases r with
      | lst hq rr => exact .inr ⟨_, _, rfl, ex_l S.ex hq, by rw [rr.length]; exact hl, h ps σ Hf H env _ _ S rr Q z⟩
    · exact z.elim
  · exact z.elim
def mAsgT (f : M D) (g : D → M Unit) : M Fl := bnd f fun d => bnd (g d) fun _ => nx
theorem js_asgT {tg : Expr} {g1 : D → M Unit} (j : JE X W e fa) (k : JG X W tg g1) (hs : swapsWithSole [tg] e pos.line X.env = pure false := by rfl) (hw : swappedStores [tg] e X.env = pure none := by rfl) (h1 : (assignEach [tg] X.env).map (·.2) = [assign tg X.env] := by rfl) : JS X W (.Assign [tg] e pos) (mAsgT fa g1) := by
  obtain ⟨t, p, h⟩ := j.ex
  obtain ⟨u, q, hu⟩ := k.ex
  refine ⟨⟨_, ps_asg p q hs hw h1, fun ps σ Hf H env S De z => ?_⟩⟩
  refine h ps σ Hf H env S _ (SG.bnd z fun d e' Hf' H' x S' h1 v r => ?_)
  exact hu ps σ Hf' H' e' v d S' r _ (SG.ubnd h1 fun e2 σ2 Hf2 H2 x2 S2 z2 => z2.ret S2)
/-- a, b = e1, e2 -/
def mPar (i j : Nat) (f : M (List D)) : M Fl := bnd f fun ds env => match ds with | [d, d'] => .ok .nx ((env.set i (.val d)).set j (.val d')) | _ => .stuck
/-- two local names, one line, the values no constants alone -/
def okP (sc : Scope) (x y : Str) (px py : Pos) (a b : Expr) : Bool := decide (sc.names.lookup x = some .local) && decide (sc.names.lookup y = some .local) && !(x == y) && (px.line == py.line) && !([a, b].all (foldedForSure 8)) && !([a, b].all (constantsAlone 8)) &&
  !([a, b].any fun | .Starred .. => true | _ => false)
theorem sw_par {x y : Str} {px py pt pt2 : Pos} {kt k2 : Nat} (V : Nm X N sc raw) (h : okP sc x y px py a b = true) : swappedStores [.Tuple [.Name x px, .Name y py] kt pt] (.Tuple [a, b] k2 pt2) X.env = pure (some [x, y]) := by
  unfold okP at h
  simp only [Bool.and_eq_true, decide_eq_true_eq, Bool.not_eq_true'] at h
  obtain ⟨⟨⟨⟨⟨⟨h1, h2⟩, h3⟩, h4⟩, h5⟩, h6⟩, h7⟩ := h
  have e1 : X.env.kindOf x = some .local := by unfold Env.kindOf; rw [V.hs]; exact h1
  have e2 : X.env.kindOf y = some .local := by unfold Env.kindOf; rw [V.hs]; exact h2
  have e3 : X.env.blockKind = .function := by unfold Env.blockKind; rw [V.hs, V.kind]; rfl
  have h3' : (y == x) = false := by
    cases q : (y == x) with
    | false => rfl
    | true => rw [beq_iff_eq] at q; subst q; simp at h3
  have h4' : (py.line == px.line) = true := by rw [beq_iff_eq] at h4 ⊢; exact h4.symm
  unfold swappedStores
  simp only [e3, h5, h6, h7, List.filterMap_cons, List.filterMap_nil, e1, e2, List.length_cons, List.length_nil, List.head?_cons, Option.map_some, Option.getD_some, Expr.pos, h4', beq_self_eq_true, Bool.and_self, if_true, List.eraseDups_cons, List.eraseDups_nil, List.filter_cons, List.filter_nil, h3', Bool.not_false]
  rw [if_neg (by decide)]
  refine (if_neg fun z => ?_).trans rfl
  exact Bool.false_ne_true (h7.symm.trans z)
theorem js_par {i j : Nat} {x y : Str} {px py pt pt2 : Pos} {kt k2 : Nat} {f : M (List D)} (C : CtxOk X W) (V : Nm X N sc raw) (hi : okS N sc raw i x = true) (hj : okS N sc raw j y = true) (hP : okP sc x y px py a b = true) (ja : JA X W [a, b] f)  (hij : i ≠ j := by decide)
    (hs : swapsWithSole [.Tuple [.Name x px, .Name y py] kt pt] (.Tuple [a, b] k2 pt2) pos.line X.env = pure false := by rfl) :
    JS X W (.Assign [.Tuple [.Name x px, .Name y py] kt pt] (.Tuple [a, b] k2 pt2) pos) (mPar i j f) := by
  have hw := sw_par (pt := pt) (pt2 := pt2) (kt := kt) (k2 := k2) V hP
  have hN := V.nodup
  have hi := (V.s hi).1
  have hj := (V.s hj).1
  unfold okP at hP
  simp only [Bool.and_eq_true, decide_eq_true_eq] at hP
  have hx : X.env.scope.names.lookup x = some .local := by rw [V.hs]; exact hP.1.1.1.1.1.1
  have hy : X.env.scope.names.lookup y = some .local := by rw [V.hs]; exact hP.1.1.1.1.1.2
  obtain ⟨t, p, h⟩ := ja.ex
  refine ⟨⟨_, ps_par C.calm hN hi hj hij hx hy p hw hs, fun ps σ Hf H env S De z => ?_⟩⟩
  refine h ps σ Hf H env S _ (SG.bnd z fun ds e' Hf' H' x S' h1 vs r => ?_)
  split at h1
  · cases r with
    | cons r1 r2 => cases r2 with
      | cons r3 r4 => cases r4; exact ⟨_, _, rfl, h1 _ Hf' H' (Ex.refl _) ((S'.put i r1).put j r3)⟩
  · exact h1.elim

/-! ### while -/
/-- one more turn behind a body -/
def again (b : M Fl) (k : M Fl) : M Fl := fun env => match b env with
  | .ok .nx e' => k e' | .ok .ct e' => k e' | .ok .bk e' => .ok .nx e' | r => r
def whN (c : M Bool) (b : M Fl) : Nat → M Fl
  | 0 => stk
  | n + 1 => mIf c (again b (whN c b n)) nx
theorem again_lift {b k k' : M Fl} {env : DEnv} {r : Res Fl} (h : again b k env = r) (hr : r ≠ .stuck) (hk : ∀ e' r, k e' = r → r ≠ .stuck → k' e' = r) : again b k' env = r := by
  unfold again at h ⊢
  cases q : b env with
  | ok fl e' =>
    rw [q] at h
    cases fl with
    | nx => exact hk _ _ h hr
    | ct => exact hk _ _ h hr
    | bk => exact h
    | rt d => exact h
  | exc x p e' => rw [q] at h; exact h
  | stuck => rw [q] at h; exact h
theorem whN_succ {c : M Bool} {b : M Fl} : ∀ {n : Nat} {env : DEnv} {r : Res Fl}, whN c b n env = r → r ≠ .stuck → whN c b (n + 1) env = r
  | 0, env, r, h, hr => absurd h.symm hr
  | n + 1, env, r, h, hr => by
    unfold whN mIf bnd at h ⊢
    cases q : c env with
    | ok t e' =>
      rw [q] at h
      cases t with
      | true => exact again_lift h hr fun e' r h hr => whN_succ h hr
      | false => exact h
    | exc x p e' => rw [q] at h; exact h
    | stuck => rw [q] at h; exact h
theorem whN_le {c : M Bool} {b : M Fl} {n m : Nat} {env : DEnv} {r : Res Fl} (h : whN c b n env = r) (hr : r ≠ .stuck) (hm : n ≤ m) : whN c b m env = r := by
  induction hm with
  | refl => exact h
  | step _ ih => exact whN_succ ih hr
open Classical in
noncomputable def mWh (c : M Bool) (b : M Fl) : M Fl := fun env => if h : ∃ n, whN c b n env ≠ .stuck then whN c b (choose h) env else .stuck
theorem mWh_of {c : M Bool} {b : M Fl} {n : Nat} {env : DEnv} {r : Res Fl} (h : whN c b n env = r) (hr : r ≠ .stuck) : mWh c b env = r := by
  have hx : ∃ n, whN c b n env ≠ .stuck := ⟨n, by rw [h]; exact hr⟩
  unfold mWh
  rw [dif_pos hx]
  have hc := Classical.choose_spec hx
  rcases Nat.le_total n (Classical.choose hx) with hle | hle
  · exact whN_le h hr hle
  · have := whN_le (rfl : whN c b (Classical.choose hx) env = _) hc hle
    rw [h] at this; exact this.symm
theorem mWh_ex {c : M Bool} {b : M Fl} {env : DEnv} (h : mWh c b env ≠ .stuck) : ∃ n, whN c b n env = mWh c b env := by
  unfold mWh at h ⊢
  split
  · rename_i hx; exact ⟨_, rfl⟩
  · rename_i hx; rw [dif_neg hx] at h; exact absurd rfl h
theorem SG.ns {K : PySem.W.Frag} {mg : MG} {ps : Fg} {W : WX} {Hf : Hp} {De : Ends} {r : Res Fl} (h : SG K mg ps W De Hf r) : r ≠ .stuck := fun z => by subst z; exact h
theorem js_while {B : List Stmt} (C : CtxOk X W) (jc : JT X W c ga) (jb : JSs X W B f) : JS X W (.While c B [] pos) (mWh ga f) := by
  obtain ⟨tc, pc, hc⟩ := jc.ex
  obtain ⟨t, p, h⟩ := jb.ex
  refine ⟨⟨_, ps_while C.po pc p, fun ps σ Hf H env S De z => ?_⟩⟩
  obtain ⟨n, hn⟩ := mWh_ex z.ns
  rw [← hn] at z
  refine ⟨fun m σ H => ∃ env Hf, SR X.K X.mg ps Hf H σ env ∧ SG X.K X.mg ps W De Hf (whN ga f m env), ⟨n, env, Hf, S, z⟩, ?_⟩
  rintro m σ H ⟨env, Hf, S, z⟩
  cases m with
  | zero => exact z.elim
  | succ m =>
    refine hc ps σ Hf H env S _ (SG.bnd z fun x e' Hf' H' x1 S' h1 => ?_)
    cases x with
    | false =>
      unfold Pb
      dsimp only
      rw [if_neg Bool.false_ne_true]; exact h1.ret S'
    | true =>
      unfold Pb
      dsimp only
      rw [if_pos rfl]
      refine ⟨fun σ H => ∃ env Hf, SR X.K X.mg ps Hf H σ env ∧ SG X.K X.mg ps W De Hf (whN ga f m env), fun σ' H' w => ⟨m, Nat.lt_succ_self _, w⟩, ?_⟩
      refine h ps σ Hf' H' e' S' _ ?_
      have h1 : SG X.K X.mg ps W De Hf' (again f (whN ga f m) e') := h1
      unfold again at h1
      cases q : f e' with
      | ok fl e2 =>
        rw [q] at h1
        cases fl with
        | nx => exact fun σ2 Hf2 H2 x2 S2 => ⟨e2, Hf2, S2, SG.mono x2 h1⟩
        | ct => exact fun σ2 Hf2 H2 x2 S2 => ⟨e2, Hf2, S2, SG.mono x2 h1⟩
        | bk => exact h1
        | rt d => exact h1
      | exc x p e' => rw [q] at h1; exact h1
      | stuck => rw [q] at h1; exact h1

/-! ### for -/
/-- the walk J yields ds, one after another, from Hf on -/
structure ItOk (K : PySem.W.Frag) (mg : MG) (Hf : Hp) (J : It) (ds : List D) : Prop where
  go : ∀ (i : Nat) (d : D), ds[i]? = some d → ∀ (ps : Fg) (σ : L2.St) (env : DEnv) (Hf2 H2 : Hp), Ex Hf Hf2 → SR K mg ps Hf2 H2 σ env → J.go i H2 ∧ ∀ x H3, J.yld i H2 x H3 → ∃ Hf3, Ex Hf2 Hf3 ∧ SR K mg ps Hf3 H3 σ env ∧ Rp K mg Hf3 x d
  stop : ∀ (i : Nat), ds.length ≤ i → ∀ (ps : Fg) (σ : L2.St) (env : DEnv) (Hf2 H2 : Hp), Ex Hf Hf2 → SR K mg ps Hf2 H2 σ env → J.stop i H2
structure JI (X : Cx) (W : WX) (tg iter : Expr) (f : M (List D)) : Prop where
  ex : ∃ wi, PI X tg iter wi ∧ ∀ (ps : Fg) (σ : L2.St) (Hf H : Hp) (env : DEnv), SR X.K X.mg ps Hf H σ env → ∀ R : It → Hp → Prop, EG X.K X.mg ps W Hf σ (fun ds Hf' H' => ∀ J, ItOk X.K X.mg Hf' J ds → R J H') (f env) → wi σ H R
def forL (g : D → M Unit) (b : M Fl) : List D → M Fl
  | [] => nx
  | d :: r => bnd (g d) fun _ => again b (forL g b r)
theorem js_for {B : List Stmt} {tg iter : Expr} {fi : M (List D)} {g1 : D → M Unit} (C : CtxOk X W) (ji : JI X W tg iter fi) (jg : JG X W tg g1) (jb : JSs X W B f) (hs : ∀ x, foldedSetIterable iter X.env x = pure x := by intro _; rfl) :
    JS X W (.For tg iter B [] pos) (bnd fi (forL g1 f)) := by
  obtain ⟨wi, pi, hi⟩ := ji.ex
  obtain ⟨tg, pg, hg⟩ := jg.ex
  obtain ⟨t, p, h⟩ := jb.ex
  refine ⟨⟨_, ps_for C.po C.calm pi pg p hs, fun ps σ Hf H env S De z => ?_⟩⟩
  refine hi ps σ Hf H env S _ (SG.bnd z fun ds e1 Hf1 H1 x1 S1 z1 J ok => ?_)
  refine ⟨fun i m σ H => i + m = ds.length ∧ ∃ env Hf, Ex Hf1 Hf ∧ SR X.K X.mg ps Hf H σ env ∧ SG X.K X.mg ps W De Hf (forL g1 f (ds.drop i) env), ⟨ds.length, Nat.zero_add _, e1, Hf1, Ex.refl _, S1, z1⟩, ?_⟩
  rintro i m σ H ⟨hm, env, Hf, x, S, z⟩
  by_cases hlt : i < ds.length
  · obtain ⟨d, hd⟩ : ∃ d, ds[i]? = some d := ⟨ds[i], List.getElem?_eq_getElem hlt⟩
    obtain ⟨go, yld⟩ := ok.go i d hd ps σ env Hf H x S
    have e0 : ds.drop i = d :: ds.drop (i + 1) := by
      rw [List.drop_eq_getElem_cons hlt]
      have := List.getElem?_eq_getElem hlt
      rw [hd] at this; cases this; rfl
    rw [e0] at z
    refine .inr ⟨go, fun σ H => i + 1 + (m - 1) = ds.length ∧ ∃ env Hf, Ex Hf1 Hf ∧ SR X.K X.mg ps Hf H σ env ∧ SG X.K X.mg ps W De Hf (forL g1 f (ds.drop (i + 1)) env), fun σ' H' w => ⟨m - 1, by omega, w⟩, fun v H3 y => ?_⟩
    obtain ⟨Hf3, x3, S3, r3⟩ := yld v H3 y
    refine hg ps σ Hf3 H3 env v d S3 r3 _ (SG.ubnd (SG.mono x3 z) fun e4 σ4 Hf4 H4 x4 S4 z4 => ?_)
    refine h ps σ4 Hf4 H4 e4 S4 _ ?_
    unfold again at z4
    cases q : f e4 with
    | ok fl e5 =>
      rw [q] at z4
      cases fl with
      | nx => exact fun σ2 Hf2 H2 x2 S2 => ⟨by omega, e5, Hf2, ((x.trans x3).trans x4).trans x2, S2, SG.mono x2 z4⟩
      | ct => exact fun σ2 Hf2 H2 x2 S2 => ⟨by omega, e5, Hf2, ((x.trans x3).trans x4).trans x2, S2, SG.mono x2 z4⟩
      | bk => exact z4
      | rt d => exact z4
    | exc x p e' => rw [q] at z4; exact z4
    | stuck => rw [q] at z4; exact z4
  · refine .inl ⟨ok.stop i (by omega) ps σ env Hf H x S, ?_⟩
    rw [List.drop_eq_nil_of_le (by omega)] at z
    exact z.ret S
/-! ### what is walked -/
def rngD (lo : Int) (n : Nat) : List D := (List.range n).map fun k => .int (lo + (k : Nat))
theorem itok_range {K : PySem.W.Frag} {mg : MG} {Hf : Hp} {lo : Int} {n : Nat} : ItOk K mg Hf (Itr lo n) (rngD lo n) where
  go := fun i d hd ps σ env Hf2 H2 x S => by
    unfold rngD at hd
    rw [List.getElem?_map] at hd
    have hi : i < n := by
      cases q : (List.range n)[i]? with
      | none => rw [q] at hd; cases hd
      | some k => have := (List.getElem?_eq_some_iff.mp q).1; simpa using this
    rw [List.getElem?_range hi] at hd
    cases hd
    exact ⟨hi, fun x H3 y => ⟨Hf2, Ex.refl _, by rw [y.1]; exact S, by rw [y.2]; exact .int _⟩⟩
  stop := fun i hi ps σ env Hf2 H2 x S => by
    unfold rngD at hi
    have hi' : n ≤ i := by simpa using hi
    exact hi'
def rOk (j : Int) : Prop := -(2 ^ 62) ≤ j ∧ j < 2 ^ 62
instance (j : Int) : Decidable (rOk j) := by unfold rOk; infer_instance
def mRng1 (f : M (List D)) : M (List D) := bnd f fun ds => match ds with | [.int j] => if rOk j then ret (rngD 0 j.toNat) else stk | _ => stk
def mRng2 (f : M (List D)) : M (List D) := bnd f fun ds => match ds with | [.int i, .int j] => if rOk i ∧ rOk j then ret (rngD i (j - i).toNat) else stk | _ => stk
theorem ji_range1 {tg : Expr} {p : Pos} {f : M (List D)} (V : Nm X N sc raw) (hG : okG sc "range" = true) (hm : X.mg "range" = none) (ja : JA X W [a] f) (hs : starEach [a] X.env = [(false, eval a X.env)] := by rfl) : JI X W tg (.Call (.Name "range" p) [a] [] pos) (mRng1 f) := by
  have hg := (V.g hG).1
  obtain ⟨t, q, h⟩ := ja.ex
  refine ⟨⟨_, pi_range1 hg hm q hs, fun ps σ Hf H env S R z => ?_⟩⟩
  refine h ps σ Hf H env S _ (EG.bnd z fun ds e1 Hf1 H1 x1 S1 h1 vs r => ?_)
  split at h1
  · rename_i j
    split at h1
    · rename_i hc
      cases r with
      | cons r1 r2 => cases r2; rw [r1.int_inv]; exact ⟨j, rfl, hc.1, hc.2, h1.ret S1 _ itok_range⟩
    · exact h1.elim
  · exact h1.elim
theorem ji_range2 {tg : Expr} {p : Pos} {f : M (List D)} (V : Nm X N sc raw) (hG : okG sc "range" = true) (hm : X.mg "range" = none) (ja : JA X W [a, b] f) (hs : starEach [a, b] X.env = [(false, eval a X.env), (false, eval b X.env)] := by rfl) (hs2 : starEach [b] X.env = [(false, eval b X.env)] := by rfl) :
    JI X W tg (.Call (.Name "range" p) [a, b] [] pos) (mRng2 f) := by
  have hg := (V.g hG).1
  obtain ⟨t, q, h⟩ := ja.ex
  refine ⟨⟨_, pi_range2 hg hm q hs hs2, fun ps σ Hf H env S R z => ?_⟩⟩
  refine h ps σ Hf H env S _ (EG.bnd z fun ds e1 Hf1 H1 x1 S1 h1 vs r => ?_)
  split at h1
  · rename_i i j
    split at h1
    · rename_i hc
      cases r with
      | cons r1 r2 => cases r2 with
        | cons r3 r4 => cases r4; rw [r1.int_inv, r3.int_inv]; exact ⟨i, j, rfl, ⟨hc.1.1, hc.1.2, hc.2.1, hc.2.2⟩, h1.ret S1 _ itok_range⟩
    · exact h1.elim
  · exact h1.elim
theorem sqL_inj_len : True := trivial

/-! ### raise -/
/-- what a class over ValueError without __init__ bears -/
structure ExcR (K : PySem.W.Frag) (mg : MG) (x : Str) (C : Addr) : Prop where
  xP : PySem.W.excIn K C [.type "ValueError", .type "Exception", .type "BaseException", .type "object"] "ValueError.__new__" = true
  gP : mg x = some (.ref C)
  kP : PySem.W.keepIn K (.ref C) = true
  bP : PySem.W.subIn K (.ref C) (.type "BaseException") = some true
  tP : PySem.W.typeIn K (.ref C) = some (.type "type")
def mRaise (x : Str) : M Fl := fun env => .exc x none env
theorem js_raise {x m : Str} {j : Nat} {p p2 pos2 : Pos} {Cc : Addr} (C : CtxOk X W) (V : Nm X N sc raw) (hG : okG sc x = true) (E : ExcR X.K X.mg x Cc) :
    JS X W (.Raise (some (.Call (.Name x p) [.Constant (.str m) j p2] [] pos)) none pos2) (mRaise x) := by
  obtain ⟨hg, hdb, _⟩ := V.g hG
  refine ⟨⟨_, L2N.ps_raise C.calm C.tk (L2N.pmk_own PySem.F.excBase_ValueError E.xP E.gP E.kP (raises_own E.bP E.tP) hg hdb), fun ps σ Hf H env S De z => ?_⟩⟩
  exact z _ _ σ Hf H (Ex.refl _) S ⟨E.gP, rfl⟩
end

/-! ### defs -/
inductive Rs where
  | ok (d : D) | exc (x : Str) (p : Option D) | stuck
/-- a def is worth F: it takes what stands as it stands, and hands back what is new (or what it was handed) -/
def spP (K : PySem.W.Frag) (mg : MG) (n : Nat) (F : List D → Rs) : Sp := fun vs H Q E => vs.length = n ∧ ∃ Hf ds, Ex Hf H ∧ Rps K mg Hf vs ds ∧ match F ds with
  | .ok d => ∀ v Hf' H', Ex Hf Hf' → Ex Hf' H' → (∀ a o, H a = some o → Hf a = none → H' a = some o ∧ Hf' a = none) → Rp K mg Hf' v d → Q v H'
  | .exc x p => ∀ cls dd Hf' H', Ex Hf Hf' → Ex Hf' H' → (∀ a o, H a = some o → Hf a = none → H' a = some o ∧ Hf' a = none) → IsExc K mg Hf' x p cls dd → E cls dd H'
  | .stuck => False
def envOf (n : Nat) (ds : List D) : DEnv := ds.map Sl.val ++ List.replicate (n - ds.length) .no
/-- the body's worth, as a function of what is handed in; n: how many names the def has -/
def runF (n : Nat) (f : M Fl) (ds : List D) : Rs := match f (envOf n ds) with
  | .ok (.rt d) _ => .ok d
  | .ok .nx _ => .ok .non
  | .exc x p _ => .exc x p
  | _ => .stuck
theorem sr_start {K : PySem.W.Frag} {mg : MG} {Hf H : Hp} {vs : List V} {ds : List D} {N : List Str} (x : Ex Hf H) (r : Rps K mg Hf vs ds) (hn : vs.length ≤ N.length) :
    SR K mg ⟨[], fun a => if (Hf a).isSome then none else H a⟩ Hf H (L2.start N vs) (envOf N.length ds) := by
  have hl := r.length
  have noown : ∀ (i : Nat) (k : Option Nat) (l : OD), (envOf N.length ds)[i]? ≠ some (.own k l) := fun i k l h => by
    unfold envOf at h
    by_cases hi : i < ds.length
    · rw [List.getElem?_append_left (by simpa using hi), List.getElem?_map] at h
      cases q : ds[i]? with
      | none => rw [q] at h; cases h
      | some d => rw [q] at h; cases h
    · rw [List.getElem?_append_right (by simpa using hi), List.getElem?_replicate] at h
      split at h <;> cases h
  refine ⟨x, ?_, fun i s h => ?_, fun i j k k' l l' p _ h1 => (noown i k l h1).elim, fun a o h => ?_⟩
  · unfold L2.start envOf
    simp only [List.length_append, List.length_map, List.length_replicate, hl]
  · unfold envOf at h
    unfold L2.start
    by_cases hi : i < ds.length
    · rw [List.getElem?_append_left (by simpa using hi), List.getElem?_map] at h
      cases q : ds[i]? with
      | none => rw [q] at h; cases h
      | some d =>
        rw [q] at h; cases h
        obtain ⟨v, h1, h2⟩ := r.get q
        exact ⟨some v, by rw [List.getElem?_append_left (by simp; omega), List.getElem?_map, h1]; rfl, v, rfl, h2⟩
    · rw [List.getElem?_append_right (by simpa using hi), List.getElem?_replicate] at h
      split at h
      · rename_i hlt
        cases h
        refine ⟨none, ?_, trivial⟩
        rw [List.getElem?_append_right (by simp; omega), List.getElem?_replicate]
        simp only [List.length_map] at hlt ⊢
        rw [if_pos (by omega)]
      · cases h
  · dsimp only at h
    split at h
    · cases h
    · rename_i hn
      refine ⟨h, ?_, fun i k l q => (noown i k l q).elim⟩
      cases q : Hf a with
      | none => rfl
      | some u => rw [q] at hn; exact absurd rfl hn
theorem fg_back {K : PySem.W.Frag} {mg : MG} {Hf H Hf' H' : Hp} {σ : L2.St} {env : DEnv} (S : SR K mg ⟨[], fun a => if (Hf a).isSome then none else H a⟩ Hf' H' σ env) : ∀ a o, H a = some o → Hf a = none → H' a = some o ∧ Hf' a = none := fun a o h n => by
  obtain ⟨h1, h2, _⟩ := S.fg a o (by dsimp only; rw [n]; exact h)
  exact ⟨h1, h2⟩
section
variable {P : Program} {w : World} {K : PySem.W.Frag} {mg : MG} {base : Heap}
/-- as Fun.okX, the exceptions' context told -/
theorem okN {x qual : Str} {st : Stmt} {f : Addr} {fd : FuncData} {N ps : List Str} {k : Nat} {sp : Sp} (F : Fun K x qual st f fd) (S : FnScope N ps (defScope st)) (len : ∀ vs H Q E, sp vs H Q E → vs.length = ps.length)
    (hb : ∀ (cdv : Value) (A : Around) (outer : List Env) (s : Shared) (H : Hp) (vs : List V) (Q : VK) (E : XK), Room k (A.deeper (envOfC qual (defScope st) s.heap.objs.size f cdv)) → sp vs H Q E →
      ∃ t, PSs (cxOf (L2N.CX P w) P w K mg base N qual (defScope st) f cdv A outer s H E) (defBody st) t ∧ t { nx := fun _ H' => Q .non H', rt := Q } (L2.start N vs) H) : FnOk P w K mg base (L2N.CX P w) (k + 1) f fd ps sp := by
  obtain ⟨oc, od, kV, doc, pm, an, cdv, ct, osl, e1, lk, hc⟩ := F.ex
  subst e1
  exact fn_of lk hc S len fun A outer s H vs Q E r h => hb cdv A outer s H vs Q E r h
/-- the context of a def's own body -/
structure Df (X : Cx) : Prop where
  hs : X.stack = X.env :: X.outer
  hf : X.env.frame = some X.env.locals
/-- THE RULE for a def -/
theorem fn_ok {x qual : Str} {st : Stmt} {f : Addr} {fd : FuncData} {N ps : List Str} {k : Nat} {g : M Fl} (F : Fun K x qual st f fd) (S : FnScope N ps (defScope st))
    (hbody : ∀ (X : Cx) (W : WX), X.prog = P → X.w = w → X.K = K → X.mg = mg → X.base = base → Room k X.A → CtxOk X W → Nm X N (defScope st) (defScope st) → Df X → JSs X W (defBody st) g) (hle : ps.length ≤ N.length := by decide) :
    FnOk P w K mg base (L2N.CX P w) (k + 1) f fd ps (spP K mg ps.length (runF N.length g)) := by
  refine okN F S (fun vs H Q E h => h.1) (fun cdv A outer s H vs Q E hr h => ?_)
  obtain ⟨hl, Hf, ds, x, r, hF⟩ := h
  obtain ⟨t, p, ht⟩ := (hbody (cxOf (L2N.CX P w) P w K mg base N qual (defScope st) f cdv A outer s H E) (fun cls d _ H => E cls d H) rfl rfl rfl rfl rfl hr ⟨rfl, hr.units, passes_of rfl, L2N.takes_of rfl rfl rfl rfl⟩ ⟨rfl, rfl, S.nd, S.kind, fun _ _ => rfl⟩ ⟨rfl, rfl⟩).ex
  refine ⟨t, p, ht _ _ Hf H _ (sr_start x r (by omega)) _ ?_⟩
  unfold runF at hF
  cases q : g (envOf N.length ds) with
  | ok fl e' =>
    rw [q] at hF
    cases fl with
    | nx => exact fun σ' Hf' H' x' S' => hF _ Hf' H' x' S'.ex (fg_back S') .non
    | rt d => exact fun σ' Hf' H' x' S' v rv => hF v Hf' H' x' S'.ex (fg_back S') rv
    | bk => exact hF.elim
    | ct => exact hF.elim
  | exc y p e' => rw [q] at hF; exact fun cls dd σ' Hf' H' x' S' z => hF cls dd Hf' H' x' S'.ex (fg_back S') z
  | stuck => rw [q] at hF; exact hF.elim
/-- another function that is as much where it is not stuck -/
theorem fn_imp {f : Addr} {fd : FuncData} {ps : List Str} {k n : Nat} {F F' : List D → Rs} (h : FnOk P w K mg base (L2N.CX P w) k f fd ps (spP K mg n F)) (e : ∀ ds, ds.length = n → F' ds ≠ .stuck → F ds = F' ds) :
    FnOk P w K mg base (L2N.CX P w) k f fd ps (spP K mg n F') := by
  refine h.imp fun vs H Q E q => ?_
  obtain ⟨hl, Hf, ds, x, r, hF⟩ := q
  refine ⟨hl, Hf, ds, x, r, ?_⟩
  rw [e ds (by rw [← r.length]; exact hl) (fun z => by rw [z] at hF; exact hF)]
  exact hF
end

/-! ### calls of defs -/
structure Cal (X : Cx) (x : Str) (n : Nat) (F : List D → Rs) : Prop where
  ex : ∃ k f fd ps, FnOk X.prog X.w X.K X.mg X.base (L2N.CX X.prog X.w) k f fd ps (spP X.K X.mg n F) ∧ Room k X.A ∧ X.mg x = some (.ref f) ∧ PySem.W.keepIn X.K (.ref f) = true ∧ Binds X.K fd ps []
def mCall (f : M (List D)) (F : List D → Rs) : M D := bnd f fun ds env => match F ds with
  | .ok d => .ok d env | .exc x p => .exc x p env | .stuck => .stuck
section
variable {X : Cx} {W : WX} {e : Expr} {es : List Expr} {pos : Pos} {N : List Str} {sc raw : Scope}
/-- behind a call: what the caller had stands -/
theorem SR.after {K : PySem.W.Frag} {mg : MG} {ps : Fg} {Hf H Hf' H' : Hp} {σ : L2.St} {env : DEnv} (S : SR K mg ps Hf H σ env) (x : Ex Hf Hf') (y : Ex Hf' H') (z : ∀ a o, H a = some o → Hf a = none → H' a = some o ∧ Hf' a = none) : SR K mg ps Hf' H' σ env := by
  refine ⟨y, S.len, fun i s h => ?_, S.ap, fun a o h => ?_⟩
  · obtain ⟨v, hv, r⟩ := S.sl i s h
    refine ⟨v, hv, ?_⟩
    cases s with
    | no => trivial
    | val d => obtain ⟨u, a, b⟩ := r; exact ⟨u, a, b.mono x⟩
    | own k od =>
      obtain ⟨p, o, a, b, c, d, e⟩ := r
      obtain ⟨z1, z2⟩ := z p o c b
      exact ⟨p, o, a, z2, z1, d.mono x, e⟩
  · obtain ⟨h1, h2, h3⟩ := S.fg a o h
    obtain ⟨z1, z2⟩ := z a o h1 h2
    exact ⟨z1, z2, h3⟩
theorem sp_use {n : Nat} {F : List D → Rs} {ps : Fg} {σ : L2.St} {Hf H : Hp} {env : DEnv} {vs : List V} {ds : List D} {Q : VK} (S : SR X.K X.mg ps Hf H σ env) (r : Rps X.K X.mg Hf vs ds) (hn : ds.length = n)
    (h : EG X.K X.mg ps W Hf σ (Pd X.K X.mg Q) ((match F ds with | .ok d => fun env => Res.ok d env | .exc x p => fun env => .exc x p env | .stuck => fun _ => .stuck : M D) env)) : spP X.K X.mg n F vs H Q (WE W σ) := by
  refine ⟨by rw [r.length]; exact hn, Hf, ds, S.ex, r, ?_⟩
  cases q : F ds with
  | ok d => rw [q] at h; exact fun v Hf' H' x y z rv => h Hf' H' x (S.after x y z) v rv
  | exc c p => rw [q] at h; exact fun cls dd Hf' H' x y z w => h cls dd Hf' H' x (S.after x y z) w
  | stuck => rw [q] at h; exact h
theorem je_call {x : Str} {p : Pos} {n : Nat} {F : List D → Rs} {f : M (List D)} (C : CtxOk X W) (V : Nm X N sc raw) (hG : okG sc x = true) (c : Cal X x n F) (ja : JA X W (e :: es) f) (hn : ∀ env ds env', f env = .ok ds env' → ds.length = n)
    (he : starEach (e :: es) X.env = (false, eval e X.env) :: starEach es X.env := by rfl) (hpl : (backTo pos (starEach es X.env)).any (·.1) = false := by rfl) :
    JE X W (.Call (.Name x p) (e :: es) [] pos) (mCall f F) := by
  obtain ⟨hg, hdb, _⟩ := V.g hG
  obtain ⟨k, fa, fd, ps', G, hr, hm, hk, hb⟩ := c.ex
  obtain ⟨t, q, h⟩ := ja.ex
  refine ⟨⟨_, pe_callS G hr hg hm hk hb (fun σ => L2N.passAt C.tk σ) q hdb he hpl, fun ps σ Hf H env S Q z => ?_⟩⟩
  have hq : ∀ ds env', f env = .ok ds env' → ds.length = n := fun ds env' w => hn env ds env' w
  unfold mCall bnd at z
  refine h ps σ Hf H env S _ ?_
  cases w : f env with
  | ok ds e1 =>
    rw [w] at z
    intro Hf1 H1 x1 S1 vs r
    refine sp_use (W := W) S1 r (hq ds e1 w) ?_
    have z := EG.mono x1 z
    cases q : F ds with
    | ok d => simp only [q] at z ⊢; exact z
    | exc c p => simp only [q] at z ⊢; exact z
    | stuck => simp only [q] at z ⊢; exact z
  | exc y p e1 => rw [w] at z; exact z
  | stuck => rw [w] at z; exact z
end
/-- how many arguments come -/
def alen (n : Nat) (f : M (List D)) : Prop := ∀ env ds env', f env = .ok ds env' → ds.length = n
theorem alen_nil : alen 0 aNil := fun env ds env' h => by
  unfold aNil ret at h; cases h; rfl
theorem alen_cons {n : Nat} {f : M D} {g : M (List D)} (h : alen n g) : alen (n + 1) (aCons f g) := fun env ds env' q => by
  unfold aCons bnd at q
  cases w : f env with
  | ok d e1 =>
    rw [w] at q
    dsimp only at q
    cases w2 : g e1 with
    | ok ds2 e2 => rw [w2] at q; cases q; rw [List.length_cons, h _ _ _ w2]
    | exc x p e => rw [w2] at q; cases q
    | stuck => rw [w2] at q; cases q
  | exc x p e => rw [w] at q; cases q
  | stuck => rw [w] at q; cases q
end DL

/-! DLd: sequences: +, *, subscripts, slices, own lists, comprehensions, walks, isinstance. -/
namespace DL
open PySem PySem.Spec PyProof.Rows L2 Evl
section
variable {X : Cx} {W : WX} {a b c e : Expr} {es : List Expr} {fa fb fc : M D} {pos : Pos} {f : M (List D)} {N : List Str} {sc raw : Scope}

/-! ### + -/
def rCatL (K : PySem.W.Frag) : R2 := fun x y H Q => ∃ l b xs zs, x = .ref l ∧ y = .ref b ∧ SqL K H l xs ∧ SqL K H b zs ∧ xs.length + zs.length ≤ sizeLine ∧ ∀ p, H p = none → Q (.ref p) (upd H p (.lst (xs ++ zs)))
theorem op_catL : OpR X (binaryOp .Add) (rCatL X.K) := by
  intro pins s σ H x y v u Q I rx ry h
  obtain ⟨l, b, xs, zs, rfl, rfl, hH, hB, hz, q⟩ := h
  cases rx
  cases ry
  obtain ⟨its, r, ⟨⟨cls, dd, data, sl⟩, n, ho, hc, hdd, hd⟩, _⟩ := I.list hH
  obtain ⟨its2, r2, ⟨⟨cls2, dd2, data2, sl2⟩, n2, ho2, hc2, hdd2, hd2⟩, _⟩ := I.list hB
  simp only at hc hd hc2 hd2
  subst hc hd hc2 hd2
  have e : its.toArray ++ its2.toArray = (its ++ its2).toArray := by simp
  have hl := r.length
  have hl2 := r2.length
  refine concat_meets ⟨_, ho, rfl⟩ ⟨_, ho2, rfl⟩ noFill_list_add seq_list_add PySem.F.slot_list_add PySem.F.entry_list_add (PySem.F.args_list_add_2 _ _) (list_addW _ _ its.toArray its2.toArray n n2 dd dd2 sl sl2 (by simp only [List.size_toArray]; omega)) ⟨ho, ho2, ?_⟩
  rw [e]
  exact ⟨.ref _, _, I.lnew (t' := s.toks) (r.append r2) (by rw [List.length_append]; omega), rfl, q _ I.fresh⟩
def mAdd (x y : D) : M D := match x, y with
  | .int i, .int j => ret (.int (i + j))
  | .str s, .str t => if szOk (s.length + t.length) then ret (.str (s ++ t)) else stk
  | .lst l, .lst m => if szOk (l.length + m.length) then ret (.lst (l ++ m)) else stk
  | .tup l, .tup m => if l.isEmpty = false ∧ szOk (l.length + m.length) then ret (.tup (l ++ m)) else stk
  | _, _ => stk
theorem new_lst {ps : Fg} {σ : L2.St} {Hf H : Hp} {env : DEnv} {Q : VK} {l : List D} {vs : List V} (S : SR X.K X.mg ps Hf H σ env) (r : Rps X.K X.mg Hf vs l)
    (q : EG X.K X.mg ps W Hf σ (Pd X.K X.mg Q) (ret (D.lst l) env)) : ∀ p, H p = none → Q (.ref p) (upd H p (.lst vs)) := fun p np =>
  q _ _ (Ex.new (fresh_back S.ex np)) (S.froze np) _ (.lst (.inl (.inl upd_same)) (r.mono (Ex.new (fresh_back S.ex np))))
theorem new_tup {ps : Fg} {σ : L2.St} {Hf H : Hp} {env : DEnv} {Q : VK} {l : List D} {vs : List V} (S : SR X.K X.mg ps Hf H σ env) (r : Rps X.K X.mg Hf vs l)
    (q : EG X.K X.mg ps W Hf σ (Pd X.K X.mg Q) (ret (D.tup l) env)) : ∀ p, H p = none → Q (.ref p) (upd H p (.tup vs)) := fun p np =>
  q _ _ (Ex.new (fresh_back S.ex np)) (S.froze np) _ (.tup (.inl (.inl upd_same)) (r.mono (Ex.new (fresh_back S.ex np))))
theorem je_add (ja : JE X W a fa) (jb : JE X W b fb) : JE X W (.BinOp a .Add b pos) (m2 fa fb mAdd) := by
  refine je_op (op_add.or (op_add_str.or (op_catL.or op_catT))) (fun ps σ Hf H env x y dx dy Q S rx ry q => ?_) ja jb
  unfold mAdd at q
  split at q
  · rw [rx.int_inv, ry.int_inv]; exact .inl ⟨_, _, rfl, rfl, q.ret S _ (.int _)⟩
  · split at q
    · rename_i hz
      rw [rx.str_inv, ry.str_inv]; exact .inr (.inl ⟨_, _, rfl, rfl, hz, q.ret S _ (.str _)⟩)
    · exact q.elim
  · split at q
    · rename_i hz
      cases rx with
      | lst hx r1 => cases ry with
        | lst hy r2 => exact .inr (.inr (.inl ⟨_, _, _, _, rfl, rfl, ex_l S.ex hx, ex_l S.ex hy, by rw [r1.length, r2.length]; exact hz, new_lst S (r1.append r2) q⟩))
    · exact q.elim
  · split at q
    · rename_i l m hz
      cases rx with
      | tup hx r1 => cases ry with
        | tup hy r2 =>
          refine .inr (.inr (.inr ⟨_, _, _, _, rfl, rfl, ex_t S.ex hx, ex_t S.ex hy, ?_, by rw [r1.length, r2.length]; exact hz.2, fun w => ?_, fun _ => new_tup S (r1.append r2) q⟩))
          · intro w; subst w; cases r1; cases hz.1
          · subst w
            cases r2
            rw [List.append_nil] at q
            exact q.ret S _ (.tup hx r1)
    · exact q.elim
  · exact q.elim
/-! ### * -/
theorem je_mul (ja : JE X W a fa) (jb : JE X W b fb) : JE X W (.BinOp a .Mult b pos) (m2 fa fb (g2i iMul)) := je_op op_mulX (rj_rI (C := IntMulOk) fun _ _ _ _ _ => .int _) ja jb
def repOk (n : Nat) (k : Int) : Prop := -(2 ^ 63) ≤ k ∧ k < 2 ^ 63 ∧ n * k.toNat ≤ sizeLine
instance (n : Nat) (k : Int) : Decidable (repOk n k) := by unfold repOk; infer_instance
theorem rps_rep {K : PySem.W.Frag} {mg : MG} {H : Hp} {vs : List V} {ds : List D} (r : Rps K mg H vs ds) : ∀ n, Rps K mg H (List.replicate n vs).flatten (List.replicate n ds).flatten
  | 0 => .nil
  | n + 1 => by
    rw [List.replicate_succ, List.replicate_succ, List.flatten_cons, List.flatten_cons]
    exact r.append (rps_rep r n)
/-- [..] * n -/
def mRep (f : M (List D)) (fb : M D) : M D := bnd f fun ds => if szOk ds.length then bnd fb fun y => match y with
  | .int k => if repOk ds.length k then ret (.lst (List.replicate k.toNat ds).flatten) else stk
  | _ => stk else stk
theorem je_rep {p2 : Pos} (ja : JA X W es f) (jb : JE X W b fb) : JE X W (.BinOp (.List es p2) .Mult b pos) (mRep f fb) := by
  obtain ⟨t, p, h⟩ := ja.ex
  obtain ⟨tb, pb, hb⟩ := jb.ex
  refine ⟨⟨_, pe_op op_rep (pe_lst p) pb, fun ps σ Hf H env S Q z => ?_⟩⟩
  refine h ps σ Hf H env S _ (EG.bnd z fun ds e1 Hf1 H1 x1 S1 h1 vs r => ?_)
  split at h1
  · rename_i hz
    refine ⟨by rw [r.length]; exact hz, fun l nl => ?_⟩
    have S2 := S1.froze (o := .lst vs) nl
    have x2 : Ex Hf1 (upd Hf1 l (.lst vs)) := Ex.new (fresh_back S1.ex nl)
    refine hb ps σ _ _ e1 S2 _ (EG.bnd (EG.mono x2 h1) fun y e3 Hf3 H3 x3 S3 h3 v rv => ?_)
    split at h3
    · rename_i k
      split at h3
      · rename_i hc
        rw [rv.int_inv]
        refine ⟨l, k, vs, rfl, rfl, S3.ex _ _ (x3 _ _ upd_same), hc.1, hc.2.1, by rw [r.length]; exact hc.2.2, ?_⟩
        exact new_lst S3 ((rps_rep (r.mono (x2.trans x3)) _)) h3
      · exact h3.elim
    · exact h3.elim
  · exact h1.elim

/-! ### subscripts -/
def ixE {α : Type} (l : List α) (k : Int) : Option α := atI l k
theorem rps_at {K : PySem.W.Frag} {mg : MG} {H : Hp} {vs : List V} {ds : List D} {k : Int} {d : D} (r : Rps K mg H vs ds) (h : atI ds k = some d) : ∃ v, atI vs k = some v ∧ Rp K mg H v d := by
  unfold atI at h ⊢
  rw [r.length]
  cases q : ixN ds.length k with
  | none => rw [q] at h; cases h
  | some j =>
    rw [q] at h
    exact r.get h
def oM : Option D → M D
  | some d => ret d
  | none => stk
def dIx (x : D) (k : Int) : M D := match x with
  | .lst l => oM (atI l k)
  | .tup l => oM (atI l k)
  | .str z => if z.length ≤ sizeLine then oM ((atI z.cps.toList k).map fun c => .str ⟨#[c]⟩) else stk
  | _ => stk
def mIx (x y : D) : M D := match y with | .int k => dIx x k | _ => stk
theorem rj_ix : RJ X W (rIx X.K) mIx := by
  intro ps σ Hf H env x y dx dy Q S rx ry q
  unfold mIx at q
  split at q
  · rename_i k
    rw [ry.int_inv]
    cases dx with
    | lst l =>
      have q : EG X.K X.mg ps W Hf σ (Pd X.K X.mg Q) (oM (atI l k) env) := q
      cases hd : atI l k with
      | some d =>
        rw [hd] at q
        cases rx with
        | lst hx r => obtain ⟨v, hv, rv⟩ := rps_at r hd; exact .inl ⟨_, _, _, _, rfl, rfl, ex_l S.ex hx, hv, q.ret S _ rv⟩
      | none => rw [hd] at q; exact q.elim
    | tup l =>
      have q : EG X.K X.mg ps W Hf σ (Pd X.K X.mg Q) (oM (atI l k) env) := q
      cases hd : atI l k with
      | some d =>
        rw [hd] at q
        cases rx with
        | tup hx r => obtain ⟨v, hv, rv⟩ := rps_at r hd; exact .inr (.inl ⟨_, _, _, _, rfl, rfl, ex_t S.ex hx, hv, q.ret S _ rv⟩)
      | none => rw [hd] at q; exact q.elim
    | str z =>
      have q : EG X.K X.mg ps W Hf σ (Pd X.K X.mg Q) ((if z.length ≤ sizeLine then oM ((atI z.cps.toList k).map fun c => .str ⟨#[c]⟩) else stk) env) := q
      by_cases hz : z.length ≤ sizeLine
      · rw [if_pos hz] at q
        cases hc : atI z.cps.toList k with
        | some c => rw [hc] at q; rw [rx.str_inv]; exact .inr (.inr ⟨_, _, _, rfl, rfl, hz, hc, q.ret S _ (.str _)⟩)
        | none => rw [hc] at q; exact q.elim
      · rw [if_neg hz] at q; exact q.elim
    | non => exact q.elim
    | bl b => exact q.elim
    | int i => exact q.elim
    | obj c ns vs => exact q.elim
    | opq a => exact q.elim
  · exact q.elim
theorem je_ix (ja : JE X W a fa) (jb : JE X W b fb) (hs : PlainIx b := by exact fun _ _ => rfl) : JE X W (.Subscript a b pos) (m2 fa fb mIx) := by
  obtain ⟨ta, pa, ha⟩ := ja.ex
  obtain ⟨tb, pb, hb⟩ := jb.ex
  exact ⟨⟨_, pe_ix ix_seq pa pb hs, fun ps σ Hf H env S Q h => tOp_ok ha hb rj_ix S h⟩⟩
/-- the slot bears something -/
def has (i : Nat) {α : Type} (f : M α) : M α := fun env => match env[i]? with
  | some (.val _) => f env
  | some (.own _ _) => f env
  | _ => .stuck
/-- what the slot holds, read as data -/
def slD (env : DEnv) (i : Nat) : Option D := match env[i]? with
  | some (.val d) => some d
  | some (.own _ (.lst l)) => some (.lst l)
  | _ => none
def onSl (i : Nat) (g : D → M D) : M D := fun env => match slD env i with | some d => g d env | none => .stuck
theorem has_slot {K : PySem.W.Frag} {mg : MG} {ps : Fg} {Hf H : Hp} {σ : L2.St} {env : DEnv} {α : Type} {P : α → Hp → Hp → Prop} {f : M α} {i : Nat} (S : SR K mg ps Hf H σ env) (h : EG K mg ps W Hf σ P (has i f env)) :
    ∃ v, σ[i]? = some (some v) ∧ EG K mg ps W Hf σ P (f env) := by
  unfold has at h
  split at h
  · rename_i d q; obtain ⟨v, h1, _⟩ := S.val q; exact ⟨v, h1, h⟩
  · rename_i k o q; obtain ⟨p, _, h1, _⟩ := S.own q; exact ⟨_, h1, h⟩
  · exact h.elim
/-- the slot's value, seen where its object may still be changed -/
theorem sl_see {K : PySem.W.Frag} {mg : MG} {ps : Fg} {Hf H : Hp} {σ : L2.St} {env : DEnv} {i : Nat} {v : V} {d : D} (S : SR K mg ps Hf H σ env) (hv : σ[i]? = some (some v)) (h : slD env i = some d) :
    Rp K mg Hf v d ∨ ∃ p vs l, v = .ref p ∧ d = .lst l ∧ H p = some (.lst vs) ∧ Rps K mg Hf vs l := by
  unfold slD at h
  split at h
  · rename_i d' q
    cases h
    obtain ⟨u, h1, h2⟩ := S.val q
    rw [hv] at h1; cases h1
    exact .inl h2
  · rename_i k l q
    cases h
    obtain ⟨p, o, h1, _, h3, ⟨vs, rfl, r⟩, _⟩ := S.own q
    rw [hv] at h1; cases h1
    exact .inr ⟨p, vs, l, rfl, rfl, h3, r⟩
  · cases h
/-- x[e], x a name that may own its list -/
def mIxN (i : Nat) (fb : M D) : M D := has i (bnd fb fun y => onSl i fun x => mIx x y)
theorem je_ixN (V : Nm X N sc raw) {i : Nat} {x : Str} {p2 : Pos} (hv : okV N sc i x = true) (jb : JE X W b fb) (hs : PlainIx b := by exact fun _ _ => rfl) : JE X W (.Subscript (.Name x p2) b pos) (mIxN i fb) := by
  obtain ⟨hN, hv, hd, hcd⟩ := V.v hv
  obtain ⟨tb, pb, hb⟩ := jb.ex
  refine ⟨⟨_, pe_ix ix_seq (pe_var hN hv hd hcd) pb hs, fun ps σ Hf H env S Q z => ?_⟩⟩
  obtain ⟨v, hσ, z⟩ := has_slot S z
  refine ⟨v, hσ, hb ps σ Hf H env S _ (EG.bnd z fun y e1 Hf1 H1 x1 S1 h1 u ru => ?_)⟩
  unfold onSl at h1
  cases q : slD e1 i with
  | none => rw [q] at h1; exact h1.elim
  | some d =>
    rw [q] at h1
    rcases sl_see S1 hσ q with r | ⟨p, vs, l, rfl, rfl, hp, r⟩
    · exact rj_ix ps σ Hf1 H1 e1 v u d y Q S1 r ru h1
    · cases y with
      | int k =>
        have h1 : EG X.K X.mg ps W Hf1 σ (Pd X.K X.mg Q) (oM (atI l k) e1) := h1
        cases hd : atI l k with
        | some d =>
          rw [hd] at h1
          obtain ⟨v, hv, rv⟩ := rps_at r hd
          rw [ru.int_inv]
          exact .inl ⟨_, _, _, _, rfl, rfl, .inl (.inl hp), hv, h1.ret S1 _ rv⟩
        | none => rw [hd] at h1; exact h1.elim
      | non => exact h1.elim
      | bl b => exact h1.elim
      | str s => exact h1.elim
      | tup s => exact h1.elim
      | lst s => exact h1.elim
      | obj c ns vs => exact h1.elim
      | opq a => exact h1.elim
/-- len(x), x a name that may own its list -/
theorem je_lenN (V : Nm X N sc raw) {i : Nat} {x : Str} {p p2 : Pos} (hv : okV N sc i x = true) (hG : okG sc "len" = true) (hm : X.mg "len" = none) (he : starEach [.Name x p2] X.env = [(false, eval (.Name x p2) X.env)] := by rfl) : JE X W (.Call (.Name "len" p) [.Name x p2] [] pos) (has i (onSl i fun d => cLen [d])) := by
  obtain ⟨hN, hv, hd, hcd⟩ := V.v hv
  obtain ⟨hg, _, _⟩ := V.g hG
  refine ⟨⟨_, pe_callB (call_len_seq.or call_len_str) hg hm (by decide +kernel) (pa_cons (pe_var hN hv hd hcd) pa_nil he) (by decide) (by decide) he rfl, fun ps σ Hf H env S Q z => ?_⟩⟩
  obtain ⟨v, hσ, z⟩ := has_slot S z
  refine ⟨v, hσ, ?_⟩
  unfold onSl at z
  cases q : slD env i with
  | none => rw [q] at z; exact z.elim
  | some d =>
    rw [q] at z
    rcases sl_see S hσ q with r | ⟨p, vs, l, rfl, rfl, hp, r⟩
    · cases d with
      | lst l => cases r with
        | lst hq r => exact .inl ⟨_, _, rfl, .inl (ex_l S.ex hq), by rw [r.length]; exact z.ret S _ (.int _)⟩
      | tup l => cases r with
        | tup hq r => exact .inl ⟨_, _, rfl, .inr (ex_t S.ex hq), by rw [r.length]; exact z.ret S _ (.int _)⟩
      | str s =>
        rw [r.str_inv]
        have z : EG X.K X.mg ps W Hf σ (Pd X.K X.mg Q) ((if s.length ≤ sizeLine then ret (D.int s.length) else stk) env) := z
        by_cases hz : s.length ≤ sizeLine
        · rw [if_pos hz] at z; exact .inr ⟨_, rfl, hz, z.ret S _ (.int _)⟩
        · rw [if_neg hz] at z; exact z.elim
      | non => exact z.elim
      | bl b => exact z.elim
      | int b => exact z.elim
      | obj c ns vs => exact z.elim
      | opq a => exact z.elim
    · exact .inl ⟨_, _, rfl, .inl (.inl (.inl hp)), by rw [r.length]; exact z.ret S _ (.int _)⟩
/-! ### isinstance, for a built-in type -/
theorem je_isi {T : String} {p p2 : Pos} {x : Str} (V : Nm X N sc raw) (hG : okG sc "isinstance" = true) (hGT : okG sc x = true) (hm : X.mg "isinstance" = none) (hT : X.mg x = none) (hv : bootBuiltins x = some (.type T)) (ja : JE X W a fa)
    (he : starEach [a, .Name x p2] X.env = (false, eval a X.env) :: starEach [.Name x p2] X.env := by rfl) (he2 : starEach [.Name x p2] X.env = [(false, eval (.Name x p2) X.env)] := by rfl) (hpl : (backTo pos (starEach [.Name x p2] X.env)).any (·.1) = false := by rfl) :
    JE X W (.Call (.Name "isinstance" p) [a, .Name x p2] [] pos) (bnd fa fun d => cIsi T [d]) := by
  obtain ⟨hg, _, _⟩ := V.g hG
  obtain ⟨hgT, hd, hnn⟩ := V.g hGT
  obtain ⟨t, q, h⟩ := ja.ex
  refine ⟨⟨_, pe_callB call_isi hg hm (by decide +kernel) (pa_cons q (pa_cons (pe_bltn hgT hT hv (v := L2.V.ty T) rfl hnn hd) pa_nil he2) he) (by decide) (by decide) he hpl, fun ps σ Hf H env S Q z => ?_⟩⟩
  refine h ps σ Hf H env S _ (EG.bnd z fun d e1 Hf1 H1 x1 S1 h1 v rv => ?_)
  have key : ∀ (b : Bool), kitB (tyD d) T = some b → (∀ c ns vs, d ≠ .obj c ns vs) → (∀ a, d ≠ .opq a) → EG X.K X.mg ps W Hf1 σ (Pd X.K X.mg Q) (ret (D.bl b) e1) → rIsi X.K [v, L2.V.ty T] H1 Q := fun b hb hno hno2 q => by
    have rv' := rv.mono S1.ex
    have ty : TyX X.K H1 v (.type (tyD d)) := by
      cases rv' with
      | non => exact .base .non
      | bl b => exact .base (.bl b)
      | int b => exact .base (.int b)
      | str b => exact .base (.str b)
      | tup hq r =>
        rcases hq with (hq | ⟨o, hq⟩) | ⟨o, its, n, hk, hc, _⟩
        · exact .base (.tup hq)
        · exact .fTuple hq
        · exact .kTuple hk hc
      | lst hq r =>
        rcases hq with (hq | ⟨o, hq⟩) | ⟨o, its, n, hk, hc, _⟩
        · exact .base (.lst hq)
        · exact .base (.frz hq)
        · exact .kList hk hc
      | obj _ _ _ _ => exact (hno _ _ _ rfl).elim
      | opq _ => exact (hno2 _ rfl).elim
    exact ⟨v, .ty T, _, _, b, rfl, .ty T, ty, kit_ty hb, q.ret S1 _ (.bl _)⟩
  cases d with
  | obj c ns vs => exact h1.elim
  | opq a => exact h1.elim
  | non => unfold cIsi at h1; cases q : kitB (tyD .non) T with
    | none => simp only [q] at h1; exact h1.elim
    | some b => simp only [q] at h1; exact key b q (fun _ _ _ z => nomatch z) (fun _ z => nomatch z) h1
  | bl x => unfold cIsi at h1; cases q : kitB (tyD (.bl x)) T with
    | none => simp only [q] at h1; exact h1.elim
    | some b => simp only [q] at h1; exact key b q (fun _ _ _ z => nomatch z) (fun _ z => nomatch z) h1
  | int x => unfold cIsi at h1; cases q : kitB (tyD (.int x)) T with
    | none => simp only [q] at h1; exact h1.elim
    | some b => simp only [q] at h1; exact key b q (fun _ _ _ z => nomatch z) (fun _ z => nomatch z) h1
  | str x => unfold cIsi at h1; cases q : kitB (tyD (.str x)) T with
    | none => simp only [q] at h1; exact h1.elim
    | some b => simp only [q] at h1; exact key b q (fun _ _ _ z => nomatch z) (fun _ z => nomatch z) h1
  | tup x => unfold cIsi at h1; cases q : kitB (tyD (.tup x)) T with
    | none => simp only [q] at h1; exact h1.elim
    | some b => simp only [q] at h1; exact key b q (fun _ _ _ z => nomatch z) (fun _ z => nomatch z) h1
  | lst x => unfold cIsi at h1; cases q : kitB (tyD (.lst x)) T with
    | none => simp only [q] at h1; exact h1.elim
    | some b => simp only [q] at h1; exact key b q (fun _ _ _ z => nomatch z) (fun _ z => nomatch z) h1
/-! ### comparisons as tests -/
theorem jt_cmp {op : CmpOp} {r : R2} {g : D → D → M D} (ho : OpR X (compareOp op) r) (hr : RJ X W r g) (ja : JE X W a fa) (jb : JE X W b fb) (hm : behindInMarks op b = false := by first | exact nomark _ | rfl) : JT X W (.Compare a [op] [b] pos) (bnd (m2 fa fb g) mB) := by
  obtain ⟨ta, pa, ha⟩ := ja.ex
  obtain ⟨tb, pb, hb⟩ := jb.ex
  refine ⟨⟨_, pt_cmpR ho pa pb hm, fun ps σ Hf H env S Q h => ?_⟩⟩
  refine ha ps σ Hf H env S _ ?_
  have h : EG X.K X.mg ps W Hf σ (Pb Q) (bnd fa (fun x => bnd fb fun y => bnd (g x y) mB) env) := by
    have e : bnd (m2 fa fb g) mB env = bnd fa (fun x => bnd fb fun y => bnd (g x y) mB) env := by
      unfold m2 bnd
      cases fa env with
      | ok x e1 =>
        dsimp only
        cases fb e1 with
        | ok y e2 => rfl
        | exc _ _ _ => rfl
        | stuck => rfl
      | exc _ _ _ => rfl
      | stuck => rfl
    rw [← e]; exact h
  refine EG.bnd h fun x e1 Hf1 H1 x1 S1 h1 v rv => ?_
  refine hb ps σ Hf1 H1 e1 S1 _ (EG.bnd h1 fun y e2 Hf2 H2 x2 S2 h2 u ru => ?_)
  refine hr ps σ Hf2 H2 e2 v u x y _ S2 (rv.mono x2) ru (EG.bnd h2 fun z e3 Hf3 H3 x3 S3 h3 v3 rv3 => ?_)
  unfold mB at h3
  split at h3
  · exact ⟨_, rv3.bl_inv, EG.ret (W := W) (P := Pb Q) h3 S3⟩
  · exact h3.elim
theorem jt_lt (ja : JE X W a fa) (jb : JE X W b fb) : JT X W (.Compare a [.Lt] [b] pos) (bnd (m2 fa fb (g2i (iCmp fun i j => decide (i < j)))) mB) := jt_cmp op_lt (rj_rI0 fun _ _ _ _ _ => .bl _) ja jb
theorem jt_le (ja : JE X W a fa) (jb : JE X W b fb) : JT X W (.Compare a [.LtE] [b] pos) (bnd (m2 fa fb (g2i (iCmp fun i j => decide (i ≤ j)))) mB) := jt_cmp op_le (rj_rI0 fun _ _ _ _ _ => .bl _) ja jb
theorem jt_gt (ja : JE X W a fa) (jb : JE X W b fb) : JT X W (.Compare a [.Gt] [b] pos) (bnd (m2 fa fb (g2i (iCmp fun i j => decide (j < i)))) mB) := jt_cmp op_gt (rj_rI0 fun _ _ _ _ _ => .bl _) ja jb
theorem jt_ge (ja : JE X W a fa) (jb : JE X W b fb) : JT X W (.Compare a [.GtE] [b] pos) (bnd (m2 fa fb (g2i (iCmp fun i j => decide (j ≤ i)))) mB) := jt_cmp op_ge (rj_rI0 fun _ _ _ _ _ => .bl _) ja jb
theorem jt_eq (C : CtxOk X W) (ja : JE X W a fa) (jb : JE X W b fb) : JT X W (.Compare a [.Eq] [b] pos) (bnd (m2 fa fb mEq) mB) := jt_cmp (op_eqD C.hu) rj_eq ja jb
theorem jt_ne (C : CtxOk X W) (ja : JE X W a fa) (jb : JE X W b fb) : JT X W (.Compare a [.NotEq] [b] pos) (bnd (m2 fa fb mNe) mB) := jt_cmp (op_neD C.hu) rj_ne ja jb
theorem jt_isN {j : Nat} {p2 : Pos} (ja : JE X W a fa) : JT X W (.Compare a [.Is] [.Constant .none j p2] pos) (bnd fa fun x => ret (isNon x)) := by
  obtain ⟨ta, pa, ha⟩ := ja.ex
  refine ⟨⟨_, pt_cmpR op_isN pa pe_non (nomark _), fun ps σ Hf H env S Q h => ?_⟩⟩
  refine ha ps σ Hf H env S _ (EG.bnd h fun x e1 Hf1 H1 x1 S1 h1 v rv => ⟨rfl, _, rfl, ?_⟩)
  rw [rv.non_iff]
  have q : Q (isNon x) H1 := EG.ret (W := W) (P := Pb Q) h1 S1
  cases x <;> exact q
theorem jt_isNN {j : Nat} {p2 : Pos} (ja : JE X W a fa) : JT X W (.Compare a [.IsNot] [.Constant .none j p2] pos) (bnd fa fun x => ret (!isNon x)) := by
  obtain ⟨ta, pa, ha⟩ := ja.ex
  refine ⟨⟨_, pt_cmpR op_notN pa pe_non (nomark _), fun ps σ Hf H env S Q h => ?_⟩⟩
  refine ha ps σ Hf H env S _ (EG.bnd h fun x e1 Hf1 H1 x1 S1 h1 v rv => ⟨rfl, _, rfl, ?_⟩)
  rw [rv.non_iff]
  have q : Q (!isNon x) H1 := EG.ret (W := W) (P := Pb Q) h1 S1
  cases x <;> exact q
end
end DL

/-! DLe: callees, the law's own promise, its end. -/
namespace DL
open PySem PySem.Spec PyProof.Rows L2 Evl
/-- a def that stands at the module's name x and is worth F, by level k -/
structure Callee (P : Program) (w : World) (K : PySem.W.Frag) (mg : MG) (base : Heap) (x : Str) (k n : Nat) (F : List D → Rs) : Prop where
  ex : ∃ f fd ps, FnOk P w K mg base (L2N.CX P w) k f fd ps (spP K mg n F) ∧ mg x = some (.ref f) ∧ PySem.W.keepIn K (.ref f) = true ∧ Binds K fd ps []
theorem Callee.cal {X : Cx} {x : Str} {k k' n : Nat} {F : List D → Rs} (c : Callee X.prog X.w X.K X.mg X.base x k n F) (hr : Room k' X.A) (h : k ≤ k' := by decide) : Cal X x n F := by
  obtain ⟨f, fd, ps, G, hm, hk, hb⟩ := c.ex
  exact ⟨⟨k, f, fd, ps, G, hr.mono h, hm, hk, hb⟩⟩
section
variable {P : Program} {w : World} {K : PySem.W.Frag} {mg : MG} {base : Heap}
theorem Callee.imp {x : Str} {k n : Nat} {F F' : List D → Rs} (c : Callee P w K mg base x k n F) (e : ∀ ds, ds.length = n → F' ds ≠ .stuck → F ds = F' ds) : Callee P w K mg base x k n F' := by
  obtain ⟨f, fd, ps, G, hm, hk, hb⟩ := c.ex
  exact ⟨⟨f, fd, ps, fn_imp G e, hm, hk, hb⟩⟩
theorem callee_of {x : Str} {f : Addr} {fd : FuncData} {ps : List Str} {k n : Nat} {F : List D → Rs} (G : FnOk P w K mg base (L2N.CX P w) k f fd ps (spP K mg n F)) (hm : mg x = some (.ref f)) (hk : PySem.W.keepIn K (.ref f) = true) (hb : Binds K fd ps []) : Callee P w K mg base x k n F := ⟨⟨f, fd, ps, G, hm, hk, hb⟩⟩
end
/-- the law's promise: the script, its bits; it hands back True -/
def spL (K : PySem.W.Frag) : Sp := fun vs H Q _ => ∃ (a : Addr) (ns : List Int), vs = [.ref a] ∧ SqL K H a (ns.map V.int) ∧ ns.length ≤ 63 ∧ (∀ z ∈ ns, Builtin.Int.intBits z ≤ 1048576) ∧ ∀ H', Q (.bl true) H'
theorem rps_ofInts {K : PySem.W.Frag} {mg : MG} {H : Hp} : ∀ ns : List Int, Rps K mg H (ns.map V.int) (ns.map D.int)
  | [] => .nil
  | n :: r => .cons (.int n) (rps_ofInts r)
theorem law_of {P : Program} {w : World} {K : PySem.W.Frag} {mg : MG} {base : Heap} {k : Nat} {f : Addr} {fd : FuncData} {ps : List Str} {F : List D → Rs}
    (G : FnOk P w K mg base (L2N.CX P w) k f fd ps (spP K mg 1 F)) (h : ∀ ns : List Int, ns.length ≤ 63 → (∀ z ∈ ns, Builtin.Int.intBits z ≤ 1048576) → F [.lst (ns.map .int)] = .ok (.bl true)) :
    FnOk P w K mg base (L2N.CX P w) k f fd ps (spL K) := by
  refine G.imp fun vs H Q E q => ?_
  obtain ⟨a, ns, rfl, hS, hl, hb, q⟩ := q
  refine ⟨rfl, H, [.lst (ns.map .int)], Ex.refl H, .cons (.lst hS (rps_ofInts ns)) .nil, ?_⟩
  rw [h ns hl hb]
  exact fun v Hf' H' _ _ _ r => by rw [r.bl_inv]; exact q H'
theorem cx_end (P : Program) (w : World) : ∀ (H : Hp) (s : Shared) (e : Value) (s' : Shared), L2N.CX P w [] H s (fun _ _ _ => False) e s' → False := fun H s e s' h => by
  obtain ⟨_, _, _, _, _, _, _, _, _, _, _, _, z⟩ := h
  exact z
end DL

/-! DLf: walks over sequences, comprehensions, list and tuple of a sequence, sums. -/
namespace DL
open PySem PySem.Spec PyProof.Rows L2 Evl
section
variable {X : Cx} {W : WX} {a b c e : Expr} {es : List Expr} {fa fb fc : M D} {pos : Pos} {f : M (List D)} {N : List Str} {sc raw : Scope}
/-! ### what is walked -/
theorem pi_or {tg e : Expr} {w1 w2 : TI} (h : PI X tg e w1) (k : PI X tg e w2) : PI X tg e (fun σ H R => w1 σ H R ∨ w2 σ H R) :=
  ⟨fun pins s σ H R I z => z.elim (h.run pins s σ H R I) (k.run pins s σ H R I)⟩
theorem sqL_same {K : PySem.W.Frag} {H H' : Hp} {a : Addr} {xs ys : List V} (e : Ex H H') (h : SqL K H a xs) (h' : SqL K H' a ys) (inj : SqL K H' a xs → SqL K H' a ys → xs = ys) : xs = ys := inj (ex_l e h) h'
def signsD (z : Str) : List D := z.cps.toList.map fun c => .str ⟨#[c]⟩
theorem itok_list {K : PySem.W.Frag} {mg : MG} {Hf H : Hp} {a : Addr} {vs : List V} {ds : List D} (x : Ex Hf H) (h : SqL K Hf a vs) (r : Rps K mg Hf vs ds) : ItOk K mg Hf (Itl K a) ds where
  go := fun i d hd ps σ env Hf2 H2 x2 S => by
    obtain ⟨v, hv, rv⟩ := r.get hd
    have h2 : SqL K H2 a vs := ex_l S.ex (ex_l x2 h)
    exact ⟨⟨vs, v, h2, hv⟩, fun y H3 z => ⟨Hf2, Ex.refl _, by rw [z.1]; exact S, by
      have := z.2 vs h2
      rw [hv] at this; cases this
      exact rv.mono x2⟩⟩
  stop := fun i hi ps σ env Hf2 H2 x2 S => ⟨vs, ex_l S.ex (ex_l x2 h), by rw [r.length]; exact hi⟩
theorem itok_tup {K : PySem.W.Frag} {mg : MG} {Hf H : Hp} {a : Addr} {vs : List V} {ds : List D} (x : Ex Hf H) (h : SqT K Hf a vs) (r : Rps K mg Hf vs ds) : ItOk K mg Hf (Itt K a) ds where
  go := fun i d hd ps σ env Hf2 H2 x2 S => by
    obtain ⟨v, hv, rv⟩ := r.get hd
    have h2 : SqT K H2 a vs := ex_t S.ex (ex_t x2 h)
    exact ⟨⟨vs, v, h2, hv⟩, fun y H3 z => ⟨Hf2, Ex.refl _, by rw [z.1]; exact S, by
      have := z.2 vs h2
      rw [hv] at this; cases this
      exact rv.mono x2⟩⟩
  stop := fun i hi ps σ env Hf2 H2 x2 S => ⟨vs, ex_t S.ex (ex_t x2 h), by rw [r.length]; exact hi⟩
theorem itok_str {K : PySem.W.Frag} {mg : MG} {Hf : Hp} {z : Str} : ItOk K mg Hf (Its z) (signsD z) where
  go := fun i d hd ps σ env Hf2 H2 x2 S => by
    unfold signsD at hd
    rw [List.getElem?_map] at hd
    cases q : z.cps.toList[i]? with
    | none => rw [q] at hd; cases hd
    | some c =>
      rw [q] at hd; cases hd
      have q' : z.cps[i]? = some c := by simpa using q
      have hl : i < z.cps.size := (Array.getElem?_eq_some_iff.mp q').1
      exact ⟨hl, fun y H3 w => ⟨Hf2, Ex.refl _, by rw [w.1]; exact S, by
        obtain ⟨c', h1, h2⟩ := w.2
        rw [q'] at h1; cases h1
        rw [h2]; exact .str _⟩⟩
  stop := fun i hi ps σ env Hf2 H2 x2 S => by
    unfold signsD at hi
    have h2 : z.cps.size ≤ i := by simpa using hi
    exact h2
def mSeq (f : M D) : M (List D) := bnd f fun d => match d with
  | .lst l => ret l
  | .tup l => ret l
  | .str z => ret (signsD z)
  | _ => stk
/-- for x in a list, a tuple, a text that stands still -/
theorem ji_seq {tg : Expr} (j : JE X W e fa) : JI X W tg e (mSeq fa) := by
  obtain ⟨t, p, h⟩ := j.ex
  refine ⟨⟨_, pi_or (pi_list p) (pi_or (pi_tup p) (pi_str p)), fun ps σ Hf H env S R z => ?_⟩⟩
  -- the value decides which of the three it is
  have key : ∀ (k : Nat) {P : D → Hp → Hp → Prop}, (∀ d e1 Hf1 H1, Ex Hf Hf1 → SR X.K X.mg ps Hf1 H1 σ e1 → EG X.K X.mg ps W Hf1 σ (fun ds Hf' H' => ∀ J, ItOk X.K X.mg Hf' J ds → R J H') ((match d with | .lst l => ret l | .tup l => ret l | .str z => ret (signsD z) | _ => stk : M (List D)) e1) → P d Hf1 H1) → EG X.K X.mg ps W Hf σ P (fa env) := fun k P hk =>
    EG.bnd z fun d e1 Hf1 H1 x1 S1 h1 => hk d e1 Hf1 H1 x1 S1 h1
  unfold mSeq DL.bnd at z
  cases q : fa env with
  | ok d e1 =>
    rw [q] at z
    cases d with
    | lst l =>
      refine .inl (h ps σ Hf H env S _ ?_)
      rw [q]
      intro Hf1 H1 x1 S1 v rv
      cases rv with
      | lst hq r => exact ⟨_, rfl, ⟨_, ex_l S1.ex hq⟩, z Hf1 H1 x1 S1 _ (itok_list S1.ex hq r)⟩
    | tup l =>
      refine .inr (.inl (h ps σ Hf H env S _ ?_))
      rw [q]
      intro Hf1 H1 x1 S1 v rv
      cases rv with
      | tup hq r => exact ⟨_, rfl, ⟨_, ex_t S1.ex hq⟩, z Hf1 H1 x1 S1 _ (itok_tup S1.ex hq r)⟩
    | str w =>
      refine .inr (.inr (h ps σ Hf H env S _ ?_))
      rw [q]
      intro Hf1 H1 x1 S1 v rv
      exact ⟨w, rv.str_inv, z Hf1 H1 x1 S1 _ itok_str⟩
    | non => exact z.elim
    | bl b => exact z.elim
    | int b => exact z.elim
    | obj _ _ _ => exact z.elim
    | opq _ => exact z.elim
  | exc x p e1 =>
    rw [q] at z
    refine .inl (h ps σ Hf H env S _ ?_)
    rw [q]; exact z
  | stuck => rw [q] at z; exact z.elim

/-! ### list(x), tuple(x), sum(x) -/
def cList : List D → M D := fun ds => match ds with | [.lst l] => ret (.lst l) | [.tup l] => ret (.lst l) | _ => stk
def cTuple : List D → M D := fun ds => match ds with | [.lst l] => ret (.tup l) | [.tup l] => ret (.tup l) | _ => stk
theorem je_list {p : Pos} (V : Nm X N sc raw) (hG : okG sc "list" = true) (hm : X.mg "list" = none) (ja : JA X W [a] f) (he : starEach [a] X.env = (false, eval a X.env) :: starEach [] X.env := by rfl) : JE X W (.Call (.Name "list" p) [a] [] pos) (bnd f cList) := by
  refine je_callTy call_list_of (fun ps σ Hf H env xs ds Q S rx q => ?_) V hG hm ja (by decide +kernel) he
  unfold cList at q
  split at q
  · cases rx with
    | cons r1 r2 => cases r2; cases r1 with
      | lst hq r => exact ⟨_, _, rfl, .inl (ex_l S.ex hq), new_lst S r q⟩
  · cases rx with
    | cons r1 r2 => cases r2; cases r1 with
      | tup hq r => exact ⟨_, _, rfl, .inr (ex_t S.ex hq), new_lst S r q⟩
  · exact q.elim
theorem je_tuple {p : Pos} (V : Nm X N sc raw) (hG : okG sc "tuple" = true) (hm : X.mg "tuple" = none) (ja : JA X W [a] f) (he : starEach [a] X.env = (false, eval a X.env) :: starEach [] X.env := by rfl) : JE X W (.Call (.Name "tuple" p) [a] [] pos) (bnd f cTuple) := by
  refine je_callTy call_tuple_of (fun ps σ Hf H env xs ds Q S rx q => ?_) V hG hm ja (by decide +kernel) he
  unfold cTuple at q
  split at q
  · cases rx with
    | cons r1 r2 => cases r2; cases r1 with
      | lst hq r => exact ⟨_, _, rfl, .inl ⟨ex_l S.ex hq, new_tup S r q⟩⟩
  · cases rx with
    | cons r1 r2 => cases r2; cases r1 with
      | tup hq r => exact ⟨_, _, rfl, .inr ⟨ex_t S.ex hq, q.ret S _ (.tup hq r)⟩⟩
  · exact q.elim
/-- the whole numbers of a list, if it holds nothing else -/
def asInts : List D → Option (List Int)
  | [] => some []
  | .int i :: r => (asInts r).map (i :: ·)
  | _ => none
theorem asInts_eq : ∀ {l : List D} {ns : List Int}, asInts l = some ns → l = ns.map .int
  | [], ns, h => by cases h; rfl
  | .int i :: r, ns, h => by
    unfold asInts at h
    cases q : asInts r with
    | none => rw [q] at h; cases h
    | some m => rw [q] at h; cases h; rw [asInts_eq q]; rfl
  | .non :: _, _, h => by cases h
  | .bl _ :: _, _, h => by cases h
  | .str _ :: _, _, h => by cases h
  | .tup _ :: _, _, h => by cases h
  | .lst _ :: _, _, h => by cases h
  | .obj _ _ _ :: _, _, h => by cases h
  | .opq _ :: _, _, h => by cases h
theorem asInts_map : ∀ ns : List Int, asInts (ns.map .int) = some ns
  | [] => rfl
  | n :: r => by
    show (asInts (r.map .int)).map (n :: ·) = _
    rw [asInts_map r]; rfl
def oI (o : Option (List Int)) : M D := match o with | some ns => ret (.int ns.sum) | none => stk
def cSum : List D → M D := fun ds => match ds with | [.lst l] => oI (asInts l) | _ => stk
theorem je_sum {p : Pos} (C : CtxOk X W) (V : Nm X N sc raw) (hG : okG sc "sum" = true) (hm : X.mg "sum" = none) (ja : JA X W [a] f) (he : starEach [a] X.env = (false, eval a X.env) :: starEach [] X.env := by rfl) : JE X W (.Call (.Name "sum" p) [a] [] pos) (bnd f cSum) := by
  refine je_callB (cr_sum C.calm) (fun ps σ Hf H env xs ds Q S rx q => ?_) V hG hm ja (by decide +kernel) he
  unfold cSum at q
  split at q
  · rename_i l
    cases w : asInts l with
    | none => rw [w] at q; exact q.elim
    | some ns =>
      rw [w] at q
      have e := asInts_eq w
      subst e
      cases rx with
      | cons r1 r2 => cases r2; cases r1 with
        | lst hq r =>
          have ev := r.ints
          subst ev
          exact ⟨_, ns, rfl, ex_l S.ex hq, q.ret S _ (.int _)⟩
  · exact q.elim

/-! ### comprehensions -/
/-- the block's own context, seen from X -/
structure Bl (X X' : Cx) : Prop where
  prog : X'.prog = X.prog
  w : X'.w = X.w
  K : X'.K = X.K
  mg : X'.mg = X.mg
  base : X'.base = X.base
  A : X'.A = X.A
theorem Bl.z {X X' : Cx} (B : Bl X X') {x : Str} (h : X.mg x = none) : X'.mg x = none := by rw [B.mg]; exact h
theorem Bl.ze {X X' : Cx} (B : Bl X X') {x : Str} {v : Value} (h : X.mg x = some v) : X'.mg x = some v := by rw [B.mg]; exact h
theorem Bl.cal {X X' : Cx} (B : Bl X X') {x : Str} {n : Nat} {F : List D → Rs} (c : Cal X x n F) : Cal X' x n F := by
  obtain ⟨k, f, fd, ps, h⟩ := c.ex
  refine ⟨⟨k, f, fd, ps, ?_⟩⟩
  rw [B.prog, B.w, B.K, B.mg, B.base, B.A]
  exact h
abbrev WF : WX := fun _ _ _ _ => False
def wipeE (e : DEnv) : List Nat → DEnv
  | [] => e
  | v :: vs => (wipeE e vs).set v .no
theorem SR.wipe {K : PySem.W.Frag} {mg : MG} {ps : Fg} {Hf H : Hp} {σ : L2.St} {e : DEnv} (S : SR K mg ps Hf H σ e) : ∀ vs : List Nat, SR K mg ps Hf H (L2.wipe σ vs) (wipeE e vs)
  | [] => S
  | v :: vs => (S.wipe vs).drop v none
def noOwn (e : DEnv) (vs : List Nat) : Bool := vs.all fun v => match e[v]? with | some (.own _ _) => false | _ => true
/-- the slots vs as they were -/
def backE (e0 e : DEnv) : List Nat → DEnv
  | [] => e
  | v :: vs => (backE e0 e vs).set v (e0.getD v .no)
theorem backE_len {e0 e : DEnv} : ∀ vs, (backE e0 e vs).length = e.length
  | [] => rfl
  | v :: vs => by unfold backE; rw [List.length_set, backE_len vs]
theorem backE_out {e0 e : DEnv} {i : Nat} : ∀ {vs}, i ∉ vs → (backE e0 e vs)[i]? = e[i]?
  | [], _ => rfl
  | v :: vs, h => by
    unfold backE
    rw [List.getElem?_set_ne (fun z => h (by subst z; exact List.mem_cons_self)), backE_out (fun z => h (List.mem_cons_of_mem _ z))]
theorem backE_in {e0 e : DEnv} {i : Nat} (hl : i < e.length) : ∀ {vs}, i ∈ vs → (backE e0 e vs)[i]? = some (e0.getD i .no)
  | [], h => by cases h
  | v :: vs, h => by
    unfold backE
    by_cases hv : v = i
    · subst hv; rw [List.getElem?_set_self (by rw [backE_len]; exact hl)]
    · rw [List.getElem?_set_ne hv]
      exact backE_in hl ((List.mem_cons.mp h).resolve_left fun z => hv z.symm)
theorem SR.back {K : PySem.W.Frag} {mg : MG} {ps : Fg} {Hf0 H0 Hf H : Hp} {σ : L2.St} {e0 e : DEnv} {vs : List Nat} (S0 : SR K mg ps Hf0 H0 σ e0) (x : Ex Hf0 Hf) (S : SR K mg ps Hf H (L2.wipe σ vs) e) (no : noOwn e0 vs = true) : SR K mg ps Hf H σ (backE e0 e vs) := by
  have hl : e.length = e0.length := by rw [← S.len, L2.wipe_length, S0.len]
  have noO : ∀ i ∈ vs, ∀ k l, e0[i]? ≠ some (.own k l) := fun i hi k l q => by
    have := List.all_eq_true.mp no i hi
    rw [q] at this; cases this
  have own : ∀ {i : Nat} {k : Option Nat} {l : OD}, (backE e0 e vs)[i]? = some (.own k l) → i ∉ vs ∧ e[i]? = some (.own k l) := fun {i k l} q => by
    by_cases hi : i ∈ vs
    · exfalso
      have hlt : i < e.length := by
        have := (List.getElem?_eq_some_iff.mp q).1; rw [backE_len] at this; exact this
      rw [backE_in hlt hi] at q
      have h0 : i < e0.length := by omega
      rw [List.getD_eq_getElem?_getD, List.getElem?_eq_getElem h0] at q
      exact noO i hi k l (by rw [List.getElem?_eq_getElem h0]; exact q)
    · rw [backE_out hi] at q; exact ⟨hi, q⟩
  refine ⟨S.ex, by rw [backE_len, hl, S0.len], fun i s h => ?_, fun i j k k' l l' p hij h1 h2 h3 h4 => ?_, fun a o h => ?_⟩
  · by_cases hi : i ∈ vs
    · have hlt : i < e.length := by
        have := (List.getElem?_eq_some_iff.mp h).1; rw [backE_len] at this; exact this
      rw [backE_in hlt hi] at h
      cases h
      have h0 : i < e0.length := by omega
      obtain ⟨v, hv, r⟩ := S0.sl i _ (List.getElem?_eq_getElem h0)
      refine ⟨v, hv, ?_⟩
      rw [List.getD_eq_getElem?_getD, List.getElem?_eq_getElem h0]
      show SlR K mg ps.ps Hf H v e0[i]
      cases q : e0[i] with
      | no => trivial
      | val d => rw [q] at r; obtain ⟨u, a, b⟩ := r; exact ⟨u, a, b.mono x⟩
      | own k l => exact (noO i hi k l (by rw [List.getElem?_eq_getElem h0, q])).elim
    · rw [backE_out hi] at h
      obtain ⟨v, hv, r⟩ := S.sl i s h
      rw [L2.wipe_out hi] at hv
      exact ⟨v, hv, r⟩
  · obtain ⟨a1, b1⟩ := own h1
    obtain ⟨a2, b2⟩ := own h2
    exact S.ap i j k k' l l' p hij b1 b2 (by rw [L2.wipe_out a1]; exact h3) (by rw [L2.wipe_out a2]; exact h4)
  · obtain ⟨g1, g2, g3⟩ := S.fg a o h
    refine ⟨g1, g2, fun i k l q1 q2 => ?_⟩
    obtain ⟨a1, b1⟩ := own q1
    exact g3 i k l b1 (by rw [L2.wipe_out a1]; exact q2)
/-- targets that store into the slots vs alone -/
def UGv (K : PySem.W.Frag) (mg : MG) (ps : Fg) (σ : L2.St) (vs : List Nat) (Q : L2.St → Hp → Prop) (Hf : Hp) : Res Unit → Prop
  | .ok _ e' => ∀ σ' Hf' H', Ex Hf Hf' → SR K mg ps Hf' H' σ' e' → L2.wipe σ' vs = L2.wipe σ vs → Q σ' H'
  | _ => False
structure JGv (X : Cx) (vs : List Nat) (tg : Expr) (g : D → M Unit) : Prop where
  ex : ∃ t, PG X tg t ∧ ∀ (ps : Fg) (σ : L2.St) (Hf H : Hp) (env : DEnv) (v : V) (d : D), SR X.K X.mg ps Hf H σ env → Rp X.K X.mg Hf v d → ∀ Q : L2.St → Hp → Prop, UGv X.K X.mg ps σ vs Q Hf (g d env) → t v σ H Q
structure JGvs (X : Cx) (vs : List Nat) (tgs : List Expr) (g : List D → M Unit) : Prop where
  ex : ∃ t, PGs X tgs t ∧ ∀ (ps : Fg) (σ : L2.St) (Hf H : Hp) (env : DEnv) (v : List V) (d : List D), SR X.K X.mg ps Hf H σ env → Rps X.K X.mg Hf v d → ∀ Q : L2.St → Hp → Prop, UGv X.K X.mg ps σ vs Q Hf (g d env) → t v σ H Q
theorem wipe_put {σ : L2.St} {i : Nat} {x : Option V} : ∀ {vs : List Nat}, i ∈ vs → L2.wipe (σ.set i x) vs = L2.wipe σ vs
  | [], h => by cases h
  | v :: vs, h => by
    unfold L2.wipe
    by_cases hi : i ∈ vs
    · rw [wipe_put hi]
    · have e : v = i := ((List.mem_cons.mp h).resolve_right hi).symm
      subst e
      have : ∀ ws : List Nat, v ∉ ws → L2.wipe (σ.set v x) ws = (L2.wipe σ ws).set v x := by
        intro ws
        induction ws with
        | nil => intro _; rfl
        | cons w ws ih =>
          intro hw
          unfold L2.wipe
          rw [ih (fun z => hw (List.mem_cons_of_mem _ z)), List.set_comm _ _ (fun z => hw (by subst z; exact List.mem_cons_self))]
      rw [this vs hi, List.set_set]
theorem jgv_name {vs : List Nat} (V : Nm X N sc raw) {i : Nat} {x : Str} (hS : okS N sc raw i x = true) (hi : i ∈ vs) : JGv X vs (.Name x pos) (gN i) :=
  ⟨⟨_, pg_name (i := i) V.nodup (V.s hS).1 (V.s hS).2.1 (V.s hS).2.2, fun ps σ Hf H env v d S r Q z => z _ Hf H (Ex.refl _) (S.put i r) (wipe_put hi)⟩⟩
theorem jgvs_nil {vs : List Nat} : JGvs X vs [] gsNil := ⟨⟨_, pgs_nil, fun ps σ Hf H env v d S r Q z => by
  cases r with
  | nil => exact ⟨rfl, z σ Hf H (Ex.refl _) S rfl⟩
  | cons _ _ => exact z.elim⟩⟩
theorem jgvs_cons {vs : List Nat} {g1 : D → M Unit} {gs : List D → M Unit} (j : JGv X vs e g1) (k : JGvs X vs es gs) (hs : (assignEach (e :: es) X.env).map (·.2) = assign e X.env :: (assignEach es X.env).map (·.2) := by rfl) : JGvs X vs (e :: es) (gsCons g1 gs) := by
  obtain ⟨t, p, h⟩ := j.ex
  obtain ⟨u, q, hu⟩ := k.ex
  refine ⟨⟨_, pgs_cons p q hs, fun ps σ Hf H env v d S r Q z => ?_⟩⟩
  cases r with
  | nil => exact z.elim
  | cons r1 r2 =>
    refine ⟨_, _, rfl, h ps σ Hf H env _ _ S r1 _ ?_⟩
    have z : UGv X.K X.mg ps σ vs Q Hf (bnd (g1 _) (fun _ => gs _) env) := z
    unfold DL.bnd at z
    cases w : g1 _ env with
    | ok a e1 =>
      rw [w] at z
      intro σ' Hf' H' x S' hw
      refine hu ps σ' Hf' H' e1 _ _ S' (r2.mono x) Q ?_
      dsimp only at z
      cases w2 : gs _ e1 with
      | ok a2 e2 => rw [w2] at z; exact fun σ2 Hf2 H2 x2 S2 hw2 => z σ2 Hf2 H2 (x.trans x2) S2 (hw2.trans hw)
      | exc _ _ _ => rw [w2] at z; exact z
      | stuck => rw [w2] at z; exact z
    | exc _ _ _ => rw [w] at z; exact z
    | stuck => rw [w] at z; exact z
theorem jgv_tup {vs : List Nat} {gs : List D → M Unit} {k n : Nat} (hc : X.calm = true) (j : JGvs X vs es gs) (hn : (assignEach es X.env).length = n := by rfl) (hst : (assignEach es X.env).findIdx? (·.1) = none := by rfl) : JGv X vs (.Tuple es k pos) (gTp n gs) := by
  obtain ⟨t, p, h⟩ := j.ex
  refine ⟨⟨_, pg_or (pg_tup hc p hn hst) (pg_lst hc p hn hst), fun ps σ Hf H env v d S r Q z => ?_⟩⟩
  unfold gTp at z
  split at z
  · split at z
    · rename_i hl
      cases r with
      | tup hq rr => exact .inl ⟨_, _, rfl, ex_t S.ex hq, by rw [rr.length]; exact hl, h ps σ Hf H env _ _ S rr Q z⟩
    · exact z.elim
  · split at z
    · rename_i hl
      cases r with
      | lst hq rr => exact .inr ⟨_, _, rfl, ex_l S.ex hq, by rw [rr.length]; exact hl, h ps σ Hf H env _ _ S rr Q z⟩
    · exact z.elim
  · exact z.elim
def lcL (vs : List Nat) (g : D → M Unit) (tt : M Bool) (el : M D) : List D → List D → M (List D)
  | [], acc => ret acc
  | d :: r, acc => bnd (g d) fun _ => bnd tt fun b => if b = true then bnd el (fun y e => if acc.length < sizeLine then lcL vs g tt el r (acc ++ [y]) (wipeE e vs) else .stuck) else fun e => lcL vs g tt el r acc (wipeE e vs)
/-- a comprehension: a new list -/
def mLc (vs : List Nat) (fi : M (List D)) (g : D → M Unit) (tt : M Bool) (el : M D) : M D := bnd fi fun ds e0 => if noOwn e0 vs = true then
  (match lcL vs g tt el ds [] (wipeE e0 vs) with | .ok acc e => .ok (.lst acc) (backE e0 e vs) | _ => .stuck) else .stuck
structure JTs (X : Cx) (W : WX) (ifs : List Expr) (f : M Bool) : Prop where
  ex : ∃ t, PTs X ifs t ∧ ∀ (ps : Fg) (σ : L2.St) (Hf H : Hp) (env : DEnv), SR X.K X.mg ps Hf H σ env → ∀ Q : Bool → Hp → Prop, EG X.K X.mg ps W Hf σ (Pb Q) (f env) → t σ H Q
theorem jts_nil : JTs X W [] (ret true) := ⟨⟨_, pts_nil, fun ps σ Hf H env S Q z => EG.ret (W := W) (P := Pb Q) z S⟩⟩
theorem jts_one {g : M Bool} (j : JT X W c g) : JTs X W [c] g := by
  obtain ⟨t, p, h⟩ := j.ex
  exact ⟨⟨_, pts_one p, h⟩⟩
theorem takesF {X : Cx} : L2N.Takes X WF := fun _ _ x => by
  obtain ⟨_, _, _, _, _, _, _, _, _, _, _, _, _, _, _, _, z⟩ := x
  exact z.elim
/-- what a block's judgement must say, in every context of such a block -/
abbrev InBl (X : Cx) (N : List Str) (sc scope : Scope) (J : Cx → Prop) : Prop := ∀ X' : Cx, Nm X' N (relS scope sc) scope → CtxOk X' WF → Bl X X' → J X'
theorem blk_ok {scope : Scope} {J : Cx → Prop} (C : CtxOk X W) (V : Nm X N sc raw) (hk : scope.kind = .function) (h : InBl X N sc scope J) (s : Shared) (H : Hp) (Ca : Addr) (cl : List (Str × Addr)) (fp : List Addr) : J (X.blk s H scope (compEnvC scope cl Ca X.env) fp) := by
  refine h _ ⟨V.hN, ?_, V.nd, hk, fun x hx => ?_⟩ ⟨C.calm, C.hu, PassesOwn.never, takesF⟩ ⟨rfl, rfl, rfl, rfl, rfl, rfl⟩
  · show relS scope X.env.scope = relS scope sc
    rw [V.hs]
  · show (scope.names.lookup x == some .cell) = true
    rw [hx]; rfl
theorem wipe_in {σ : L2.St} {vs : List Nat} {j : Nat} (hj : j ∈ vs) : (L2.wipe σ vs)[j]? = if j < σ.length then some none else none := by
  by_cases hl : j < σ.length
  · rw [if_pos hl]
    have hl' : j < (L2.wipe σ vs).length := by rw [L2.wipe_length]; exact hl
    cases w : (L2.wipe σ vs)[j]? with
    | none => rw [List.getElem?_eq_getElem hl'] at w; cases w
    | some o => cases o with
      | none => rfl
      | some xx => exact absurd hj (L2.wipe_some w).2
  · rw [if_neg hl, List.getElem?_eq_none (by rw [L2.wipe_length]; omega)]
theorem wipe_idem {σ : L2.St} {vs : List Nat} : L2.wipe (L2.wipe σ vs) vs = L2.wipe σ vs := by
  apply List.ext_getElem?
  intro j
  by_cases hj : j ∈ vs
  · rw [wipe_in hj, wipe_in hj, L2.wipe_length]
  · rw [L2.wipe_out hj]
/-- what is wanted behind a comprehension, seen through any such wish -/
structure LcR (X : Cx) (W : WX) (ps : Fg) (σ : L2.St) (Q : VK) (R : Hp → Res D → Prop) : Prop where
  mono : ∀ {Hf Hf' : Hp} {r : Res D}, Ex Hf Hf' → R Hf r → R Hf' r
  st : ∀ Hf, ¬ R Hf .stuck
  ex : ∀ {Hf : Hp} {x : Str} {p : Option D} {e : DEnv}, R Hf (.exc x p e) → ∀ cls dd Hf' H', Ex Hf Hf' → SR X.K X.mg ps Hf' H' σ e → IsExc X.K X.mg Hf' x p cls dd → W cls dd σ H'
  ok : ∀ {Hf H : Hp} {e : DEnv} {p : Addr} {vacc : List L2.V} {acc : List D}, SR X.K X.mg ps Hf H σ e → H p = some (.lst vacc) → Hf p = none → ps.g p = none → Rps X.K X.mg Hf vacc acc →
    (∀ (i : Nat) (k : Option Nat) (l : OD), e[i]? = some (.own k l) → σ[i]? = some (some (.ref p)) → False) → R Hf (.ok (.lst acc) e) → Q (.ref p) H
theorem lc_ok {scope : Scope} {own : List (Str × Nat)} {tg iter elt : Expr} {ifs : List Expr} {fi : M (List D)} {g : D → M Unit} {tt : M Bool} {el : M D} {vs : List Nat} (C : CtxOk X W) (V : Nm X N sc raw) (hb : blkC N sc scope own = true)
    (ji : JI X W tg iter fi) (jg : InBl X N sc scope fun X' => JGv X' vs tg g) (jt : InBl X N sc scope fun X' => JTs X' WF ifs tt) (je : InBl X N sc scope fun X' => JE X' WF elt el) :
    ∃ wi g' tt' te, PI X tg iter wi ∧ BlkOk X.N X.env.scope scope own ∧
      (∀ (s : Shared) (H : Hp) (Ca : Addr) (cl : List (Str × Addr)) (fp : List Addr), PG (X.blk s H scope (compEnvC scope cl Ca X.env) fp) tg g') ∧
      (∀ (s : Shared) (H : Hp) (Ca : Addr) (cl : List (Str × Addr)) (fp : List Addr), PTs (X.blk s H scope (compEnvC scope cl Ca X.env) fp) ifs tt') ∧
      (∀ (s : Shared) (H : Hp) (Ca : Addr) (cl : List (Str × Addr)) (fp : List Addr), PE (X.blk s H scope (compEnvC scope cl Ca X.env) fp) elt te) ∧
      ∀ (ps : Fg) (σ : L2.St) (Hf H : Hp) (env : DEnv), SR X.K X.mg ps Hf H σ env → ∀ Q : VK, ∀ R : Hp → Res D → Prop, LcR X W ps σ Q R → R Hf (mLc vs fi g tt el env) → tLc wi g' tt' te vs σ H Q := by
  have ok : BlkOk N sc scope own := blkOk_by hb
  obtain ⟨wi, pi, hi⟩ := ji.ex
  have hg := blk_ok C V ok.kind jg
  have ht := blk_ok C V ok.kind jt
  have he := blk_ok C V ok.kind je
  let tg' : TG := fun v σ H Q => ∀ (s : Shared) (H0 : Hp) (Ca : Addr) (cl : List (Str × Addr)) (fp : List Addr), Classical.choose (hg s H0 Ca cl fp).ex v σ H Q
  let tt' : TT := fun σ H Q => ∀ (s : Shared) (H0 : Hp) (Ca : Addr) (cl : List (Str × Addr)) (fp : List Addr), Classical.choose (ht s H0 Ca cl fp).ex σ H Q
  let te : TE := fun σ H Q => ∀ (s : Shared) (H0 : Hp) (Ca : Addr) (cl : List (Str × Addr)) (fp : List Addr), Classical.choose (he s H0 Ca cl fp).ex σ H Q
  refine ⟨wi, tg', tt', te, pi, by rw [V.hN, V.hs]; exact ok, fun s H0 Ca cl fp => ⟨fun pins s' σ H v u Q I r z => (Classical.choose_spec (hg s H0 Ca cl fp).ex).1.run pins s' σ H v u Q I r (z s H0 Ca cl fp)⟩,
    fun s H0 Ca cl fp => ⟨fun pins s' σ H Q I z => (Classical.choose_spec (ht s H0 Ca cl fp).ex).1.run pins s' σ H Q I (z s H0 Ca cl fp)⟩,
    fun s H0 Ca cl fp => ⟨fun pins s' σ H Q I z => (Classical.choose_spec (he s H0 Ca cl fp).ex).1.run pins s' σ H Q I (z s H0 Ca cl fp)⟩, fun ps σ Hf H env S Q R LR z => ?_⟩
  have sg : ∀ (ps : Fg) (σ : L2.St) (Hf H : Hp) (env : DEnv) (v : L2.V) (d : D), SR X.K X.mg ps Hf H σ env → Rp X.K X.mg Hf v d → ∀ Q : L2.St → Hp → Prop, UGv X.K X.mg ps σ vs Q Hf (g d env) → tg' v σ H Q :=
    fun ps σ Hf H env v d S r Q z s H0 Ca cl fp => (Classical.choose_spec (hg s H0 Ca cl fp).ex).2 ps σ Hf H env v d S r Q z
  have st : ∀ (ps : Fg) (σ : L2.St) (Hf H : Hp) (env : DEnv), SR X.K X.mg ps Hf H σ env → ∀ Q : Bool → Hp → Prop, EG X.K X.mg ps WF Hf σ (Pb Q) (tt env) → tt' σ H Q :=
    fun ps σ Hf H env S Q z s H0 Ca cl fp => (Classical.choose_spec (ht s H0 Ca cl fp).ex).2 ps σ Hf H env S Q z
  have se : ∀ (ps : Fg) (σ : L2.St) (Hf H : Hp) (env : DEnv), SR X.K X.mg ps Hf H σ env → ∀ Q : VK, EG X.K X.mg ps WF Hf σ (Pd X.K X.mg Q) (el env) → te σ H Q :=
    fun ps σ Hf H env S Q z s H0 Ca cl fp => (Classical.choose_spec (he s H0 Ca cl fp).ex).2 ps σ Hf H env S Q z
  refine hi ps σ Hf H env S _ ?_
  unfold mLc DL.bnd at z
  cases qfi : fi env with
  | exc x p e1 => rw [qfi] at z; exact LR.ex z
  | stuck => rw [qfi] at z; exact (LR.st _ z).elim
  | ok ds e1 =>
  rw [qfi] at z
  intro Hf1 H1 x1 S1 J ok
  have z1 := LR.mono x1 z
  dsimp only at z1
  intro Dd nD
  by_cases hno : noOwn e1 vs = true
  · rw [if_pos hno] at z1
    have nfD : Hf1 Dd = none := fresh_back S1.ex nD
    have ngD : ps.g Dd = none := by
      cases q : ps.g Dd with
      | none => rfl
      | some u => rw [(S1.fg Dd u q).1] at nD; cases nD
    -- the end, where the remaining worth is known
    refine ⟨fun i m H => i + m = ds.length ∧ ∃ (e : DEnv) (Hf : Hp) (acc : List D) (vacc : List L2.V), Ex Hf1 Hf ∧ SR X.K X.mg ps Hf H (L2.wipe σ vs) e ∧ H Dd = some (.lst vacc) ∧ Hf Dd = none ∧ (∀ (i : Nat) (k : Option Nat) (l : OD), e[i]? = some (.own k l) → (L2.wipe σ vs)[i]? = some (some (.ref Dd)) → False) ∧ Rps X.K X.mg Hf vacc acc ∧
        R Hf (match lcL vs g tt el (ds.drop i) acc e with | .ok acc e => Res.ok (D.lst acc) (backE e1 e vs) | _ => Res.stuck), ⟨ds.length, Nat.zero_add _, ?_⟩, ?_⟩
    · have S2 := (S1.laid (p := Dd) (o := .lst []) nD).wipe vs
      refine ⟨_, Hf1, [], [], Ex.refl _, S2, upd_same, nfD, fun i k l q1 q2 => ?_, .nil, z1⟩
      obtain ⟨p, o, h1, _, h3, _⟩ := (S1.wipe vs).own q1
      rw [q2] at h1; cases h1
      rw [nD] at h3; cases h3
    · rintro i m H ⟨hm, e, Hf, acc, vacc, x, S, hD, nfD, noD, racc, z⟩
      by_cases hlt : i < ds.length
      · obtain ⟨d, hd⟩ : ∃ d, ds[i]? = some d := ⟨ds[i], List.getElem?_eq_getElem hlt⟩
        have e0 : ds.drop i = d :: ds.drop (i + 1) := by
          rw [List.drop_eq_getElem_cons hlt]
          have := List.getElem?_eq_getElem hlt
          rw [hd] at this; cases this; rfl
        rw [e0] at z
        -- the list's address as foreign meanwhile
        let ps' : Fg := ⟨ps.ps, fun a => if a = Dd then some (.lst vacc) else ps.g a⟩
        have toP : ∀ {Hf H : Hp} {σ : L2.St} {e : DEnv}, SR X.K X.mg ps Hf H σ e → H Dd = some (.lst vacc) → Hf Dd = none → (∀ (i : Nat) (k : Option Nat) (l : OD), e[i]? = some (.own k l) → σ[i]? = some (some (.ref Dd)) → False) → SR X.K X.mg ps' Hf H σ e := fun {Hf H σ e} S h1 h2 h3 =>
          ⟨S.ex, S.len, S.sl, S.ap, fun a o q => by
            by_cases ha : a = Dd
            · subst ha
              have q : (if a = a then some (HO.lst vacc) else ps.g a) = some o := q
              rw [if_pos rfl] at q; cases q
              exact ⟨h1, h2, h3⟩
            · have q : (if a = Dd then some (HO.lst vacc) else ps.g a) = some o := q
              rw [if_neg ha] at q
              exact S.fg a o q⟩
        have ofP : ∀ {Hf H : Hp} {σ : L2.St} {e : DEnv}, SR X.K X.mg ps' Hf H σ e → SR X.K X.mg ps Hf H σ e ∧ H Dd = some (.lst vacc) ∧ Hf Dd = none ∧ (∀ (i : Nat) (k : Option Nat) (l : OD), e[i]? = some (.own k l) → σ[i]? = some (some (.ref Dd)) → False) := fun {Hf H σ e} S => by
          obtain ⟨h1, h2, h3⟩ := S.fg Dd (.lst vacc) (by show (if Dd = Dd then some (HO.lst vacc) else ps.g Dd) = _; rw [if_pos rfl])
          refine ⟨⟨S.ex, S.len, S.sl, S.ap, fun a o q => S.fg a o ?_⟩, h1, h2, h3⟩
          show (if a = Dd then some (HO.lst vacc) else ps.g a) = some o
          rw [if_neg (fun w => by subst w; rw [ngD] at q; cases q)]
          exact q
        have S' := toP S hD nfD noD
        obtain ⟨go, yld⟩ := ok.go i d hd ps' (L2.wipe σ vs) e Hf H x S'
        refine .inr ⟨go, fun H => i + 1 + (m - 1) = ds.length ∧ ∃ (e : DEnv) (Hf : Hp) (acc : List D) (vacc : List L2.V), Ex Hf1 Hf ∧ SR X.K X.mg ps Hf H (L2.wipe σ vs) e ∧ H Dd = some (.lst vacc) ∧ Hf Dd = none ∧ (∀ (i : Nat) (k : Option Nat) (l : OD), e[i]? = some (.own k l) → (L2.wipe σ vs)[i]? = some (some (.ref Dd)) → False) ∧ Rps X.K X.mg Hf vacc acc ∧
          R Hf (match lcL vs g tt el (ds.drop (i + 1)) acc e with | .ok acc e => Res.ok (D.lst acc) (backE e1 e vs) | _ => Res.stuck), fun H' w => ⟨m - 1, by omega, w⟩, fun v H3 y => ?_⟩
        obtain ⟨Hf3, x3, S3, r3⟩ := yld v H3 y
        refine sg ps' (L2.wipe σ vs) Hf3 H3 e v d S3 r3 _ ?_
        have z0 : ∀ {r : Res (List D)}, R Hf (match r with | .ok acc e => Res.ok (D.lst acc) (backE e1 e vs) | _ => Res.stuck) → ∃ acc e, r = .ok acc e := fun {r} w => by
          cases r with
          | ok acc e => exact ⟨acc, e, rfl⟩
          | exc _ _ _ => exact (LR.st _ w).elim
          | stuck => exact (LR.st _ w).elim
        obtain ⟨accF, eF, hF⟩ := z0 z
        unfold lcL DL.bnd at hF z
        cases q1 : g d e with
        | exc _ _ _ => rw [q1] at hF; cases hF
        | stuck => rw [q1] at hF; cases hF
        | ok u e4 =>
          rw [q1] at hF z
          intro σ4 Hf4 H4 x4 S4 hw
          have hww : L2.wipe σ4 vs = L2.wipe σ vs := by rw [hw, wipe_idem]
          refine ⟨hww, ?_⟩
          dsimp only at hF z
          refine st ps' σ4 Hf4 H4 e4 S4 _ ?_
          cases q2 : tt e4 with
          | exc _ _ _ => rw [q2] at hF; cases hF
          | stuck => rw [q2] at hF; cases hF
          | ok b e5 =>
            rw [q2] at hF z
            intro Hf5 H5 x5 S5
            dsimp only at hF z
            cases b with
            | false =>
              unfold Pb
              dsimp only
              rw [if_neg Bool.false_ne_true] at hF z ⊢
              obtain ⟨S6, d6, f6, n6⟩ := ofP S5
              have S7 := S6.wipe vs
              rw [hww] at S7
              refine ⟨by omega, _, Hf5, acc, vacc, x.trans (x3.trans (x4.trans x5)), S7, d6, f6, fun i k l q1 q2 => ?_, racc.mono (x3.trans (x4.trans x5)), LR.mono (x3.trans (x4.trans x5)) z⟩
              obtain ⟨_, _, _, _, _⟩ := S7.own q1
              by_cases hi : i ∈ vs
              · exact absurd hi (L2.wipe_some (x := .ref Dd) q2).2
              · have e6 : ∀ (us : List Nat) (e : DEnv), i ∉ us → (wipeE e us)[i]? = e[i]? := by
                  intro us e
                  induction us with
                  | nil => intro _; rfl
                  | cons v us ih =>
                    intro hv
                    show ((wipeE e us).set v .no)[i]? = _
                    rw [List.getElem?_set_ne (fun z => hv (by subst z; exact List.mem_cons_self)), ih (fun z => hv (List.mem_cons_of_mem _ z))]
                rw [e6 vs e5 hi] at q1
                rw [← hww, L2.wipe_out hi] at q2
                exact n6 i k l q1 q2
            | true =>
              unfold Pb
              dsimp only
              rw [if_pos rfl] at hF z ⊢
              refine se ps' σ4 Hf5 H5 e5 S5 _ ?_
              cases q3 : el e5 with
              | exc _ _ _ => rw [q3] at hF; cases hF
              | stuck => rw [q3] at hF; cases hF
              | ok y e7 =>
                rw [q3] at hF z
                intro Hf7 H7 x7 S7 vy ry
                dsimp only at hF z
                by_cases hz : acc.length < sizeLine
                · rw [if_pos hz] at hF z
                  obtain ⟨S8, d8, f8, n8⟩ := ofP S7
                  have xx := x3.trans (x4.trans (x5.trans x7))
                  have rl := racc.length
                  refine ⟨vacc, d8, by omega, by omega, wipeE e7 vs, Hf7, acc ++ [y], vacc ++ [vy], x.trans xx, ?_, upd_same, f8, fun i k l q1 q2 => ?_, (racc.mono xx).append (.cons ry .nil), LR.mono xx z⟩
                  · have S9 : SR X.K X.mg ps Hf7 (upd H7 Dd (.lst (vacc ++ [vy]))) σ4 e7 := by
                      refine ⟨fun a o q => ?_, S8.len, fun i s q => ?_, S8.ap, fun a o q => ?_⟩
                      · rw [upd_ne (ne_of_none q f8)]; exact S8.ex a o q
                      · obtain ⟨v, hv, r⟩ := S8.sl i s q
                        refine ⟨v, hv, ?_⟩
                        cases s with
                        | no => trivial
                        | val d => exact r
                        | own k l =>
                          obtain ⟨p, o, a1, a2, a3, a4, a5⟩ := r
                          exact ⟨p, o, a1, a2, by rw [upd_ne (fun w => by subst w; exact n8 i k l q (by rw [hv, a1]))]; exact a3, a4, a5⟩
                      · obtain ⟨g1, g2, g3⟩ := S8.fg a o q
                        exact ⟨by rw [upd_ne (fun w => by subst w; rw [ngD] at q; cases q)]; exact g1, g2, g3⟩
                    have S10 := S9.wipe vs
                    rw [hww] at S10
                    exact S10
                  · by_cases hi : i ∈ vs
                    · exact absurd hi (L2.wipe_some (x := .ref Dd) q2).2
                    · have e6 : ∀ (us : List Nat) (e : DEnv), i ∉ us → (wipeE e us)[i]? = e[i]? := by
                        intro us e
                        induction us with
                        | nil => intro _; rfl
                        | cons v us ih =>
                          intro hv
                          show ((wipeE e us).set v .no)[i]? = _
                          rw [List.getElem?_set_ne (fun z => hv (by subst z; exact List.mem_cons_self)), ih (fun z => hv (List.mem_cons_of_mem _ z))]
                      rw [e6 vs e7 hi] at q1
                      rw [← hww, L2.wipe_out hi] at q2
                      exact n8 i k l q1 q2
                · rw [if_neg hz] at hF; cases hF
      · refine .inl ⟨ok.stop i (by omega) ps (L2.wipe σ vs) e Hf H x S, ?_⟩
        rw [List.drop_eq_nil_of_le (by omega)] at z
        refine LR.ok (S1.back x S hno) hD nfD ngD racc (fun i k l q1 q2 => ?_) z
        by_cases hi : i ∈ vs
        · have hlt : i < e.length := by
            have := (List.getElem?_eq_some_iff.mp q1).1; rw [backE_len] at this; exact this
          rw [backE_in hlt hi] at q1
          have hl : e.length = e1.length := by rw [← S.len, L2.wipe_length, S1.len]
          have h0 : i < e1.length := by omega
          rw [List.getD_eq_getElem?_getD, List.getElem?_eq_getElem h0] at q1
          have := List.all_eq_true.mp hno i hi
          rw [List.getElem?_eq_getElem h0, show e1[i] = Sl.own k l from Option.some.inj q1] at this
          cases this
        · rw [backE_out hi] at q1
          exact noD i k l q1 (by rw [L2.wipe_out hi]; exact q2)
  · rw [if_neg hno] at z1; exact (LR.st _ z1).elim
/-- [el for tg in iter if ..], frozen at once -/
theorem je_lc {scope : Scope} {own : List (Str × Nat)} {vs : List Nat} {tg iter elt : Expr} {ifs : List Expr} {fi : M (List D)} {g : D → M Unit} {tt : M Bool} {el : M D} (C : CtxOk X W) (V : Nm X N sc raw) (hb : blkC N sc scope own = true) (hvs : own.map (·.2) = vs)
    (ji : JI X W tg iter fi) (jg : InBl X N sc scope fun X' => JGv X' vs tg g) (jt : InBl X N sc scope fun X' => JTs X' WF ifs tt) (je : InBl X N sc scope fun X' => JE X' WF elt el) (hs : ∀ x, foldedSetIterable iter X.env x = pure x := by intro _; rfl) :
    JE X W (.ListComp elt [⟨tg, iter, ifs, 0⟩] scope pos) (mLc vs fi g tt el) := by
  subst hvs
  obtain ⟨wi, g', tt', te, pi, ok, pg, pt, pe, h⟩ := lc_ok C V hb ji jg jt je
  refine ⟨⟨_, pe_lc C.calm V.nodup pi ok pg pt pe hs, fun ps σ Hf H env S Q z => h ps σ Hf H env S Q (fun Hf r => EG X.K X.mg ps W Hf σ (Pd X.K X.mg Q) r) ⟨fun x r => EG.mono x r, fun _ z => z, fun z => z, fun {Hf H e p vacc acc} S hp nf ng r no z => ?_⟩ z⟩⟩
  exact z _ _ (Ex.new nf) (S.freezes hp nf ng no) _ (.lst (.inl (.inl upd_same)) (r.mono (Ex.new nf)))
end
end DL

/-! DLh: try .. except X as e, what the suite asks of e, defs that are called there. -/
namespace DL
open PySem PySem.Spec PyProof.Rows L2 Evl

/-- the largest reading of a block -/
def tAll (X : Cx) (sts : List Stmt) : TS := fun De σ H => ∀ (pins : List (Addr × Obj)) (s : Shared), Inv X pins σ H s → wpAny (model X.prog X.w) X.A (execs sts X.env) (SP X pins De) X.xe s
theorem tAll_ok {X : Cx} {sts : List Stmt} : PSs X sts (tAll X sts) := ⟨fun pins s σ H De I h => h pins s I⟩
theorem tAll_of {X : Cx} {W : WX} {sts : List Stmt} {f : M Fl} (j : JSs X W sts f) {ps : Fg} {σ : L2.St} {Hf H : Hp} {env : DEnv} (S : SR X.K X.mg ps Hf H σ env) {De : Ends} (h : SG X.K X.mg ps W De Hf (f env)) : tAll X sts De σ H := by
  obtain ⟨t, p, k⟩ := j.ex
  exact fun pins s I => p.run pins s σ H De I (k ps σ Hf H env S De h)
/-- X' is a context of the same def: its depth is X's, whatever is handled -/
structure BlH (X X' : Cx) : Prop where
  prog : X'.prog = X.prog
  w : X'.w = X.w
  K : X'.K = X.K
  mg : X'.mg = X.mg
  base : X'.base = X.base
  dp : X'.A.depth = X.A.depth
  un : X'.A.units = X.A.units
theorem BlH.z {X X' : Cx} (B : BlH X X') {x : Str} (h : X.mg x = none) : X'.mg x = none := by rw [B.mg]; exact h
theorem BlH.ze {X X' : Cx} (B : BlH X X') {x : Str} {v : Value} (h : X.mg x = some v) : X'.mg x = some v := by rw [B.mg]; exact h
/-- the exception at a, of the class named x, is handled: its context is None, it has no dict -/
structure HotX (X : Cx) (a : Addr) (x : Str) : Prop where
  hot : X.A.handled = some (.ref a)
  pin : ∃ (oe : Obj) (vs : Array Value) (Dd : Addr), (a, oe) ∈ X.pn ∧ X.mg x = some (.ref Dd) ∧ Zc (.ref Dd) none oe ∧ oe.data = .fields vs ∧ vs[2]? = some .none
/-- a row of the table: whether an x is a T -/
structure TabE (K : PySem.W.Frag) (mg : MG) (x T : Str) (b : Bool) : Prop where
  ex : ∃ (Dd : Addr) (v : V) (u : Value), mg x = some (.ref Dd) ∧ (mg T = some u ∨ (mg T = none ∧ bootBuiltins T = some u)) ∧ ClsV v u ∧ RelV v u ∧ PySem.W.kitOne K (.ref Dd) u = some b ∧ L2.ExcC K Dd
/-- the table of the law's classes: (x, T, whether an x is a T) -/
abbrev ETab := List (Str × Str × Bool)
def TabOk (K : PySem.W.Frag) (mg : MG) (tab : ETab) : Prop := ∀ x T b, (x, T, b) ∈ tab → TabE K mg x T b
theorem tabOk_nil {K : PySem.W.Frag} {mg : MG} : TabOk K mg [] := fun _ _ _ h => by cases h
theorem tabOk_cons {K : PySem.W.Frag} {mg : MG} {x T : Str} {b : Bool} {r : ETab} (h : TabE K mg x T b) (t : TabOk K mg r) : TabOk K mg ((x, T, b) :: r) := fun x' T' b' m => by
  rcases List.mem_cons.mp m with e | e
  · cases e; exact h
  · exact t x' T' b' e
theorem BlH.tab {X X' : Cx} (B : BlH X X') {tab : ETab} (h : TabOk X.K X.mg tab) : TabOk X'.K X'.mg tab := by rw [B.K, B.mg]; exact h
theorem Bl.tab {X X' : Cx} (B : Bl X X') {tab : ETab} (h : TabOk X.K X.mg tab) : TabOk X'.K X'.mg tab := by rw [B.K, B.mg]; exact h
def tabAt (tab : ETab) (x T : Str) : Option Bool := (tab.find? fun r => decide (r.1 = x) && decide (r.2.1 = T)).map (·.2.2)
theorem tabAt_mem {tab : ETab} {x T : Str} {b : Bool} (h : tabAt tab x T = some b) : (x, T, b) ∈ tab := by
  unfold tabAt at h
  cases q : tab.find? fun r => decide (r.1 = x) && decide (r.2.1 = T) with
  | none => rw [q] at h; cases h
  | some r =>
    rw [q] at h
    obtain ⟨r1, r2, r3⟩ := r
    cases h
    have h1 := List.find?_some q
    simp only [Bool.and_eq_true, decide_eq_true_eq] at h1
    obtain ⟨rfl, rfl⟩ := h1
    exact List.mem_of_find?_eq_some q
theorem isE_call {X : Cx} {a Dd : Addr} {oe : Obj} (hm : (a, oe) ∈ X.pn) (C : L2.ExcC X.K Dd) (hz : Zc (.ref Dd) none oe) (hf : ∃ vs, oe.data = .fields vs) : CallR X (.builtin "isinstance") (rIsE X.K Dd a) := by
  intro pins s σ H xs us Q I r h
  obtain ⟨c, cv, b, e1, hcv, e, q⟩ := h
  subst e1
  obtain ⟨u1, u2, e2, rx, rt⟩ := vals2 r
  subst e2
  cases (show u1 = Value.ref a from rx)
  have ec := hcv _ rt
  subst ec
  obtain ⟨hget, _⟩ := I.pin (a, oe) (List.mem_append_left _ hm)
  obtain ⟨vs, hv⟩ := hf
  obtain ⟨oc, od, oda, osl⟩ := oe
  obtain ⟨z1, z2⟩ := hz
  dsimp only at z1 z2 hv
  subst z1 z2 hv
  have J : PySem.W.InstAt s.heap a _ Dd none := ⟨hget, rfl, rfl, trivial⟩
  exact PySem.W.kia_one (PySem.W.handS_kitx_exc C.hg C.hk C.hs C.hd C.ha C.hn C.ht C.hm) I.kIn J e (fun z => nomatch z) fun tk => ⟨.bl b, H, I.kept (t' := tk) fun _ _ z => z, rfl, q⟩
section
variable {X : Cx} {W : WX} {a b c e : Expr} {es : List Expr} {fa fb fc : M D} {pos : Pos} {f : M (List D)} {N : List Str} {sc raw : Scope}
/-- isinstance(e, T), e the handled exception -/
def cIsE (tab : ETab) (ad : Addr) (x T : Str) : D → M D := fun d => match d with
  | .opq q => if q = ad then (match tabAt tab x T with | some r => ret (.bl r) | none => stk) else stk
  | _ => stk
theorem je_isE {tab : ETab} {ad : Addr} {x T : Str} {p p2 : Pos} (V : Nm X N sc raw) (hG : okG sc "isinstance" = true) (hGT : okG sc T = true) (hm : X.mg "isinstance" = none) (h : HotX X ad x) (TO : TabOk X.K X.mg tab) (ja : JE X W a fa)
    (he : starEach [a, .Name T p2] X.env = (false, eval a X.env) :: starEach [.Name T p2] X.env := by rfl) (he2 : starEach [.Name T p2] X.env = [(false, eval (.Name T p2) X.env)] := by rfl) (hpl : (backTo pos (starEach [.Name T p2] X.env)).any (·.1) = false := by rfl) :
    JE X W (.Call (.Name "isinstance" p) [a, .Name T p2] [] pos) (bnd fa (cIsE tab ad x T)) := by
  obtain ⟨hg, _, _⟩ := V.g hG
  obtain ⟨hgT, hd, hnn⟩ := V.g hGT
  obtain ⟨t, q, hj⟩ := ja.ex
  obtain ⟨oe, vs, Dd, hp, hx, hz, hv, _⟩ := h.pin
  cases w : tabAt tab x T with
  | none =>
    refine ⟨⟨fun σ H Q => t σ H fun _ _ => False, ⟨fun pins s σ H Q I z => ?_⟩, fun ps σ Hf H env S Q z => ?_⟩⟩
    · refine wpAny_Call_Name_kw (ld_blt I hg hm (show bootBuiltins "isinstance" = some (.builtin "isinstance") by decide +kernel) ?_ (by decide) (by decide))
      have pa : PA X [a, .Name T p2] (fun σ H Q => t σ H fun _ _ => False) := by
        have pn : PA X [.Name T p2] (fun _ _ _ => False) := ⟨fun _ _ _ _ _ _ _ (z : False) => False.elim z⟩
        refine ⟨fun pos2 pins s σ H Q I z => (pa_cons q pn he).run pos2 pins s σ H Q I z⟩
      exact PyProof.Rows.callWith_builtin1 (thn (pa.run pos pins s σ H (fun _ _ => False) I z) fun us s1 ⟨_, _, _, _, z⟩ => False.elim z) he hpl
    · refine hj ps σ Hf H env S _ (EG.bnd z fun d e1 Hf1 H1 x1 S1 h1 v rv => ?_)
      unfold cIsE at h1
      split at h1
      · rw [w] at h1
        dsimp only at h1
        split at h1 <;> exact False.elim h1
      · exact False.elim h1
  | some r =>
    obtain ⟨Dd', v, u, hx', hT, cv, rvu, kt, EC⟩ := (TO x T r (tabAt_mem w)).ex
    rw [hx] at hx'; cases hx'
    have pT : PE X (.Name T p2) (tC v) := by
      rcases hT with hT | ⟨hT, hT2⟩
      · exact pe_glob hgT hT rvu hd
      · exact pe_bltn hgT hT hT2 rvu hnn hd
    refine ⟨⟨_, pe_callB (isE_call hp EC hz ⟨vs, hv⟩) hg hm (by decide +kernel) (pa_cons q (pa_cons pT pa_nil he2) he) (by decide) (by decide) he hpl, fun ps σ Hf H env S Q z => ?_⟩⟩
    refine hj ps σ Hf H env S _ (EG.bnd z fun d e1 Hf1 H1 x1 S1 h1 y ry => ?_)
    unfold cIsE at h1
    split at h1
    · rename_i qd
      by_cases hq : qd = ad
      · subst hq
        rw [if_pos rfl, w] at h1
        cases ry
        exact ⟨v, u, r, rfl, fun u' r' => cv.eq r', kt, h1.ret S1 _ (.bl _)⟩
      · rw [if_neg hq] at h1; exact h1.elim
    · exact h1.elim
end

/-! ### a def that is called while an exception is handled -/
structure FnE (P : Program) (w : World) (K : PySem.W.Frag) (mg : MG) (base : Heap) (k : Nat) (f : Addr) (fd : FuncData) (ps : List Str) (sp : Addr → Str → Sp) : Prop where
  len : ∀ a x vs H Q E, sp a x vs H Q E → vs.length = ps.length
  run : ∀ (A : Around) (outer : List Env) (s : Shared) (H : Hp) (args : Args) (us : List Value) (vs : List V) (Q : VK) (E : XK) (a : Addr) (x : Str) (oe : Obj) (Dd : Addr), L2H.RoomH k A → L2H.Hot1 A (a, oe) → mg x = some (.ref Dd) → Zc (.ref Dd) none oe → L2H.PinOk outer H s (a, oe) → Env0 P w K mg base A outer s H →
    BindsTo s fd args (ps.zip us) → Vals vs us → sp a x vs H Q E → codeAny (model P w) A (.call (.ref f) args) (CR (L2N.CX P w) outer P w H s Q E) s
/-- as spP, no exception comes -/
def spE (K : PySem.W.Frag) (mg : MG) (n : Nat) (F : List D → Rs) : Sp := fun vs H Q E => vs.length = n ∧ ∃ Hf ds, Ex Hf H ∧ Rps K mg Hf vs ds ∧ match F ds with
  | .ok d => ∀ v Hf' H', Ex Hf Hf' → Ex Hf' H' → (∀ a o, H a = some o → Hf a = none → H' a = some o ∧ Hf' a = none) → Rp K mg Hf' v d → Q v H'
  | _ => False
section
variable {P : Program} {w : World} {K : PySem.W.Frag} {mg : MG} {base : Heap}
/-- THE RULE for such a def -/
theorem fn_okE {x qual : Str} {st : Stmt} {f : Addr} {fd : FuncData} {N ps : List Str} {k : Nat} {g : Addr → Str → M Fl} (F : Fun K x qual st f fd) (S : FnScope N ps (defScope st))
    (hbody : ∀ (X : Cx) (a : Addr) (y : Str), X.prog = P → X.w = w → X.K = K → X.mg = mg → X.base = base → L2H.RoomH k X.A → X.A.units + 64 < cLine → HotX X a y → Nm X N (defScope st) (defScope st) → JSs X WF (defBody st) (g a y)) (hle : ps.length ≤ N.length := by decide) :
    FnE P w K mg base (k + 1) f fd ps (fun a y => spE K mg ps.length (runF N.length (g a y))) := by
  obtain ⟨oc, od, kV, doc, pm, an, cdv, ct, osl, e1, lk, hcd⟩ := F.ex
  subst e1
  refine ⟨fun a y vs H Q E h => h.1, fun A outer s H args us vs Q E a y oe Dd hr hot hy hz hpin e0 hb r hsp => ?_⟩
  obtain ⟨hl, Hf, ds, x0, rr, hF⟩ := hsp
  have kx : K.In s.heap := e0.mod.kin.keeps fun b o e => (e0.bs b o e).1
  have li : s.heap.NoLimit := e0.mod.nolimit.keeps fun b o e => (e0.bs b o e).1
  have hkd : ∀ y ∈ ps.zip us, (defScope st).names.lookup y.1 = some .local ∨ ((defScope st).names.lookup y.1 = some .cell ∧ ((cellsFrom (s.heap.objs.size + 1) (defScope st).names []).lookup y.1).isSome = true) := fun ⟨n, v⟩ hy => by
    rcases S.par n (List.of_mem_zip hy).1 with q | q
    · exact .inl q
    · exact .inr ⟨q, PySem.W.cellsFrom_some _ _ _ (.inl q)⟩
  refine codeAny_call_function hr.depth (kx _ _ lk) rfl S.co S.gen rfl (PySem.W.codeRec_of kx hcd) (hb _ _ _ _ ?_)
  refine wpAny_newFunctionEnv_cells S.kind hkd fun env he s1 xi => ?_
  subst he
  refine ⟨li.keeps xi.toInCall.keep, codeAny_func ?_⟩
  obtain ⟨hot1, vsx, hd1, hd2⟩ := hot
  obtain ⟨t, p, ht⟩ := (hbody (L2H.cxH (L2N.CX P w) P w K mg base N qual (defScope st) f cdv A outer s H E (a, oe)) a y rfl rfl rfl rfl rfl (hr.deeper _)
    (by have := hr.un; show A.units + 3 + 64 < cLine; omega) ⟨hot1, oe, vsx, Dd, List.mem_cons_self, hy, hz, hd1, hd2⟩ ⟨rfl, rfl, S.nd, S.kind, fun _ _ => rfl⟩).ex
  have I : Inv (L2H.cxH (L2N.CX P w) P w K mg base N qual (defScope st) f cdv A outer s H E (a, oe)) [] (L2.start N vs) H s1 := L2H.inv_startH S hpin e0 hl r xi
  have hq : t { nx := fun _ H' => Q .non H', rt := Q } (L2.start N vs) H := by
    refine ht _ _ Hf H _ (sr_start x0 rr (by omega)) _ ?_
    unfold runF at hF
    cases q : g a y (envOf N.length ds) with
    | ok fl e' =>
      rw [q] at hF
      cases fl with
      | nx => exact fun σ' Hf' H' x' S' => hF _ Hf' H' x' S'.ex (fg_back S') .non
      | rt d => exact fun σ' Hf' H' x' S' v rv => hF v Hf' H' x' S'.ex (fg_back S') rv
      | bk => exact hF.elim
      | ct => exact hF.elim
    | exc y p e' => rw [q] at hF; exact hF.elim
    | stuck => rw [q] at hF; exact hF.elim
  refine wpAny_mono (p.run [] s1 (L2.start N vs) H _ I hq) (fun fl s' hs => ?_) fun e s' hs => hs
  cases fl with
  | ret u =>
    obtain ⟨v, σ', H', J, rv, q⟩ := hs
    exact ⟨v, H', J.os, J.bare, J.base, J.hok, rv, q⟩
  | next =>
    obtain ⟨σ', H', J, q⟩ := hs
    exact ⟨V.non, H', J.os, J.bare, J.base, J.hok, rfl, q⟩
  | brk =>
    obtain ⟨_, _, _, q⟩ := hs
    exact q.elim
  | cont =>
    obtain ⟨_, _, _, q⟩ := hs
    exact q.elim
end

/-! ### its calls -/
structure CalE (X : Cx) (x : Str) (n : Nat) (F : Addr → Str → List D → Rs) : Prop where
  ex : ∃ k f fd ps, FnE X.prog X.w X.K X.mg X.base k f fd ps (fun a y => spE X.K X.mg n (F a y)) ∧ L2H.RoomH k X.A ∧ X.mg x = some (.ref f) ∧ PySem.W.keepIn X.K (.ref f) = true ∧ Binds X.K fd ps []
theorem BlH.cal {X X' : Cx} (B : BlH X X') {x : Str} {n : Nat} {F : Addr → Str → List D → Rs} (c : CalE X x n F) : CalE X' x n F := by
  obtain ⟨k, f, fd, ps, h, ⟨r1, r2⟩, h2⟩ := c.ex
  refine ⟨⟨k, f, fd, ps, ?_, ⟨by rw [B.dp]; exact r1, by rw [B.un]; exact r2⟩, ?_⟩⟩
  · rw [B.prog, B.w, B.K, B.mg, B.base]; exact h
  · rw [B.K, B.mg]; exact h2
def mCallE (f : M (List D)) (F : List D → Rs) : M D := bnd f fun ds env => match F ds with
  | .ok d => .ok d env | _ => .stuck
section
variable {X : Cx} {W : WX} {e : Expr} {es : List Expr} {pos : Pos} {N : List Str} {sc raw : Scope}
theorem spE_use {n : Nat} {F : List D → Rs} {ps : Fg} {σ : L2.St} {Hf H : Hp} {env : DEnv} {vs : List V} {ds : List D} {Q : VK} {E : XK} (S : SR X.K X.mg ps Hf H σ env) (r : Rps X.K X.mg Hf vs ds) (hn : ds.length = n)
    (h : EG X.K X.mg ps W Hf σ (Pd X.K X.mg Q) ((match F ds with | .ok d => fun env => Res.ok d env | _ => fun _ => .stuck : M D) env)) : spE X.K X.mg n F vs H Q E := by
  refine ⟨by rw [r.length]; exact hn, Hf, ds, S.ex, r, ?_⟩
  cases q : F ds with
  | ok d => rw [q] at h; exact fun v Hf' H' x y z rv => h Hf' H' x (S.after x y z) v rv
  | exc c p => rw [q] at h; exact h
  | stuck => rw [q] at h; exact h
theorem je_callE {x : Str} {p : Pos} {n : Nat} {F : Addr → Str → List D → Rs} {f : M (List D)} {a : Addr} {y : Str} (hx : HotX X a y) (V : Nm X N sc raw) (hG : okG sc x = true) (c : CalE X x n F) (ja : JA X W (e :: es) f) (hn : ∀ env ds env', f env = .ok ds env' → ds.length = n)
    (he : starEach (e :: es) X.env = (false, eval e X.env) :: starEach es X.env := by rfl) (hpl : (backTo pos (starEach es X.env)).any (·.1) = false := by rfl) :
    JE X W (.Call (.Name x p) (e :: es) [] pos) (mCallE f (F a y)) := by
  obtain ⟨hg, hdb, _⟩ := V.g hG
  obtain ⟨k, fa, fd, ps', G, hr, hm, hk, hb⟩ := c.ex
  obtain ⟨t, q, h⟩ := ja.ex
  obtain ⟨hot, oe, vsx, Dd, hmem, hy, hz, hd1, hd2⟩ := hx
  have pe : PE X (.Call (.Name x p) (e :: es) [] pos) (fun σ H Q => t σ H fun vs H1 => spE X.K X.mg n (F a y) vs H1 Q fun _ _ _ => False) := by
    refine ⟨fun pins s σ H Q I h => ?_⟩
    refine wpAny_Call_Name_kw (ld_glob I hg hm ?_ hdb)
    refine PySem.W.callWith_K (h₀ := X.base) I.ok.mod.kin hk (thn (q.run pos pins s σ H _ I h) fun us s1 ⟨vs, H1, I1, r, q⟩ => ⟨I1.kIn, ?_⟩) he hpl
    have hl : us.length = ps'.length := by rw [← r.length]; exact G.len _ _ _ _ _ _ q
    have b := hb s1 us I1.kIn (by rw [List.append_nil]; exact hl)
    rw [List.append_nil] at b
    have P1 := I1.pin (a, oe) (List.mem_append_left _ hmem)
    have hpin : L2H.PinOk X.stack H1 s1 (a, oe) := ⟨P1.1, P1.2.1, fun hm => (List.mem_cons.mp (I1.stkSub a hm)).elim P1.2.2.1 P1.2.2.2.1, P1.2.2.2.2⟩
    refine wpAny_call (codeAny_mono (G.run X.A X.stack s1 H1 ⟨us, []⟩ us vs Q _ a y oe Dd hr ⟨hot, vsx, hd1, hd2⟩ hy hz hpin I1.env0 b r q) fun r s' hq => ?_)
    cases r with
    | error e =>
      obtain ⟨_, _, _, _, _, _, _, _, _, _, _, _, z⟩ := hq
      exact False.elim z
    | ok fl =>
      cases fl with
      | ret u => exact I1.after hq
      | next => exact False.elim hq
      | brk => exact False.elim hq
      | cont => exact False.elim hq
  refine ⟨⟨_, pe, fun ps σ Hf H env S Q z => ?_⟩⟩
  have hq : ∀ ds env', f env = .ok ds env' → ds.length = n := fun ds env' w => hn env ds env' w
  unfold mCallE bnd at z
  refine h ps σ Hf H env S _ ?_
  cases w : f env with
  | ok ds e1 =>
    rw [w] at z
    intro Hf1 H1 x1 S1 vs r
    refine spE_use (W := W) S1 r (hq ds e1 w) ?_
    have z := EG.mono x1 z
    cases q : F a y ds with
    | ok d => simp only [q] at z ⊢; exact z
    | exc c p => simp only [q] at z ⊢; exact z
    | stuck => simp only [q] at z ⊢; exact z
  | exc y p e1 => rw [w] at z; exact z
  | stuck => rw [w] at z; exact z
end
/-- such a def, at the module's name x -/
structure CalleeE (P : Program) (w : World) (K : PySem.W.Frag) (mg : MG) (base : Heap) (x : Str) (k n : Nat) (F : Addr → Str → List D → Rs) : Prop where
  ex : ∃ f fd ps, FnE P w K mg base k f fd ps (fun a y => spE K mg n (F a y)) ∧ mg x = some (.ref f) ∧ PySem.W.keepIn K (.ref f) = true ∧ Binds K fd ps []
theorem CalleeE.calH {X : Cx} {x : Str} {k k' n : Nat} {F : Addr → Str → List D → Rs} (c : CalleeE X.prog X.w X.K X.mg X.base x k n F) (hr : L2H.RoomH k' X.A) (h : k ≤ k' := by decide) : CalE X x n F := by
  obtain ⟨f, fd, ps, G, hm, hk, hb⟩ := c.ex
  exact ⟨⟨k, f, fd, ps, G, hr.mono h, hm, hk, hb⟩⟩
theorem CalleeE.cal {X : Cx} {x : Str} {k k' n : Nat} {F : Addr → Str → List D → Rs} (c : CalleeE X.prog X.w X.K X.mg X.base x k n F) (hr : Room k' X.A) (h : k ≤ k' := by decide) : CalE X x n F := c.calH (L2H.roomH_of hr) h
theorem calleeE_of {P : Program} {w : World} {K : PySem.W.Frag} {mg : MG} {base : Heap} {x : Str} {f : Addr} {fd : FuncData} {ps : List Str} {k n : Nat} {F : Addr → Str → List D → Rs} (G : FnE P w K mg base k f fd ps (fun a y => spE K mg n (F a y))) (hm : mg x = some (.ref f)) (hk : PySem.W.keepIn K (.ref f) = true) (hb : Binds K fd ps []) : CalleeE P w K mg base x k n F := ⟨⟨f, fd, ps, G, hm, hk, hb⟩⟩

/-! ### try .. except T as e -/
/-- the catches' table: (x, T, whether except T catches an x) -/
def CatOk (K : PySem.W.Frag) (mg : MG) (tab : ETab) : Prop := ∀ x T b, (x, T, b) ∈ tab → ∃ (Dd : Addr) (u : Value), mg x = some (.ref Dd) ∧ mg T = some u ∧ PySem.W.exmOne K (.ref Dd) u = some b
theorem catOk_nil {K : PySem.W.Frag} {mg : MG} : CatOk K mg [] := fun _ _ _ h => by cases h
theorem catOk_cons {K : PySem.W.Frag} {mg : MG} {x T : Str} {b : Bool} {r : ETab} (h : ∃ (Dd : Addr) (u : Value), mg x = some (.ref Dd) ∧ mg T = some u ∧ PySem.W.exmOne K (.ref Dd) u = some b) (t : CatOk K mg r) : CatOk K mg ((x, T, b) :: r) := fun x' T' b' m => by
  rcases List.mem_cons.mp m with e | e
  · cases e; exact h
  · exact t x' T' b' e
def unS (i : Nat) : Res Fl → Res Fl
  | .ok .nx e => .ok .nx (e.set i .no)
  | .ok .bk e => .ok .bk (e.set i .no)
  | .ok .ct e => .ok .ct (e.set i .no)
  | .ok (.rt d) e => .ok (.rt d) e
  | .exc _ _ _ => .stuck
  | .stuck => .stuck
open Classical in
/-- the suite, whatever the exception's address -/
noncomputable def mCatch (i : Nat) (fs : Addr → M Fl) : M Fl := fun env =>
  if ∀ a b, unS i (fs a (env.set i (.val (.opq a)))) = unS i (fs b (env.set i (.val (.opq b)))) then unS i (fs (0 : Nat) (env.set i (.val (.opq (0 : Nat))))) else .stuck
theorem mCatch_eq {i : Nat} {fs : Addr → M Fl} {env : DEnv} {r : Res Fl} (h : ∀ a, unS i (fs a (env.set i (.val (.opq a)))) = r) : mCatch i fs env = r := by
  unfold mCatch
  rw [if_pos fun a b => (h a).trans (h b).symm]
  exact h _
noncomputable def mTryAs (i : Nat) (tab : ETab) (T : Str) (fb : M Fl) (fs : Addr → Str → M Fl) : M Fl := fun env => match fb env with
  | .exc x none e' => (match tabAt tab x T with
    | some true => mCatch i (fun a => fs a x) e'
    | some false => .exc x none e'
    | none => .stuck)
  | .exc _ (some _) _ => .stuck
  | r => r
section
variable {X : Cx} {W : WX} {pos : Pos} {N : List Str} {sc raw : Scope}
theorem js_try_as {tab : ETab} {T n : Str} {i : Nat} {np pos' : Pos} {body suite : List Stmt} {b0 : Stmt} {fb : M Fl} {fs : Addr → Str → M Fl} (C : CtxOk X W) (V : Nm X N sc raw) (Y : Df X) (hi : okS N sc raw i n = true) (hl : sc.names.lookup n = some .local) (hT : okG sc T = true) {u : Value} (hu : X.mg T = some u) (TO : CatOk X.K X.mg tab)
    (jb : ∀ (X' : Cx) (W' : WX), CtxOk X' W' → Nm X' N sc raw → Df X' → Bl X X' → JSs X' W' body fb)
    (jh : ∀ (X' : Cx) (a : Addr) (y : Str), HotX X' a y → Nm X' N sc raw → BlH X X' → JSs X' WF (b0 :: suite) (fs a y)) :
    JS X W (.Try body [.ExceptHandler (some (.Name T np)) (some n) (b0 :: suite) pos'] [] [] pos) (mTryAs i tab T fb fs) := by
  obtain ⟨hg, hdb, _⟩ := V.g hT
  obtain ⟨hN, _, _⟩ := V.s hi
  refine ⟨⟨_, L2N.ps_try_as (i := i) (n := n) (c := u) (Wout := W) Y.hs Y.hf V.nodup hN (by unfold Env.kindOf; rw [V.hs]; exact hl) ⟨hg, hdb, .inl hu⟩ C.tk
    (tb := fun W' De σ H => ∀ pn xe, L2N.Takes (X.tr pn xe) W' → PassesOwn (model X.prog X.w) X.A X.env xe → tAll (X.tr pn xe) body De σ H)
    (ts := fun a cls d De σ H => ∀ oe pn, L2N.Zn cls d oe → (∃ vs, oe.data = .fields vs) → tAll (X.suite a ((a, oe) :: pn)) (b0 :: suite) De σ H)
    (fun W' pn xe tk po => ⟨fun pins s σ H De I h => tAll_ok.run pins s σ H De I (h pn xe tk po)⟩)
    (fun a oe cls d pn hz hv => ⟨fun pins s σ H De I h => tAll_ok.run pins s σ H De I (h oe pn hz hv)⟩), fun ps σ Hf H env S De z => ?_⟩⟩
  intro pn xe tk po
  refine tAll_of (X := X.tr pn xe) (W := wAs X.K u i _ W De) (jb (X.tr pn xe) _ ⟨C.calm, C.hu, po, tk⟩ ⟨V.hN, V.hs, V.nd, V.kind, V.fn⟩ ⟨Y.hs, Y.hf⟩ ⟨rfl, rfl, rfl, rfl, rfl, rfl⟩) S ?_
  unfold mTryAs at z
  cases q : fb env with
  | ok fl e' => rw [q] at z; exact z
  | stuck => rw [q] at z; exact z
  | exc x p e' =>
    rw [q] at z
    cases p with
    | some d => exact False.elim z
    | none =>
      dsimp only at z
      cases w : tabAt tab x T with
      | none => rw [w] at z; exact False.elim z
      | some b =>
        rw [w] at z
        obtain ⟨Dd, u', hx, hT', hex⟩ := TO x T b (tabAt_mem w)
        cases (hu.symm.trans hT')
        intro cls dd σ' Hf' H' x' S' ie
        obtain ⟨ie1, ie2⟩ := ie
        cases (hx.symm.trans ie1)
        cases ie2
        refine ⟨b, hex, fun hb a ha oe pn' hz hv => ?_, fun hb => ?_⟩
        · subst hb
          obtain ⟨vs, hv⟩ := hv
          refine tAll_of (X := X.suite a ((a, oe) :: pn')) (W := WF) (jh (X.suite a ((a, oe) :: pn')) a x ⟨rfl, oe, vs, Dd, List.mem_cons_self, hx, hz.zc, hv, hz.2.2 vs hv⟩ ⟨V.hN, V.hs, V.nd, V.kind, V.fn⟩ ⟨rfl, rfl, rfl, rfl, rfl, rfl, rfl⟩) (S'.put i (.opq a)) ?_
          have z : SG X.K X.mg ps W De Hf (mCatch i (fun a => fs a x) e') := z
          unfold mCatch at z
          split at z
          · rename_i hall
            rw [hall _ a] at z
            have z : SG X.K X.mg ps W De Hf (unS i (fs a x (List.set e' i (Sl.val (D.opq a))))) := z
            cases r : fs a x (e'.set i (.val (.opq a))) with
            | ok fl e2 =>
              rw [r] at z
              cases fl with
              | nx => exact fun σ2 Hf2 H2 x2 S2 => z _ Hf2 H2 (x'.trans x2) (S2.drop i none)
              | bk => exact fun σ2 Hf2 H2 x2 S2 => z _ Hf2 H2 (x'.trans x2) (S2.drop i none)
              | ct => exact fun σ2 Hf2 H2 x2 S2 => z _ Hf2 H2 (x'.trans x2) (S2.drop i none)
              | rt d => exact fun σ2 Hf2 H2 x2 S2 => z σ2 Hf2 H2 (x'.trans x2) S2
            | exc y p e2 => rw [r] at z; exact False.elim z
            | stuck => rw [r] at z; exact False.elim z
          · exact False.elim z
        · subst hb
          exact z (.ref Dd) none σ' Hf' H' x' S' ⟨hx, rfl⟩
end
end DL

/-! DLg: name = [..], slices. -/
namespace DL
open PySem PySem.Spec PyProof.Rows L2 Evl
section
variable {X : Cx} {W : WX} {a b c e : Expr} {es : List Expr} {fa fb fc : M D} {pos : Pos} {N : List Str} {sc raw : Scope}
theorem js_setLc {i : Nat} {y : Str} {py spos : Pos} {scope : Scope} {own : List (Str × Nat)} {vs : List Nat} {tg iter elt : Expr} {ifs : List Expr} {fi : M (List D)} {g : D → M Unit} {tt : M Bool} {el : M D} (C : CtxOk X W) (V : Nm X N sc raw) (hS : okS N sc raw i y = true) (hl : sc.names.lookup y = some .local) (hb : blkC N sc scope own = true) (hvs : own.map (·.2) = vs)
    (hp : (py.line == pos.line) = true) (hna : (scope.names.any fun (n, k) => n == y && (k == .local || k == .cell)) = false)
    (ji : JI X W tg iter fi) (jg : InBl X N sc scope fun X' => JGv X' vs tg g) (jt : InBl X N sc scope fun X' => JTs X' WF ifs tt) (je : InBl X N sc scope fun X' => JE X' WF elt el) (hs : ∀ x, foldedSetIterable iter X.env x = pure x := by intro _; rfl) :
    JS X W (.Assign [.Name y py] (.ListComp elt [⟨tg, iter, ifs, 0⟩] scope pos) spos) (mAsg i (mLc vs fi g tt el)) := by
  subst hvs
  obtain ⟨hi, hx, hf⟩ := V.s hS
  obtain ⟨wi, g', tt', te, pi, ok, pg, pt, pe, h⟩ := lc_ok C V hb ji jg jt je
  have hll : X.env.scope.names.lookup y = some .local := by rw [V.hs]; exact hl
  refine ⟨⟨_, ps_setLc C.calm V.nodup hi hll (sw_true (by rw [V.hs]; exact V.kind) hll hp hna) pi ok pg pt pe hs, fun ps σ Hf H env S De z => ?_⟩⟩
  have z : EG X.K X.mg ps W Hf σ (Pd X.K X.mg fun v H' => De.nx (σ.set i (some v)) H') (mLc (own.map (·.2)) fi g tt el env) := SG.bnd z fun d e' Hf' H' x S' h1 v r => h1 _ Hf' H' (Ex.refl _) (S'.put i r)
  exact h ps σ Hf H env S (fun v H' => De.nx (σ.set i (some v)) H') (fun Hf r => EG X.K X.mg ps W Hf σ (Pd X.K X.mg fun v H' => De.nx (σ.set i (some v)) H') r) ⟨fun x r => EG.mono x r, fun _ z => z, fun z => z, fun {Hf H e p vacc acc} S hp nf ng r no z => z _ _ (Ex.new nf) (S.freezes hp nf ng no) _ (.lst (.inl (.inl upd_same)) (r.mono (Ex.new nf)))⟩ z

/-! ### slices -/
structure JO (X : Cx) (W : WX) (e : Option Expr) (f : M (Option Int)) : Prop where
  ex : ∃ t, PO X e t ∧ ∀ (ps : Fg) (σ : L2.St) (Hf H : Hp) (env : DEnv), SR X.K X.mg ps Hf H σ env → ∀ Q : Option Int → Hp → Prop, EG X.K X.mg ps W Hf σ (fun o _ H' => Q o H') (f env) → t σ H Q
def oNone : M (Option Int) := ret none
def oSome (f : M D) : M (Option Int) := bnd f fun d => match d with | .int i => ret (some i) | _ => stk
theorem jo_none : JO X W none oNone := ⟨⟨_, po_none, fun ps σ Hf H env S Q z => EG.ret (W := W) (P := fun o _ H' => Q o H') z S⟩⟩
theorem jo_some (j : JE X W e fa) : JO X W (some e) (oSome fa) := by
  obtain ⟨t, p, h⟩ := j.ex
  refine ⟨⟨_, po_some p, fun ps σ Hf H env S Q z => h ps σ Hf H env S _ (EG.bnd z fun d e1 Hf1 H1 x1 S1 h1 v r => ?_)⟩⟩
  split at h1
  · rename_i i
    rw [r.int_inv]
    exact ⟨i, rfl, EG.ret (W := W) (P := fun o _ H' => Q o H') h1 S1⟩
  · exact h1.elim
def cutD (xs : List D) (lo hi : Option Int) : List D := (xs.drop (HT.sIx xs.length 0 lo)).take (HT.sIx xs.length xs.length hi - HT.sIx xs.length 0 lo)
theorem rps_drop {K : PySem.W.Frag} {mg : MG} {H : Hp} {vs : List L2.V} {ds : List D} (r : Rps K mg H vs ds) : ∀ n : Nat, Rps K mg H (vs.drop n) (ds.drop n) := fun n => by
  induction n generalizing vs ds with
  | zero => exact r
  | succ n ih =>
    cases r with
    | nil => exact .nil
    | cons r1 r2 => exact ih r2
theorem rps_take {K : PySem.W.Frag} {mg : MG} {H : Hp} {vs : List L2.V} {ds : List D} (r : Rps K mg H vs ds) : ∀ n : Nat, Rps K mg H (vs.take n) (ds.take n) := fun n => by
  induction n generalizing vs ds with
  | zero => exact .nil
  | succ n ih =>
    cases r with
    | nil => exact .nil
    | cons r1 r2 => exact .cons r1 (ih r2)
theorem rps_cut {K : PySem.W.Frag} {mg : MG} {H : Hp} {vs : List L2.V} {ds : List D} (r : Rps K mg H vs ds) (lo hi : Option Int) : Rps K mg H (cutV vs lo hi) (cutD ds lo hi) := by
  unfold cutV cutD
  rw [r.length]
  exact rps_take (rps_drop r _) _
def dSlice (x : D) (lo hi : Option Int) : M D := match x with
  | .lst l => ret (.lst (cutD l lo hi))
  | .tup l => ret (.tup (cutD l lo hi))
  | .str z => if z.length ≤ sizeLine then ret (.str (cutS z lo hi)) else stk
  | _ => stk
def mSlice (fa : M D) (fl fu : M (Option Int)) : M D := bnd fa fun x => bnd fl fun l => bnd fu fun u => dSlice x l u
theorem je_slice {lo hi : Option Expr} {p2 : Pos} {fl fu : M (Option Int)} (ja : JE X W a fa) (jl : JO X W lo fl) (ju : JO X W hi fu) : JE X W (.Subscript a (.Slice lo hi none p2) pos) (mSlice fa fl fu) := by
  obtain ⟨t, p, h⟩ := ja.ex
  obtain ⟨tl, pl, hl⟩ := jl.ex
  obtain ⟨tu, pu, hu⟩ := ju.ex
  refine ⟨⟨_, pe_slice ((sl_list.or sl_tupA).or sl_str) p pl pu, fun ps σ Hf H env S Q z => ?_⟩⟩
  refine h ps σ Hf H env S _ (EG.bnd z fun x e1 Hf1 H1 x1 S1 z1 v rv => ?_)
  refine hl ps σ Hf1 H1 e1 S1 _ (EG.bnd z1 fun l e2 Hf2 H2 x2 S2 z2 => ?_)
  refine hu ps σ Hf2 H2 e2 S2 _ (EG.bnd z2 fun u e3 Hf3 H3 x3 S3 z3 => ?_)
  have rv := (rv.mono x2).mono x3
  unfold dSlice at z3
  split at z3
  · cases rv with
    | lst hq r => exact .inl (.inl ⟨_, _, rfl, ex_l S3.ex hq, new_lst S3 (rps_cut r l u) z3⟩)
  · cases rv with
    | tup hq r =>
      refine .inl (.inr ⟨_, _, rfl, ex_t S3.ex hq, fun hw => ?_, fun _ => new_tup S3 (rps_cut r l u) z3⟩)
      have e := z3.ret S3 _ (.tup hq (by
        have k := rps_cut r l u
        have e : ∀ {α : Type} (n : Nat) (ys : List α), ys.length = n → (ys.drop 0).take (n - 0) = ys := fun n ys hn => by rw [List.drop_zero, Nat.sub_zero, List.take_of_length_le (by omega)]
        unfold cutV at k
        rw [hw.1, hw.2, e _ _ rfl] at k
        exact k))
      exact e
  · split at z3
    · rename_i hz
      rw [rv.str_inv]
      exact .inr ⟨_, rfl, hz, z3.ret S3 _ (.str _)⟩
    · exact z3.elim
  · exact z3.elim
end
/-! ### facts about classes, of smaller ones -/
theorem kit_self {K : PySem.W.Frag} {C : Addr} : PySem.W.kitOne K (.ref C) (.ref C) = some true := by
  unfold PySem.W.kitOne
  rw [if_pos (by simp)]
theorem kit_own {K : PySem.W.Frag} {C Dd : Addr} {b : Bool} (hn : (C == Dd) = false) (hd : PySem.W.hasDictIn K Dd = true) (ht : PySem.W.typeIn K (.ref Dd) = some (.type "type")) (hs : PySem.W.subIn K (.ref C) (.ref Dd) = some b) : PySem.W.kitOne K (.ref C) (.ref Dd) = some b := by
  obtain ⟨cd, hc, _⟩ := PySem.W.any_some hd
  unfold PySem.W.kitOne PySem.W.kitCls
  rw [if_neg (fun z => by
    have e := eq_of_beq z
    cases e
    simp at hn)]
  dsimp only
  rw [if_pos (by rw [hc, ht] <;> rfl)]
  exact hs
theorem kit_ty {K : PySem.W.Frag} {C : Addr} {T : String} {b : Bool} (hs : PySem.W.subIn K (.ref C) (.type T) = some b) (hm : PySem.W.kitMeta T = true) : PySem.W.kitOne K (.ref C) (.type T) = some b := by
  unfold PySem.W.kitOne PySem.W.kitCls
  rw [if_neg (fun z => by
    have e := eq_of_beq z
    cases e)]
  dsimp only
  rw [if_pos hm]
  exact hs
end DL

/-! DLk: own lists (made, appended to, items set), ranges with steps, texts, module constants. -/
namespace DL
open PySem PySem.Spec PyProof.Rows L2 Evl
/-! ### a fresh list -/
def FGd (K : PySem.W.Frag) (mg : MG) (ps : Fg) (W : WX) (Hf : Hp) (σ : L2.St) (Q : VK) : Res (List D) → Prop
  | .ok ds e' => ∀ Hf' H' p vs, Ex Hf Hf' → SR K mg ps Hf' H' σ e' → H' p = some (.lst vs) → Hf' p = none → ps.g p = none → Rps K mg Hf' vs ds → (∀ (i : Nat) (k : Option Nat) (l : OD), e'[i]? = some (.own k l) → σ[i]? = some (some (.ref p)) → False) → Q (.ref p) H'
  | .exc x p e' => ∀ cls dd Hf' H', Ex Hf Hf' → SR K mg ps Hf' H' σ e' → IsExc K mg Hf' x p cls dd → W cls dd σ H'
  | .stuck => False
theorem FGd.mono {K : PySem.W.Frag} {mg : MG} {ps : Fg} {W : WX} {Hf Hf' : Hp} {σ : L2.St} {Q : VK} (x : Ex Hf Hf') : ∀ {r : Res (List D)}, FGd K mg ps W Hf σ Q r → FGd K mg ps W Hf' σ Q r
  | .ok _ _, h => fun Hf2 H2 p vs y s => h Hf2 H2 p vs (x.trans y) s
  | .exc _ _ _, h => fun c d Hf2 H2 y s z => h c d Hf2 H2 (x.trans y) s z
  | .stuck, h => h
structure JF (X : Cx) (W : WX) (e : Expr) (f : M (List D)) : Prop where
  ex : ∃ t, PE X e t ∧ ∀ (ps : Fg) (σ : L2.St) (Hf H : Hp) (env : DEnv), SR X.K X.mg ps Hf H σ env → ∀ Q : VK, FGd X.K X.mg ps W Hf σ Q (f env) → t σ H Q
section
variable {X : Cx} {W : WX} {a b c e : Expr} {es : List Expr} {fa fb fc : M D} {pos : Pos} {N : List Str} {sc raw : Scope} {f : M (List D)}
/-- a new list, laid by an expression, is nobody's -/
theorem lay_new {ps : Fg} {σ : L2.St} {Hf H : Hp} {env : DEnv} {Q : VK} {l : List D} {vs : List L2.V} (S : SR X.K X.mg ps Hf H σ env) (r : Rps X.K X.mg Hf vs l)
    (q : FGd X.K X.mg ps W Hf σ Q (.ok l env)) : ∀ p, H p = none → Q (.ref p) (upd H p (.lst vs)) := fun p np => by
  refine q Hf _ p vs (Ex.refl _) (S.laid np) upd_same (fresh_back S.ex np) ?_ r fun i k od h h2 => ?_
  · cases w : ps.g p with
    | none => rfl
    | some o => have := (S.fg p o w).1; rw [np] at this; cases this
  · obtain ⟨p', o, a1, _, a3, _⟩ := S.own h
    rw [h2] at a1; cases a1
    rw [np] at a3; cases a3
def mFl (f : M (List D)) : M (List D) := bnd f fun ds => if szOk ds.length then ret ds else stk
theorem fg_bnd {α : Type} {K : PySem.W.Frag} {mg : MG} {ps : Fg} {Hf : Hp} {σ : L2.St} {env : DEnv} {Q : VK} {m : M α} {g : α → M (List D)} {P1 : α → Hp → Hp → Prop} (h : FGd K mg ps W Hf σ Q (bnd m g env)) (hk : ∀ a e' Hf' H', Ex Hf Hf' → SR K mg ps Hf' H' σ e' → FGd K mg ps W Hf' σ Q (g a e') → P1 a Hf' H') : EG K mg ps W Hf σ P1 (m env) := by
  unfold bnd at h
  cases q : m env with
  | ok a e' => rw [q] at h; exact fun Hf2 H2 y s => hk a e' Hf2 H2 y s (FGd.mono y h)
  | exc x p e' => rw [q] at h; exact h
  | stuck => rw [q] at h; exact h
theorem jf_lst {f : M (List D)} (j : JA X W es f) : JF X W (.List es pos) (mFl f) := by
  obtain ⟨t, p, h⟩ := j.ex
  refine ⟨⟨_, pe_lst p, fun ps σ Hf H env S Q z => ?_⟩⟩
  refine h ps σ Hf H env S _ (fg_bnd z fun xs e1 Hf1 H1 x1 S1 h1 vs rvs => ?_)
  split at h1
  · rename_i hz
    exact ⟨by rw [rvs.length]; exact hz, lay_new S1 rvs h1⟩
  · exact h1.elim
def cListF : List D → M (List D) := fun ds => match ds with | [.lst l] => ret l | [.tup l] => ret l | _ => stk
def unL (m : M D) : M (List D) := fun env => match m env with | .ok (.lst l) e => .ok l e | .exc x p e => .exc x p e | _ => .stuck
theorem jf_lc {scope : Scope} {own : List (Str × Nat)} {vs : List Nat} {tg iter elt : Expr} {ifs : List Expr} {fi : M (List D)} {g : D → M Unit} {tt : M Bool} {el : M D} (C : CtxOk X W) (V : Nm X N sc raw) (hb : blkC N sc scope own = true) (hvs : own.map (·.2) = vs)
    (ji : JI X W tg iter fi) (jg : InBl X N sc scope fun X' => JGv X' vs tg g) (jt : InBl X N sc scope fun X' => JTs X' WF ifs tt) (je : InBl X N sc scope fun X' => JE X' WF elt el) (hs : ∀ x, foldedSetIterable iter X.env x = pure x := by intro _; rfl) :
    JF X W (.ListComp elt [⟨tg, iter, ifs, 0⟩] scope pos) (unL (mLc vs fi g tt el)) := by
  subst hvs
  obtain ⟨wi, g', tt', te, pi, ok, pg, pt, pe, h⟩ := lc_ok C V hb ji jg jt je
  refine ⟨⟨_, pe_lc C.calm V.nodup pi ok pg pt pe hs, fun ps σ Hf H env S Q z => h ps σ Hf H env S Q (fun Hf r => FGd X.K X.mg ps W Hf σ Q (match r with | .ok (.lst l) e => .ok l e | .exc x p e => .exc x p e | _ => .stuck)) ⟨fun x r => FGd.mono x r, fun _ z => z, fun z => z, fun {Hf H e p vacc acc} S hp nf ng r no z => z Hf H p vacc (Ex.refl _) S hp nf ng r no⟩ z⟩⟩
def mOwn (i : Nat) (f : M (List D)) : M Fl := bnd f fun ds env => .ok .nx (env.set i (.own none (.lst ds)))
theorem own_set {ps : Fg} {σ : L2.St} {Hf : Hp} {env : DEnv} {De : Ends} {i : Nat} (z : SG X.K X.mg ps W De Hf (mOwn i f env)) : FGd X.K X.mg ps W Hf σ (fun v H' => De.nx (σ.set i (some v)) H') (f env) := by
  unfold mOwn bnd at z
  cases q : f env with
  | ok ds e' =>
    rw [q] at z
    exact fun Hf' H' p vs x S hp nf ng r no => z _ Hf' H' x (S.take i hp nf ng ⟨vs, rfl, r⟩ no)
  | exc x p e' => rw [q] at z; exact fun cls dd Hf' H' x S ie => z cls dd σ Hf' H' x S ie
  | stuck => rw [q] at z; exact z
theorem js_own (V : Nm X N sc raw) {i : Nat} {x : Str} {pos' : Pos} (hS : okS N sc raw i x = true) (j : JF X W e f)
    (hs : swapsWith e (some (.Name x pos')) pos.line X.env = pure false := by rfl) : JS X W (.Assign [.Name x pos'] e pos) (mOwn i f) := by
  obtain ⟨hi, hx, hf⟩ := V.s hS
  have hN := V.nodup
  obtain ⟨t, p, h⟩ := j.ex
  exact ⟨⟨_, ps_set (i := i) hN hi hx p hs hf, fun ps σ Hf H env S De z => h ps σ Hf H env S _ (own_set z)⟩⟩
theorem js_ownLc {i : Nat} {y : Str} {py spos : Pos} {scope : Scope} {own : List (Str × Nat)} {vs : List Nat} {tg iter elt : Expr} {ifs : List Expr} {fi : M (List D)} {g : D → M Unit} {tt : M Bool} {el : M D} (C : CtxOk X W) (V : Nm X N sc raw) (hS : okS N sc raw i y = true) (hl : sc.names.lookup y = some .local) (hb : blkC N sc scope own = true) (hvs : own.map (·.2) = vs)
    (hp : (py.line == pos.line) = true) (hna : (scope.names.any fun (n, k) => n == y && (k == .local || k == .cell)) = false)
    (ji : JI X W tg iter fi) (jg : InBl X N sc scope fun X' => JGv X' vs tg g) (jt : InBl X N sc scope fun X' => JTs X' WF ifs tt) (je : InBl X N sc scope fun X' => JE X' WF elt el) (hs : ∀ x, foldedSetIterable iter X.env x = pure x := by intro _; rfl) :
    JS X W (.Assign [.Name y py] (.ListComp elt [⟨tg, iter, ifs, 0⟩] scope pos) spos) (mOwn i (unL (mLc vs fi g tt el))) := by
  subst hvs
  obtain ⟨hi, hx, hf⟩ := V.s hS
  obtain ⟨wi, g', tt', te, pi, ok, pg, pt, pe, h⟩ := lc_ok C V hb ji jg jt je
  have hll : X.env.scope.names.lookup y = some .local := by rw [V.hs]; exact hl
  refine ⟨⟨_, ps_setLc C.calm V.nodup hi hll (sw_true (by rw [V.hs]; exact V.kind) hll hp hna) pi ok pg pt pe hs, fun ps σ Hf H env S De z => ?_⟩⟩
  have z := own_set (σ := σ) z
  exact h ps σ Hf H env S (fun v H' => De.nx (σ.set i (some v)) H') (fun Hf r => FGd X.K X.mg ps W Hf σ (fun v H' => De.nx (σ.set i (some v)) H') (match r with | .ok (.lst l) e => .ok l e | .exc x p e => .exc x p e | _ => .stuck)) ⟨fun x r => FGd.mono x r, fun _ z => z, fun z => z, fun {Hf H e p vacc acc} S hp nf ng r no z => z Hf H p vacc (Ex.refl _) S hp nf ng r no⟩ z
/-! ### x.append(e) -/
def ownAt (env : DEnv) (i : Nat) : Option (Option Nat × List D) := match env[i]? with | some (.own k (.lst l)) => some (k, l) | _ => none
theorem ownAt_eq {env : DEnv} {i : Nat} {k : Option Nat} {l : List D} (h : ownAt env i = some (k, l)) : env[i]? = some (.own k (.lst l)) := by
  unfold ownAt at h
  split at h
  · rename_i k' l' q; cases h; exact q
  · cases h
def kApp (i : Nat) (d : D) : M Fl := fun env => match ownAt env i with
  | some (k, l) => if l.length < sizeLine then .ok .nx (env.set i (.own k (.lst (l ++ [d])))) else .stuck
  | none => .stuck
def mApp (i : Nat) (f : M D) : M Fl := fun env => match ownAt env i with | some _ => bnd f (kApp i) env | none => .stuck
theorem rps_snoc {K : PySem.W.Frag} {mg : MG} {H : Hp} {vs : List L2.V} {ds : List D} {v : L2.V} {d : D} (r : Rps K mg H vs ds) (r2 : Rp K mg H v d) : Rps K mg H (vs ++ [v]) (ds ++ [d]) := by
  induction ds generalizing vs with
  | nil => cases r; exact .cons r2 .nil
  | cons d' ds ih => cases r with | cons r1 rr => exact .cons r1 (ih rr)
theorem js_app {x : Str} {i : Nat} {p1 p2 p3 pos2 : Pos} (V : Nm X N sc raw) (hv : okV N sc i x = true) (j : JE X W e fa)
    (hbase : attributeBase (.Name x p1) "append" X.env (eval (.Name x p1) X.env) = eval (.Name x p1) X.env := by rfl)
    (hfew : ((backTo p3 (starEach [e] X.env)).all (fun x => !x.1) && (backToKw p3 (keywordEach [] X.env)).all (fun x => x.1.isSome)
      && decide ([e].length + ([] : List Keyword).length + (if ([] : List Keyword).isEmpty then 0 else 1) < 30)) = true := by rfl)
    (hline : (p2.endLine == p3.line) = true := by rfl) (hs : starEach [e] X.env = (false, eval e X.env) :: starEach [] X.env := by rfl) (hplain : (backTo p3 (starEach [] X.env)).any (·.1) = false := by rfl)
    (hsw : swapsWith (.Call (.Attribute (.Name x p1) "append" p2) [e] [] p3) none pos2.line X.env = pure false := by rfl) :
    JS X W (.Expr (.Call (.Attribute (.Name x p1) "append" p2) [e] [] p3) pos2) (mApp i fa) := by
  obtain ⟨hN, hvi, hd, hcd⟩ := V.v hv
  obtain ⟨t, p, h⟩ := j.ex
  refine ⟨⟨_, ps_expr (pe_bm PySem.F.plainAttrs_list PySem.F.slot_list_append PySem.F.type_list_append mt_append (pe_var hN hvi hd hcd) (pa_cons p pa_nil hs) hbase hfew hline hs hplain) hsw, fun ps σ Hf H env S De z => ?_⟩⟩
  unfold mApp at z
  cases w : ownAt env i with
  | none => rw [w] at z; exact z.elim
  | some kl =>
    obtain ⟨k, l⟩ := kl
    rw [w] at z
    obtain ⟨pa, o, hp, nf, ho, ⟨vs, e1, r⟩, hk⟩ := S.own (ownAt_eq w)
    subst e1
    refine ⟨.ref pa, hp, .inl ⟨rfl, vs, .inl (.inl ho)⟩, ?_⟩
    refine h ps σ Hf H env S _ (SG.bnd z fun d e1 Hf1 H1 x1 S1 z1 v rv => ?_)
    unfold kApp at z1
    cases w1 : ownAt e1 i with
    | none => rw [w1] at z1; exact z1.elim
    | some kl1 =>
      obtain ⟨k1, l1⟩ := kl1
      rw [w1] at z1
      dsimp only at z1
      by_cases hz : l1.length < sizeLine
      · rw [if_pos hz] at z1
        obtain ⟨p1, o1, hp1, nf1, ho1, ⟨vs1, e2, r1⟩, hk1⟩ := S1.own (ownAt_eq w1)
        subst e2
        rw [hp] at hp1; cases hp1
        exact ⟨pa, vs1, v, rfl, rfl, ho1, by rw [r1.length]; exact hz, z1 σ Hf1 _ (Ex.refl _) (S1.turn (ownAt_eq w1) hp ⟨vs1 ++ [v], rfl, rps_snoc r1 rv⟩)⟩
      · rw [if_neg hz] at z1; exact z1.elim
/-! ### x[k] = e -/
def kSet (i : Nat) (d kd : D) : M Fl := fun env => match kd, ownAt env i with
  | .int j, some (k, l) => (match ixN l.length j with | some n => .ok .nx (env.set i (.own k (.lst (l.set n d)))) | none => .stuck)
  | _, _ => .stuck
def mSetI (i : Nat) (fi fv : M D) : M Fl := bnd fv fun d env => match ownAt env i with | some _ => bnd fi (fun kd => kSet i d kd) env | none => .stuck
theorem rps_set {K : PySem.W.Frag} {mg : MG} {H : Hp} {vs : List L2.V} {ds : List D} {v : L2.V} {d : D} (r : Rps K mg H vs ds) (r2 : Rp K mg H v d) : ∀ n, Rps K mg H (vs.set n v) (ds.set n d) := fun n => by
  induction ds generalizing vs n with
  | nil => cases r; exact .nil
  | cons d' ds ih => cases r with
    | cons r1 rr => cases n with
      | zero => exact .cons r2 rr
      | succ n => exact .cons r1 (ih rr n)
theorem js_setI {x : Str} {i : Nat} {p1 p2 : Pos} (V : Nm X N sc raw) (hv : okV N sc i x = true) (j : JE X W e fa) (k : JE X W b fb)
    (ha : ∀ v, assign (.Subscript (.Name x p1) b p2) X.env v = (do
      let ov ← holding [v] (eval (.Name x p1) X.env)
      let iv ← holding [v, ov] (eval b X.env)
      standAt p2
      holding [v, ov, iv] (setItem ov iv v)
      release [v, ov, iv] []) := by intro _; rfl)
    (hs : swapsWithSole [.Subscript (.Name x p1) b p2] e pos.line X.env = pure false := by rfl) (hw : swappedStores [.Subscript (.Name x p1) b p2] e X.env = pure none := by rfl) (h1 : (assignEach [.Subscript (.Name x p1) b p2] X.env).map (·.2) = [assign (.Subscript (.Name x p1) b p2) X.env] := by rfl) :
    JS X W (.Assign [.Subscript (.Name x p1) b p2] e pos) (mSetI i fb fa) := by
  obtain ⟨hN, hvi, hd, hcd⟩ := V.v hv
  obtain ⟨t, p, h⟩ := j.ex
  obtain ⟨tb, pb, hb⟩ := k.ex
  refine ⟨⟨_, ps_asg p (pg_sub (pe_var hN hvi hd hcd) pb set_list ha) hs hw h1, fun ps σ Hf H env S De z => ?_⟩⟩
  refine h ps σ Hf H env S _ (SG.bnd z fun d e1 Hf1 H1 x1 S1 z1 v rv => ?_)
  cases w : ownAt e1 i with
  | none => rw [w] at z1; exact z1.elim
  | some kl =>
    obtain ⟨kk, l⟩ := kl
    rw [w] at z1
    obtain ⟨pa, o, hp, nf, ho, ⟨vs, e2, r⟩, hk⟩ := S1.own (ownAt_eq w)
    refine ⟨.ref pa, hp, ?_⟩
    refine hb ps σ Hf1 H1 e1 S1 _ (SG.bnd z1 fun kd e3 Hf3 H3 x3 S3 z3 u ru => ?_)
    unfold kSet at z3
    split at z3
    · rename_i jj k3 l3 w3
      split at z3
      · rename_i n hn
        obtain ⟨p3, o3, hp3, nf3, ho3, ⟨vs3, e4, r3⟩, hk3⟩ := S3.own (ownAt_eq w3)
        subst e4
        rw [hp] at hp3; cases hp3
        exact ⟨pa, vs3, jj, n, rfl, ru.int_inv, ho3, by rw [r3.length]; exact hn, z3 σ Hf3 _ (Ex.refl _) (S3.turn (ownAt_eq w3) hp ⟨vs3.set n v, rfl, rps_set r3 (rv.mono x3) n⟩)⟩
      · exact z3.elim
    · exact z3.elim
/-! ### range with a step -/
def rng3D (i c : Int) (n : Nat) : List D := (List.range n).map fun (k : Nat) => .int (i + (k : Int) * c)
theorem itok_range3 {K : PySem.W.Frag} {mg : MG} {Hf : Hp} {lo c : Int} {n : Nat} : ItOk K mg Hf (Itc lo c n) (rng3D lo c n) where
  go := fun i d hd ps σ env Hf2 H2 x S => by
    unfold rng3D at hd
    rw [List.getElem?_map] at hd
    have hi : i < n := by
      cases q : (List.range n)[i]? with
      | none => rw [q] at hd; cases hd
      | some k => have := (List.getElem?_eq_some_iff.mp q).1; simpa using this
    rw [List.getElem?_range hi] at hd
    cases hd
    exact ⟨hi, fun x H3 y => ⟨Hf2, Ex.refl _, by rw [y.1]; exact S, by rw [y.2]; exact .int _⟩⟩
  stop := fun i hi ps σ env Hf2 H2 x S => by
    unfold rng3D at hi
    have hi' : n ≤ i := by simpa using hi
    exact hi'
instance (i j c : Int) (n : Nat) : Decidable (RgC i j c n) := by unfold RgC; infer_instance
def mRng3 (f : M (List D)) : M (List D) := bnd f fun ds => match ds with | [.int i, .int j, .int c] => if RgC i j c (Builtin.Range.rangeSize i j c).toNat then ret (rng3D i c (Builtin.Range.rangeSize i j c).toNat) else stk | _ => stk
theorem ji_range3 {tg : Expr} {p : Pos} {f : M (List D)} (V : Nm X N sc raw) (hG : okG sc "range" = true) (hm : X.mg "range" = none) (ja : JA X W [a, b, c] f) (hs : starEach [a, b, c] X.env = (false, eval a X.env) :: starEach [b, c] X.env := by rfl) (hpl : (backTo pos (starEach [b, c] X.env)).any (·.1) = false := by rfl) :
    JI X W tg (.Call (.Name "range" p) [a, b, c] [] pos) (mRng3 f) := by
  have hg := (V.g hG).1
  obtain ⟨t, q, h⟩ := ja.ex
  refine ⟨⟨_, pi_range3 hg hm q hs hpl, fun ps σ Hf H env S R z => ?_⟩⟩
  refine h ps σ Hf H env S _ (EG.bnd z fun ds e1 Hf1 H1 x1 S1 h1 vs r => ?_)
  split at h1
  · rename_i i j c'
    split at h1
    · rename_i hc
      cases r with
      | cons r1 r2 => cases r2 with
        | cons r3 r4 => cases r4 with
          | cons r5 r6 => cases r6; rw [r1.int_inv, r3.int_inv, r5.int_inv]; exact ⟨i, j, c', _, rfl, hc, h1.ret S1 _ itok_range3⟩
    · exact h1.elim
  · exact h1.elim
/-! ### zip -/
def zipD (l m : List D) : List D := (l.zip m).map fun p => .tup [p.1, p.2]
theorem zipD_at {l m : List D} {i : Nat} {d : D} (h : (zipD l m)[i]? = some d) : ∃ x y, l[i]? = some x ∧ m[i]? = some y ∧ d = .tup [x, y] := by
  unfold zipD at h
  rw [List.getElem?_map] at h
  cases q : (l.zip m)[i]? with
  | none => rw [q] at h; cases h
  | some p =>
    rw [q] at h
    cases h
    obtain ⟨a, b⟩ := List.getElem?_zip_eq_some.mp q
    exact ⟨p.1, p.2, a, b, rfl⟩
theorem zipD_len {l m : List D} : (zipD l m).length = min l.length m.length := by unfold zipD; rw [List.length_map, List.length_zip]
theorem itok_zipL {K : PySem.W.Frag} {mg : MG} {Hf : Hp} {a b : Addr} {xs ys : List L2.V} {l m : List D} (hx : SqL K Hf a xs) (rx : Rps K mg Hf xs l) (hy : SqL K Hf b ys) (ry : Rps K mg Hf ys m) : ItOk K mg Hf (Itz K a b) (zipD l m) where
  go := fun i d hd ps σ env Hf2 H2 x S => by
    obtain ⟨dx, dy, h1, h2, rfl⟩ := zipD_at hd
    obtain ⟨u, hu, ru⟩ := rx.get h1
    obtain ⟨w, hw, rw'⟩ := ry.get h2
    have qx := ex_l S.ex (ex_l x hx)
    have qy := ex_l S.ex (ex_l x hy)
    refine ⟨⟨xs, ys, u, w, qx, qy, hu, hw⟩, fun v H3 yl => ?_⟩
    obtain ⟨T, x', y', rfl, nT, rfl, k1, k2⟩ := yl
    have e1 := k1 xs qx
    have e2 := k2 ys qy
    rw [hu] at e1; cases e1
    rw [hw] at e2; cases e2
    have nf := fresh_back S.ex nT
    exact ⟨_, Ex.new nf, S.froze nT, .tup (.inl (.inl upd_same)) (.cons ((ru.mono x).mono (Ex.new nf)) (.cons ((rw'.mono x).mono (Ex.new nf)) .nil))⟩
  stop := fun i hi ps σ env Hf2 H2 x S => by
    rw [zipD_len] at hi
    refine ⟨xs, ys, ex_l S.ex (ex_l x hx), ex_l S.ex (ex_l x hy), ?_⟩
    rw [rx.length, ry.length]
    omega
theorem itok_zipT {K : PySem.W.Frag} {mg : MG} {Hf : Hp} {a b : Addr} {xs ys : List L2.V} {l m : List D} (hx : SqT K Hf a xs) (rx : Rps K mg Hf xs l) (hy : SqT K Hf b ys) (ry : Rps K mg Hf ys m) : ItOk K mg Hf (RZ.ItzT K a b) (zipD l m) where
  go := fun i d hd ps σ env Hf2 H2 x S => by
    obtain ⟨dx, dy, h1, h2, rfl⟩ := zipD_at hd
    obtain ⟨u, hu, ru⟩ := rx.get h1
    obtain ⟨w, hw, rw'⟩ := ry.get h2
    have qx := ex_t S.ex (ex_t x hx)
    have qy := ex_t S.ex (ex_t x hy)
    refine ⟨⟨xs, ys, u, w, qx, qy, hu, hw⟩, fun v H3 yl => ?_⟩
    obtain ⟨T, x', y', rfl, nT, rfl, k1, k2⟩ := yl
    have e1 := k1 xs qx
    have e2 := k2 ys qy
    rw [hu] at e1; cases e1
    rw [hw] at e2; cases e2
    have nf := fresh_back S.ex nT
    exact ⟨_, Ex.new nf, S.froze nT, .tup (.inl (.inl upd_same)) (.cons ((ru.mono x).mono (Ex.new nf)) (.cons ((rw'.mono x).mono (Ex.new nf)) .nil))⟩
  stop := fun i hi ps σ env Hf2 H2 x S => by
    rw [zipD_len] at hi
    refine ⟨xs, ys, ex_t S.ex (ex_t x hx), ex_t S.ex (ex_t x hy), ?_⟩
    rw [rx.length, ry.length]
    omega
def mZip (f : M (List D)) : M (List D) := bnd f fun ds => match ds with | [.lst l, .lst m] => ret (zipD l m) | [.tup l, .tup m] => ret (zipD l m) | _ => stk
theorem ji_zip {p tpos : Pos} {elts : List Expr} {kk : Nat} (V : Nm X N sc raw) (hG : okG sc "zip" = true) (hm : X.mg "zip" = none) (ja : JA X W [a, b] f) (hs : starEach [a, b] X.env = (false, eval a X.env) :: starEach [b] X.env := by rfl) (hpl : (backTo pos (starEach [b] X.env)).any (·.1) = false := by rfl) :
    JI X W (.Tuple elts kk tpos) (.Call (.Name "zip" p) [a, b] [] pos) (mZip f) := by
  have hg := (V.g hG).1
  obtain ⟨t, q, h⟩ := ja.ex
  refine ⟨⟨_, RZ.pi_zipA hg hm q hs hpl, fun ps σ Hf H env S R z => ?_⟩⟩
  refine h ps σ Hf H env S _ (EG.bnd z fun ds e1 Hf1 H1 x1 S1 h1 vs r => ?_)
  split at h1
  · cases r with
    | cons r1 r2 => cases r2 with
      | cons r3 r4 =>
        cases r4
        cases r1 with
        | lst hx rx => cases r3 with
          | lst hy ry => exact ⟨_, _, _, _, rfl, .inl ⟨ex_l S1.ex hx, ex_l S1.ex hy, h1.ret S1 _ (itok_zipL hx rx hy ry)⟩⟩
  · cases r with
    | cons r1 r2 => cases r2 with
      | cons r3 r4 =>
        cases r4
        cases r1 with
        | tup hx rx => cases r3 with
          | tup hy ry => exact ⟨_, _, _, _, rfl, .inr ⟨ex_t S1.ex hx, ex_t S1.ex hy, h1.ret S1 _ (itok_zipT hx rx hy ry)⟩⟩
  · exact h1.elim
/-! ### module constants -/
inductive ConstR : D → Value → Prop where
  | int (i : Int) (t : Tok) : ConstR (.int i) (.int i t)
  | str (z : Str) (t : Tok) : ConstR (.str z) (.str z t)
structure Kst (mg : MG) (x : Str) (d : D) : Prop where
  ex : ∃ u, mg x = some u ∧ ConstR d u
theorem je_const {x : Str} {d : D} (V : Nm X N sc raw) (hG : okG sc x = true) (k : Kst X.mg x d) : JE X W (.Name x pos) (ret d) := by
  obtain ⟨hg, hdb, _⟩ := V.g hG
  obtain ⟨u, hm, r⟩ := k.ex
  cases r with
  | int i t => exact ⟨⟨_, pe_glob (v := .int i) hg hm ⟨t, rfl⟩ hdb, fun ps σ Hf H env S Q z => z.ret S _ (.int i)⟩⟩
  | str z t => exact ⟨⟨_, pe_glob (v := .str z) hg hm ⟨t, rfl⟩ hdb, fun ps σ Hf H env S Q z => z.ret S _ (.str _)⟩⟩
theorem Bl.kst {X X' : Cx} (B : Bl X X') {x : Str} {d : D} (h : Kst X.mg x d) : Kst X'.mg x d := by rw [B.mg]; exact h
theorem BlH.kst {X X' : Cx} (B : BlH X X') {x : Str} {d : D} (h : Kst X.mg x d) : Kst X'.mg x d := by rw [B.mg]; exact h
/-! ### texts -/
def asStrs : List D → Option (List Str)
  | [] => some []
  | .str z :: r => (asStrs r).map (z :: ·)
  | _ :: _ => none
theorem asStrs_eq : ∀ {l : List D} {ys : List Str}, asStrs l = some ys → l = ys.map .str
  | [], ys, h => by cases h; rfl
  | d :: r, ys, h => by
    unfold asStrs at h
    split at h
    · rename_i h0; cases h0
    · rename_i z r' h0
      cases h0
      cases q : asStrs r with
      | none => rw [q] at h; cases h
      | some zs => rw [q] at h; cases h; rw [asStrs_eq q]; rfl
    · cases h
theorem asStrs_map : ∀ ys : List Str, asStrs (ys.map .str) = some ys
  | [] => rfl
  | z :: r => by rw [List.map_cons, asStrs, asStrs_map r]; rfl
theorem Rps.strs {K : PySem.W.Frag} {mg : MG} {H : Hp} : ∀ {ys : List Str} {vs : List L2.V}, Rps K mg H vs (ys.map .str) → vs = ys.map V.str
  | [], _, r => by cases r; rfl
  | z :: ys, _, r => by
    cases r with
    | cons r1 r2 => rw [r1.str_inv, Rps.strs r2]; rfl
theorem rps_strs {K : PySem.W.Frag} {mg : MG} {H : Hp} : ∀ ys : List Str, Rps K mg H (ys.map V.str) (ys.map D.str)
  | [] => .nil
  | z :: r => .cons (.str z) (rps_strs r)
def xStr (g : Str → M D) (x : D) : M D := match x with | .str s => g s | _ => stk
def dSplit (a : Str) (y : D) : M D := match y with
  | .str b => if (b.length == 0) = false ∧ a.length + 2 ≤ sizeLine then ret (.lst ((Txt.split a b).map .str)) else stk
  | _ => stk
theorem je_split {apos : Pos} (ja : JE X W a fa) (jb : JE X W b fb) (hs : starEach [b] X.env = [(false, eval b X.env)] := by rfl) (hbase : attributeBase a "split" X.env (eval a X.env) = eval a X.env := by rfl) (hline : (apos.endLine == pos.line) = true := by rfl) :
    JE X W (.Call (.Attribute a "split" apos) [b] [] pos) (bnd fa (xStr fun s => bnd fb (dSplit s))) := by
  obtain ⟨t, p, h⟩ := ja.ex
  obtain ⟨tb, pb, hb⟩ := jb.ex
  refine ⟨⟨_, pe_split p pb hs hbase hline, fun ps σ Hf H env S Q z => ?_⟩⟩
  refine h ps σ Hf H env S _ (EG.bnd z fun x e1 Hf1 H1 x1 S1 z1 v rv => ?_)
  unfold xStr at z1
  split at z1
  · rename_i sa
    rw [rv.str_inv]
    refine ⟨⟨sa, rfl⟩, ?_⟩
    refine hb ps σ Hf1 H1 e1 S1 _ (EG.bnd z1 fun y e2 Hf2 H2 x2 S2 z2 u ru => ?_)
    cases y with
    | str b' =>
      have z2 : EG X.K X.mg ps W Hf2 σ (Pd X.K X.mg Q) ((if (b'.length == 0) = false ∧ sa.length + 2 ≤ sizeLine then ret (D.lst ((Txt.split sa b').map .str)) else stk) e2) := z2
      split at z2
      · rename_i hc
        rw [ru.str_inv]
        exact ⟨sa, b', rfl, rfl, hc.1, hc.2, new_lst S2 (rps_strs _) z2⟩
      · exact z2.elim
    | _ => exact z2.elim
  · exact z1.elim
def joinOk (a : Str) (ys : List Str) : Prop := (ys.map (·.length)).sum + ys.length * a.length ≤ 16777216
instance (a : Str) (ys : List Str) : Decidable (joinOk a ys) := by unfold joinOk; infer_instance
def oJoin (a : Str) (o : Option (List Str)) : M D := match o with | some ys => if joinOk a ys then ret (.str (Txt.join a ys)) else stk | none => stk
def dJoin (a : Str) (y : D) : M D := match y with
  | .lst l => oJoin a (asStrs l)
  | .tup l => oJoin a (asStrs l)
  | _ => stk
theorem je_join {apos : Pos} (ja : JE X W a fa) (jb : JE X W b fb) (hs : starEach [b] X.env = [(false, eval b X.env)] := by rfl) (hbase : attributeBase a "join" X.env (eval a X.env) = eval a X.env := by rfl) (hline : (apos.endLine == pos.line) = true := by rfl) :
    JE X W (.Call (.Attribute a "join" apos) [b] [] pos) (bnd fa (xStr fun s => bnd fb (dJoin s))) := by
  obtain ⟨t, p, h⟩ := ja.ex
  obtain ⟨tb, pb, hb⟩ := jb.ex
  refine ⟨⟨_, pe_join p pb hs hbase hline, fun ps σ Hf H env S Q z => ?_⟩⟩
  refine h ps σ Hf H env S _ (EG.bnd z fun x e1 Hf1 H1 x1 S1 z1 v rv => ?_)
  unfold xStr at z1
  split at z1
  · rename_i sa
    rw [rv.str_inv]
    refine ⟨⟨sa, rfl⟩, ?_⟩
    refine hb ps σ Hf1 H1 e1 S1 _ (EG.bnd z1 fun y e2 Hf2 H2 x2 S2 z2 u ru => ?_)
    have fin : ∀ l : List D, EG X.K X.mg ps W Hf2 σ (Pd X.K X.mg Q) (oJoin sa (asStrs l) e2) → ∃ ys : List Str, l = ys.map .str ∧ joinOk sa ys ∧ Q (.str (Txt.join sa ys)) H2 := fun l z => by
      cases w : asStrs l with
      | none => rw [w] at z; exact z.elim
      | some ys =>
        rw [w] at z
        unfold oJoin at z
        dsimp only at z
        split at z
        · rename_i hc
          exact ⟨ys, asStrs_eq w, hc, z.ret S2 _ (.str _)⟩
        · exact z.elim
    unfold dJoin at z2
    split at z2
    · obtain ⟨ys, rfl, hc, q⟩ := fin _ z2
      cases ru with
      | lst hq r =>
        have e := r.strs
        subst e
        exact ⟨sa, _, ys, rfl, rfl, .inl (ex_l S2.ex hq), hc, q⟩
    · obtain ⟨ys, rfl, hc, q⟩ := fin _ z2
      cases ru with
      | tup hq r =>
        have e := r.strs
        subst e
        exact ⟨sa, _, ys, rfl, rfl, .inr (ex_t S2.ex hq), hc, q⟩
    · exact z2.elim
  · exact z1.elim
/-! ### in, not in -/
def sgn (z : Str) : Option Nat := match z.cps.toList with | [c] => some c | _ => none
theorem sgn_eq {z : Str} {c : Nat} (h : sgn z = some c) : z = ⟨#[c]⟩ := by
  unfold sgn at h
  split at h
  · rename_i c' q
    cases h
    obtain ⟨cps⟩ := z
    have : cps = #[c] := by
      apply Array.toList_inj.mp
      exact q
    rw [this]
  · cases h
theorem sgn_one {c : Nat} : sgn ⟨#[c]⟩ = some c := rfl
def inS (neg : Bool) (o : Option Nat) (z : Str) : M D := match o with | some c => ret (.bl (if neg then !decide (c ∈ z.cps.toList) else decide (c ∈ z.cps.toList))) | none => stk
def dIn (neg : Bool) (x y : D) : M D := match x, y with
  | .str s, .str z => inS neg (sgn s) z
  | _, _ => stk
theorem rj_in : RJ X W (fun x y H Q => ∃ (c : Nat) (z : Str), x = .str ⟨#[c]⟩ ∧ y = .str z ∧ Q (.bl (decide (c ∈ z.cps.toList))) H) (dIn false) := by
  intro ps σ Hf H env x y dx dy Q S rx ry q
  unfold dIn at q
  split at q
  · rename_i s z
    rw [rx.str_inv, ry.str_inv]
    cases w : sgn s with
    | none => rw [w] at q; exact q.elim
    | some c => rw [w] at q; exact ⟨c, z, by rw [sgn_eq w], rfl, q.ret S _ (.bl _)⟩
  · exact q.elim
theorem rj_nin : RJ X W (fun x y H Q => ∃ (c : Nat) (z : Str), x = .str ⟨#[c]⟩ ∧ y = .str z ∧ Q (.bl (!decide (c ∈ z.cps.toList))) H) (dIn true) := by
  intro ps σ Hf H env x y dx dy Q S rx ry q
  unfold dIn at q
  split at q
  · rename_i s z
    rw [rx.str_inv, ry.str_inv]
    cases w : sgn s with
    | none => rw [w] at q; exact q.elim
    | some c => rw [w] at q; exact ⟨c, z, by rw [sgn_eq w], rfl, q.ret S _ (.bl _)⟩
  · exact q.elim
theorem je_in (ja : JE X W a fa) (jb : JE X W b fb) (hm : behindInMarks .In b = false := by rfl) : JE X W (.Compare a [.In] [b] pos) (m2 fa fb (dIn false)) := je_cmp op_in_sign rj_in ja jb hm
theorem je_nin (ja : JE X W a fa) (jb : JE X W b fb) (hm : behindInMarks .NotIn b = false := by rfl) : JE X W (.Compare a [.NotIn] [b] pos) (m2 fa fb (dIn true)) := je_cmp op_notIn_sign rj_nin ja jb hm
theorem jt_in (ja : JE X W a fa) (jb : JE X W b fb) (hm : behindInMarks .In b = false := by rfl) : JT X W (.Compare a [.In] [b] pos) (bnd (m2 fa fb (dIn false)) mB) := jt_cmp op_in_sign rj_in ja jb hm
theorem jt_nin (ja : JE X W a fa) (jb : JE X W b fb) (hm : behindInMarks .NotIn b = false := by rfl) : JT X W (.Compare a [.NotIn] [b] pos) (bnd (m2 fa fb (dIn true)) mB) := jt_cmp op_notIn_sign rj_nin ja jb hm
end
end DL

/-! DLs: how a body's worth is reckoned. -/
namespace DL
open PySem PySem.Spec PyProof.Rows L2 Evl
theorem forL_nil {g : D → M Unit} {b : M Fl} {e : DEnv} : forL g b [] e = .ok .nx e := rfl
theorem forL_cons {g : D → M Unit} {b : M Fl} {d : D} {r : List D} {e : DEnv} : forL g b (d :: r) e = bnd (g d) (fun _ => again b (forL g b r)) e := rfl
/-- a loop by an invariant -/
theorem forL_inv {g : D → M Unit} {b : M Fl} (I : DEnv → Prop) : ∀ ds : List D, (∀ d ∈ ds, ∀ e, I e → ∃ e1 e2, g d e = .ok () e1 ∧ (b e1 = .ok .nx e2 ∨ b e1 = .ok .ct e2) ∧ I e2) → ∀ e, I e → ∃ e', forL g b ds e = .ok .nx e' ∧ I e'
  | [], _, e, h => ⟨e, rfl, h⟩
  | d :: r, hs, e, h => by
    obtain ⟨e1, e2, h1, h2, h3⟩ := hs d List.mem_cons_self e h
    obtain ⟨e', h4, h5⟩ := forL_inv I r (fun d' hd => hs d' (List.mem_cons_of_mem _ hd)) e2 h3
    refine ⟨e', ?_, h5⟩
    rw [forL_cons, bnd_ok h1]
    unfold again
    rcases h2 with h2 | h2 <;> rw [h2] <;> exact h4
theorem mem_rngD {d : D} {lo : Int} {n : Nat} (h : d ∈ rngD lo n) : ∃ k : Nat, k < n ∧ d = .int (lo + k) := by
  unfold rngD at h
  obtain ⟨k, hk, rfl⟩ := List.mem_map.mp h
  exact ⟨k, by simpa using hk, rfl⟩
abbrev ib := Builtin.Int.intBits
theorem ib_of {x : Int} {m : Nat} (h : x.natAbs < 2 ^ m) : ib x ≤ m := PySem.intBits_le_iff.mpr h
theorem divOk_of {j : Int} {m : Nat} (h0 : j ≠ 0) (h : ib j ≤ m) (hm : m ≤ 9000) : DivOk j := by
  refine ⟨h0, ?_⟩
  have h1 : j.natAbs < 2 ^ 9000 := Nat.lt_of_lt_of_le (PySem.intBits_le_iff.mp h) (Nat.pow_le_pow_right (by decide) hm)
  exact (Nat.log2_lt (by omega)).mpr h1
theorem atI_ints {ns : List Int} {k : Int} (h0 : 0 ≤ k) (h1 : k < ns.length) : atI (ns.map D.int) k = some (.int (ns.getD k.toNat 0)) := by
  obtain ⟨j, rfl⟩ := Int.eq_ofNat_of_zero_le h0
  have hj : j < ns.length := by omega
  refine atI_nat (j := j) ?_
  rw [List.getElem?_map, List.getElem?_eq_getElem hj]
  simp [List.getD, hj]
end DL
namespace DL
open PySem PySem.Spec PyProof.Rows L2 Evl
/-! ### a worth at an environment -/
section
variable {α β : Type} {a : α} {e e' : DEnv} {m : M α} {f : α → M β} {x : Str} {p : Option D} {d d' : D} {i j : Int} {n k : Nat} {fa fb : M D} {g : D → D → M D} {s t : M Fl} {c : M Bool} {b : Bool}
def rB (r : Res α) (f : α → M β) : Res β := match r with | .ok a e => f a e | .exc x p e => .exc x p e | .stuck => .stuck
def sQ (r : Res Fl) (g : M Fl) : Res Fl := match r with | .ok .nx e => g e | r => r
def aG (r : Res Fl) (k : M Fl) : Res Fl := match r with | .ok .nx e => k e | .ok .ct e => k e | .ok .bk e => .ok .nx e | r => r
def oS (o : Option Sl) (e : DEnv) (i : Nat) : Res D := match o with | some (.val d) => .ok d e | some (.own none (.lst l)) => .ok (.lst l) (frz1 e i) | _ => .stuck
theorem a_ret : DL.ret a e = .ok a e := rfl
theorem a_stk : (stk e : Res α) = .stuck := rfl
theorem a_bnd : bnd m f e = rB (m e) f := rfl
theorem a_rok : rB (.ok a e) f = f a e := rfl
theorem a_rexc : rB (.exc x p e : Res α) f = .exc x p e := rfl
theorem a_rst : rB (.stuck : Res α) f = .stuck := rfl
theorem a_rite {q : Prop} [Decidable q] {r r' : Res α} : rB (if q then r else r') f = if q then rB r f else rB r' f := by split <;> rfl
theorem a_var : mVar n e = oS e[n]? e n := rfl
theorem a_oval : oS (some (.val d)) e n = .ok d e := rfl
theorem a_oown {l : List D} : oS (some (.own none (.lst l))) e n = .ok (.lst l) (frz1 e n) := rfl
theorem a_m2 : m2 fa fb g e = rB (fa e) (fun x => bnd fb fun y => g x y) := rfl
theorem a_g2i {h : Int → Int → M D} : g2i h (.int i) (.int j) e = h i j e := rfl
theorem a_add : iAdd i j e = .ok (.int (i + j)) e := rfl
theorem a_mAdd : mAdd (.int i) (.int j) e = .ok (.int (i + j)) e := rfl
theorem a_sub : iSub i j e = .ok (.int (i - j)) e := rfl
theorem a_mul : iMul i j e = if IntMulOk i j then .ok (.int (i * j)) e else .stuck := by unfold iMul; split <;> rfl
theorem a_div : iDiv i j e = if DivOk j then .ok (.int (i.fdiv j)) e else .stuck := by unfold iDiv; split <;> rfl
theorem a_mod : iMod i j e = if j ≠ 0 then .ok (.int (i.fmod j)) e else .stuck := by unfold iMod; split <;> rfl
theorem a_pow : iPow i j e = if PowOk i j then .ok (.int (i ^ j.toNat)) e else .stuck := by unfold iPow; split <;> rfl
theorem a_shr : iShr i j e = if 0 ≤ j then .ok (.int (i / 2 ^ j.toNat)) e else .stuck := by unfold iShr; split <;> rfl
theorem a_cmp {q : Int → Int → Bool} : iCmp q i j e = .ok (.bl (q i j)) e := rfl
theorem a_eq : mEq d d' e = if eqOk d d' = true then .ok (.bl (deq d d')) e else .stuck := by unfold mEq; split <;> rfl
theorem a_ne : mNe d d' e = if eqOk d d' = true then .ok (.bl (!deq d d')) e else .stuck := by unfold mNe; split <;> rfl
theorem a_u1i {h : Int → M D} : u1i h (.int i) e = h i e := rfl
theorem a_mB : mB (.bl b) e = .ok b e := rfl
theorem a_truB : mTru (.bl b) e = .ok b e := rfl
theorem a_truI : mTru (.int i) e = .ok (i != 0) e := rfl
theorem a_truN : mTru .non e = .ok false e := rfl
theorem a_truL {l : List D} : mTru (.lst l) e = .ok (!l.isEmpty) e := rfl
theorem a_truT {l : List D} : mTru (.tup l) e = .ok (!l.isEmpty) e := rfl
theorem a_bAnd {c' : M Bool} : bAnd c c' e = rB (c e) (fun b => if b = true then c' else DL.ret false) := rfl
theorem a_bOr {c' : M Bool} : bOr c c' e = rB (c e) (fun b => if b = true then DL.ret true else c') := rfl
theorem a_bNot : bNot c e = rB (c e) (fun b => DL.ret (!b)) := rfl
theorem a_vAnd : vAnd fa fb e = rB (fa e) (fun x => match x with | .bl c => if c = true then fb else DL.ret (.bl false) | _ => stk) := rfl
theorem a_vOr : vOr fa fb e = rB (fa e) (fun x => match x with | .bl c => if c = true then DL.ret (.bl true) else fb | _ => stk) := rfl
theorem a_vNot : vNot fa e = rB (fa e) (fun x => match x with | .bl c => DL.ret (.bl (!c)) | _ => stk) := rfl
theorem a_if {f g : M α} : mIf c f g e = rB (c e) (fun b => if b = true then f else g) := rfl
theorem a_ite {q : Prop} [Decidable q] {f g : M α} : (if q then f else g) e = if q then f e else g e := by split <;> rfl
theorem a_aNil : aNil e = .ok [] e := rfl
theorem a_aCons {h : M (List D)} : aCons fa h e = rB (fa e) (fun d => bnd h fun ds => DL.ret (d :: ds)) := rfl
theorem a_tup {h : M (List D)} : mTup h e = rB (h e) (fun ds => if szOk ds.length then DL.ret (.tup ds) else stk) := rfl
theorem a_lst {h : M (List D)} : mLst h e = rB (h e) (fun ds => if szOk ds.length then DL.ret (.lst ds) else stk) := rfl
theorem a_c1i {h : Int → M D} : c1i h [.int i] e = h i e := rfl
theorem a_c2i {h : Int → Int → M D} : c2i h [.int i, .int j] e = h i j e := rfl
theorem a_cIntI : cInt [.int i] e = .ok (.int i) e := rfl
theorem a_cIntB : cInt [.bl b] e = .ok (.int (if b then 1 else 0)) e := rfl
theorem a_lenL {l : List D} : cLen [.lst l] e = .ok (.int l.length) e := rfl
theorem a_lenT {l : List D} : cLen [.tup l] e = .ok (.int l.length) e := rfl
theorem a_lenS {z : Str} : cLen [.str z] e = if z.length ≤ sizeLine then .ok (.int z.length) e else .stuck := by
  show (if z.length ≤ sizeLine then DL.ret (D.int z.length) else stk) e = _
  split <;> rfl
theorem a_nx : nx e = .ok .nx e := rfl
theorem a_sq : sq s t e = sQ (s e) t := rfl
theorem a_snx : sQ (.ok .nx e) t = t e := rfl
theorem a_srt : sQ (.ok (.rt d) e) t = .ok (.rt d) e := rfl
theorem a_sbk : sQ (.ok .bk e) t = .ok .bk e := rfl
theorem a_sct : sQ (.ok .ct e) t = .ok .ct e := rfl
theorem a_sexc : sQ (.exc x p e) t = .exc x p e := rfl
theorem a_sst : sQ .stuck t = .stuck := rfl
theorem a_site {q : Prop} [Decidable q] {r r' : Res Fl} : sQ (if q then r else r') t = if q then sQ r t else sQ r' t := by split <;> rfl
theorem a_asg : mAsg n fa e = rB (fa e) (fun d e' => .ok .nx (e'.set n (.val d))) := rfl
theorem a_mRet : mRet fa e = rB (fa e) (fun d => DL.ret (.rt d)) := rfl
theorem a_drop : mDrop fa e = rB (fa e) (fun _ => nx) := rfl
def oA (o : Option Sl) (f : M D) (g : Int → Int → D) (n : Nat) (e : DEnv) : Res Fl := match o with | some (.val (.int a)) => bnd f (fun d env' => match d with | .int b => .ok .nx (env'.set n (.val (g a b))) | _ => .stuck) e | _ => .stuck
theorem a_aug {h : Int → Int → D} : mAug n fa h e = oA e[n]? fa h n e := rfl
theorem a_oA {h : Int → Int → D} : oA (some (.val (.int i))) fa h n e = rB (fa e) (fun d env' => match d with | .int b => .ok .nx (env'.set n (.val (h i b))) | _ => .stuck) := rfl
theorem a_gN : gN n d e = .ok () (e.set n (.val d)) := rfl
theorem a_gsNil : gsNil [] e = .ok () e := rfl
theorem a_gsCons {h : D → M Unit} {hs : List D → M Unit} {ds : List D} : gsCons h hs (d :: ds) e = rB (h d e) (fun _ => hs ds) := rfl
theorem a_gTpT {hs : List D → M Unit} {ds : List D} : gTp n hs (.tup ds) e = if ds.length = n then hs ds e else .stuck := by
  show (if ds.length = n then hs ds else stk) e = _
  split <;> rfl
theorem a_gTpL {hs : List D → M Unit} {ds : List D} : gTp n hs (.lst ds) e = if ds.length = n then hs ds e else .stuck := by
  show (if ds.length = n then hs ds else stk) e = _
  split <;> rfl
theorem a_asgT {h : D → M Unit} : mAsgT fa h e = rB (fa e) (fun d => bnd (h d) fun _ => nx) := rfl
theorem a_par {h : M (List D)} : mPar n k h e = rB (h e) (fun ds env => match ds with | [d, d'] => .ok .nx ((env.set n (.val d)).set k (.val d')) | _ => .stuck) := rfl
theorem a_again : again s t e = aG (s e) t := rfl
theorem a_gnx : aG (.ok .nx e) t = t e := rfl
theorem a_gct : aG (.ok .ct e) t = t e := rfl
theorem a_gbk : aG (.ok .bk e) t = .ok .nx e := rfl
theorem a_grt : aG (.ok (.rt d) e) t = .ok (.rt d) e := rfl
theorem a_gexc : aG (.exc x p e) t = .exc x p e := rfl
theorem a_gite {q : Prop} [Decidable q] {r r' : Res Fl} : aG (if q then r else r') t = if q then aG r t else aG r' t := by split <;> rfl
theorem a_rng1 {h : M (List D)} : mRng1 h e = rB (h e) (fun ds => match ds with | [.int j] => if rOk j then DL.ret (rngD 0 j.toNat) else stk | _ => stk) := rfl
theorem a_rng2 {h : M (List D)} : mRng2 h e = rB (h e) (fun ds => match ds with | [.int i, .int j] => if rOk i ∧ rOk j then DL.ret (rngD i (j - i).toNat) else stk | _ => stk) := rfl
theorem a_raise : mRaise x e = .exc x none e := rfl
def rsM (r : Rs) (e : DEnv) : Res D := match r with | .ok d => .ok d e | .exc x p => .exc x p e | .stuck => .stuck
theorem a_call {h : M (List D)} {F : List D → Rs} : mCall h F e = rB (h e) (fun ds e' => rsM (F ds) e') := by
  unfold mCall; rw [a_bnd]; congr
theorem a_rsok : rsM (.ok d) e = .ok d e := rfl
theorem a_rsexc : rsM (.exc x p) e = .exc x p e := rfl
theorem a_rsst : rsM .stuck e = .stuck := rfl
def hS (o : Option Sl) (f : M α) (e : DEnv) : Res α := match o with | some (.val _) => f e | some (.own _ _) => f e | _ => .stuck
theorem a_has : has n m e = hS e[n]? m e := rfl
theorem a_hval : hS (some (.val d)) m e = m e := rfl
theorem a_hown {q : Option Nat} {o : OD} : hS (some (.own q o)) m e = m e := rfl
def oD (o : Option D) (h : D → M D) (e : DEnv) : Res D := match o with | some d => h d e | none => .stuck
theorem a_onSl {h : D → M D} : onSl n h e = oD (slD e n) h e := rfl
def oDS (o : Option Sl) : Option D := match o with | some (.val d) => some d | some (.own _ (.lst l)) => some (.lst l) | _ => none
theorem a_slD : slD e n = oDS e[n]? := rfl
theorem a_oDv : oDS (some (.val d)) = some d := rfl
theorem a_oDo {q : Option Nat} {l : List D} : oDS (some (.own q (.lst l))) = some (.lst l) := rfl
theorem a_oDs {h : D → M D} : oD (some d) h e = h d e := rfl
theorem a_ixN : mIxN n fb e = has n (bnd fb fun y => onSl n fun x => mIx x y) e := rfl
theorem a_mIxI : mIx d (.int i) e = dIx d i e := rfl
theorem a_dIxL {l : List D} : dIx (.lst l) i e = oM (atI l i) e := rfl
theorem a_dIxT {l : List D} : dIx (.tup l) i e = oM (atI l i) e := rfl
theorem a_oM : oM (some d) e = .ok d e := rfl
def kM (o : Option Bool) (e : DEnv) : Res D := match o with | some b => .ok (.bl b) e | none => .stuck
theorem a_isiI {T : String} : cIsi T [.int i] e = kM (kitB "int" T) e := by
  show (match kitB (tyD (.int i)) T with | some b => DL.ret (D.bl b) | none => stk) e = _
  show (match kitB "int" T with | some b => DL.ret (D.bl b) | none => stk) e = _
  cases kitB "int" T <;> rfl
theorem a_isiB {T : String} : cIsi T [.bl b] e = kM (kitB "bool" T) e := by
  show (match kitB "bool" T with | some b => DL.ret (D.bl b) | none => stk) e = _
  cases kitB "bool" T <;> rfl
theorem a_kM : kM (some b) e = .ok (.bl b) e := rfl
theorem k_ii : kitB "int" "int" = some true := by decide +kernel
theorem k_ib : kitB "int" "bool" = some false := by decide +kernel
theorem k_bi : kitB "bool" "int" = some true := by decide +kernel
theorem k_bb : kitB "bool" "bool" = some true := by decide +kernel
def rF (r : Res Fl) : Rs := match r with | .ok (.rt d) _ => .ok d | .ok .nx _ => .ok .non | .exc x p _ => .exc x p | _ => .stuck
theorem a_runF {f : M Fl} {ds : List D} : runF n f ds = rF (f (DL.envOf n ds)) := rfl
theorem a_rFrt : rF (.ok (.rt d) e) = .ok d := rfl
theorem a_rFnx : rF (.ok .nx e) = .ok .non := rfl
theorem a_rFexc : rF (.exc x p e) = .exc x p := rfl
theorem a_rFite {q : Prop} [Decidable q] {r r' : Res Fl} : rF (if q then r else r') = if q then rF r else rF r' := by split <;> rfl
end
end DL
namespace DL
open PySem PySem.Spec PyProof.Rows L2 Evl
theorem eqOk_ii (i j : Int) : eqOk (.int i) (.int j) = true := by
  unfold eqOk shp SeqAt.shaped
  simp [D.py, D.toPy, PyData.canLay0, PyData.depth]
theorem deq_ii (i j : Int) : deq (.int i) (.int j) = decide (i = j) := by
  unfold deq D.toPy PyData.eqv
  by_cases h : i = j
  · subst h; simp
  · simp [h]
theorem iAbs_eq (i : Int) : iAbs i = (i.natAbs : Int) := by unfold iAbs; split <;> omega
/-! ### the greatest common divisor, by a loop -/
theorem fmod_nat (m n : Nat) : (m : Int).fmod (n : Int) = ((m % n : Nat) : Int) := by
  rw [Int.fmod_eq_emod_of_nonneg _ (by omega)]; rfl
/-- while b > 0: a, b = b, a % b -/
abbrev gcdC : M Bool := bnd (m2 (mVar 1) (DL.ret (.int 0)) (g2i (iCmp fun i j => decide (j < i)))) mB
abbrev gcdB : M Fl := mPar 0 1 (aCons (mVar 1) (aCons (m2 (mVar 0) (mVar 1) (g2i iMod)) aNil))
end DL

/-! DLt: how comprehensions, try, == of nested data, loops are reckoned. -/
namespace DL
open PySem PySem.Spec PyProof.Rows L2 Evl
section
variable {α β : Type} {a : α} {e e' : DEnv} {m : M α} {f : α → M β} {x T : Str} {p : Option D} {d d' : D} {i j : Int} {n k : Nat} {fa fb : M D} {g : D → D → M D} {s t : M Fl} {c : M Bool} {b : Bool} {l : List D} {ad : Addr} {tab : ETab}
theorem a_seq : mSeq fa e = rB (fa e) (fun d => match d with | .lst l => DL.ret l | .tup l => DL.ret l | .str z => DL.ret (signsD z) | _ => stk) := rfl
theorem a_listL : cList [.lst l] e = .ok (.lst l) e := rfl
theorem a_listT : cList [.tup l] e = .ok (.lst l) e := rfl
theorem a_tupleL : cTuple [.lst l] e = .ok (.tup l) e := rfl
theorem a_tupleT : cTuple [.tup l] e = .ok (.tup l) e := rfl
theorem a_sum {ns : List Int} : cSum [.lst (ns.map .int)] e = .ok (.int ns.sum) e := by
  show oI (asInts (ns.map .int)) e = _
  rw [asInts_map]; rfl
theorem a_isiT {T : String} : cIsi T [.tup l] e = kM (kitB "tuple" T) e := by
  show (match kitB "tuple" T with | some b => DL.ret (D.bl b) | none => stk) e = _
  cases kitB "tuple" T <;> rfl
theorem a_isiL {T : String} : cIsi T [.lst l] e = kM (kitB "list" T) e := by
  show (match kitB "list" T with | some b => DL.ret (D.bl b) | none => stk) e = _
  cases kitB "list" T <;> rfl
theorem a_isiS {T : String} {z : Str} : cIsi T [.str z] e = kM (kitB "str" T) e := by
  show (match kitB "str" T with | some b => DL.ret (D.bl b) | none => stk) e = _
  cases kitB "str" T <;> rfl
theorem k_tt : kitB "tuple" "tuple" = some true := by decide +kernel
theorem k_lt : kitB "list" "tuple" = some false := by decide +kernel
theorem k_tl : kitB "tuple" "list" = some false := by decide +kernel
theorem k_ll : kitB "list" "list" = some true := by decide +kernel
theorem k_it : kitB "int" "tuple" = some false := by decide +kernel
theorem k_il : kitB "int" "list" = some false := by decide +kernel
theorem k_ss : kitB "str" "str" = some true := by decide +kernel
theorem k_st : kitB "str" "tuple" = some false := by decide +kernel
theorem k_ti : kitB "tuple" "int" = some false := by decide +kernel
theorem k_li : kitB "list" "int" = some false := by decide +kernel
theorem k_tb : kitB "tuple" "bool" = some false := by decide +kernel
theorem k_lb : kitB "list" "bool" = some false := by decide +kernel
/-! exceptions -/
theorem a_isE : cIsE tab ad x T (.opq ad) e = kM (tabAt tab x T) e := by
  show (if ad = ad then (match tabAt tab x T with | some r => DL.ret (D.bl r) | none => stk) else stk) e = _
  rw [if_pos rfl]
  cases tabAt tab x T <;> rfl
def rsE (r : Rs) (e : DEnv) : Res D := match r with | .ok d => .ok d e | _ => .stuck
theorem a_callE {h : M (List D)} {F : List D → Rs} : mCallE h F e = rB (h e) (fun ds e' => rsE (F ds) e') := by
  unfold mCallE; rw [a_bnd]; congr
theorem a_reok : rsE (.ok d) e = .ok d e := rfl
noncomputable def tR (n : Nat) (tab : ETab) (T : Str) (fs : Addr → Str → M Fl) (r : Res Fl) : Res Fl := match r with
  | .exc x none e' => (match tabAt tab x T with
    | some true => mCatch n (fun a => fs a x) e'
    | some false => .exc x none e'
    | none => .stuck)
  | .exc _ (some _) _ => .stuck
  | r => r
noncomputable def cT (o : Option Bool) (n : Nat) (x : Str) (fs : Addr → M Fl) (e : DEnv) : Res Fl := match o with
    | some true => mCatch n fs e
    | some false => .exc x none e
    | none => .stuck
theorem a_try {fs : Addr → Str → M Fl} : mTryAs n tab T s fs e = tR n tab T fs (s e) := rfl
theorem a_tok {fs : Addr → Str → M Fl} {fl : Fl} : tR n tab T fs (.ok fl e) = .ok fl e := rfl
theorem a_texc {fs : Addr → Str → M Fl} : tR n tab T fs (.exc x none e) = cT (tabAt tab x T) n x (fun a => fs a x) e := rfl
theorem a_cT {fs : Addr → M Fl} : cT (some true) n x fs e = mCatch n fs e := rfl
theorem a_cF {fs : Addr → M Fl} : cT (some false) n x fs e = .exc x none e := rfl
theorem a_unN : unS n (.ok .nx e) = .ok .nx (e.set n .no) := rfl
theorem a_unR : unS n (.ok (.rt d) e) = .ok (.rt d) e := rfl
/-! slices -/
theorem a_slice {fl fu : M (Option Int)} : mSlice fa fl fu e = rB (fa e) (fun x => bnd fl fun l => bnd fu fun u => dSlice x l u) := rfl
theorem a_oNone : oNone e = .ok none e := rfl
theorem a_oSome : oSome fa e = rB (fa e) (fun d => match d with | .int i => DL.ret (some i) | _ => stk) := rfl
theorem a_dSlL {lo hi : Option Int} : dSlice (.lst l) lo hi e = .ok (.lst (cutD l lo hi)) e := rfl
theorem a_dSlT {lo hi : Option Int} : dSlice (.tup l) lo hi e = .ok (.tup (cutD l lo hi)) e := rfl
end
/-! ### comprehensions -/
theorem lcL_eq {vs : List Nat} {g : D → M Unit} {tt : M Bool} {el : M D} {w : DEnv} (p : D → Bool) (f : D → D) : ∀ (ds acc : List D), (∀ d ∈ ds, ∃ e1 e2, g d w = .ok () e1 ∧ tt e1 = .ok (p d) e2 ∧ (p d = true → ∃ e3, el e2 = .ok (f d) e3 ∧ wipeE e3 vs = w) ∧ (p d = false → wipeE e2 vs = w)) → acc.length + ds.length ≤ sizeLine →
    lcL vs g tt el ds acc w = .ok (acc ++ (ds.filter p).map f) w
  | [], acc, _, _ => by
    show DL.ret acc w = _
    rw [List.filter_nil, List.map_nil, List.append_nil]; rfl
  | d :: r, acc, h, hl => by
    obtain ⟨e1, e2, h1, h2, h3, h4⟩ := h d List.mem_cons_self
    have hl' : acc.length + (r.length + 1) ≤ sizeLine := hl
    unfold lcL
    rw [bnd_ok h1, bnd_ok h2]
    cases q : p d with
    | true =>
      obtain ⟨e3, h5, h6⟩ := h3 q
      rw [if_pos rfl, bnd_ok h5]
      rw [if_pos (by omega), h6, lcL_eq p f r (acc ++ [f d]) (fun d' m => h d' (List.mem_cons_of_mem _ m)) (by rw [List.length_append]; show acc.length + 1 + r.length ≤ _; omega), List.filter_cons_of_pos q, List.map_cons, List.append_assoc, List.singleton_append]
    | false =>
      rw [if_neg (by simp), List.filter_cons_of_neg (by simp [q])]
      rw [h4 q]
      exact lcL_eq p f r acc (fun d' m => h d' (List.mem_cons_of_mem _ m)) (by omega)
theorem mLc_filter {vs : List Nat} {fi : M (List D)} {g : D → M Unit} {tt : M Bool} {el : M D} {e e0 : DEnv} {ds : List D} (p : D → Bool) (f : D → D) (hf : fi e = .ok ds e0) (hn : noOwn e0 vs = true) (hb : backE e0 (wipeE e0 vs) vs = e0) (hl : ds.length ≤ sizeLine)
    (h : ∀ d ∈ ds, ∃ e1 e2, g d (wipeE e0 vs) = .ok () e1 ∧ tt e1 = .ok (p d) e2 ∧ (p d = true → ∃ e3, el e2 = .ok (f d) e3 ∧ wipeE e3 vs = wipeE e0 vs) ∧ (p d = false → wipeE e2 vs = wipeE e0 vs)) : mLc vs fi g tt el e = .ok (.lst ((ds.filter p).map f)) e0 := by
  unfold mLc
  rw [bnd_ok hf, if_pos hn, lcL_eq p f ds [] h (by rw [List.length_nil, Nat.zero_add]; exact hl)]
  dsimp only
  rw [hb, List.nil_append]
theorem mLc_map {vs : List Nat} {fi : M (List D)} {g : D → M Unit} {el : M D} {e e0 : DEnv} {ds : List D} (f : D → D) (hf : fi e = .ok ds e0) (hn : noOwn e0 vs = true) (hb : backE e0 (wipeE e0 vs) vs = e0) (hl : ds.length ≤ sizeLine)
    (h : ∀ d ∈ ds, ∃ e1 e3, g d (wipeE e0 vs) = .ok () e1 ∧ el e1 = .ok (f d) e3 ∧ wipeE e3 vs = wipeE e0 vs) : mLc vs fi g (DL.ret true) el e = .ok (.lst (ds.map f)) e0 := by
  have k := mLc_filter (tt := DL.ret true) (el := el) (fun _ => true) f hf hn hb hl fun d hd => by
    obtain ⟨e1, e3, h1, h2, h3⟩ := h d hd
    exact ⟨e1, e1, h1, rfl, fun _ => ⟨e3, h2, h3⟩, fun z => nomatch z⟩
  rw [k, List.filter_eq_self.mpr fun _ _ => rfl]
theorem mLc_ints {vs : List Nat} {fi : M (List D)} {g : D → M Unit} {el : M D} {e e0 : DEnv} {ns : List Int} (f : Int → Int) (hf : fi e = .ok (ns.map .int) e0) (hn : noOwn e0 vs = true) (hb : backE e0 (wipeE e0 vs) vs = e0) (hl : ns.length ≤ sizeLine)
    (h : ∀ n ∈ ns, ∃ e1 e3, g (.int n) (wipeE e0 vs) = .ok () e1 ∧ el e1 = .ok (.int (f n)) e3 ∧ wipeE e3 vs = wipeE e0 vs) : mLc vs fi g (DL.ret true) el e = .ok (.lst ((ns.map f).map .int)) e0 := by
  have k := mLc_map (el := el) (fun d => match d with | .int n => .int (f n) | d => d) hf hn hb (by rw [List.length_map]; exact hl) fun d hd => by
    obtain ⟨n, hn, rfl⟩ := List.mem_map.mp hd
    exact h n hn
  rw [k, List.map_map, List.map_map]; rfl
theorem mLc_rng {vs : List Nat} {fi : M (List D)} {g : D → M Unit} {el : M D} {e e0 : DEnv} {m : Nat} (f : Nat → Int) (hf : fi e = .ok (rngD 0 m) e0) (hn : noOwn e0 vs = true) (hb : backE e0 (wipeE e0 vs) vs = e0) (hl : m ≤ sizeLine)
    (h : ∀ k < m, ∃ e1 e3, g (.int (k : Int)) (wipeE e0 vs) = .ok () e1 ∧ el e1 = .ok (.int (f k)) e3 ∧ wipeE e3 vs = wipeE e0 vs) : mLc vs fi g (DL.ret true) el e = .ok (.lst (((List.range m).map f).map .int)) e0 := by
  have k := mLc_map (el := el) (fun d => match d with | .int n => .int (f n.toNat) | d => d) hf hn hb (by unfold rngD; rw [List.length_map, List.length_range]; exact hl) fun d hd => by
    obtain ⟨k, hk, rfl⟩ := mem_rngD hd
    have e : ((0 : Int) + (k : Int)).toNat = k := by omega
    dsimp only
    rw [e, Int.zero_add]
    exact h k hk
  rw [k]
  unfold rngD
  rw [List.map_map, List.map_map]
  congr 2
  apply List.map_congr_left
  intro k _
  show D.int (f ((0 : Int) + (k : Int)).toNat) = D.int (f k)
  rw [show ((0 : Int) + (k : Int)).toNat = k by omega]
theorem sz0 : szOk 0 = True := eq_true (by decide)
theorem sz1 : szOk 1 = True := eq_true (by decide)
theorem sz2 : szOk 2 = True := eq_true (by decide)
theorem sz3 : szOk 3 = True := eq_true (by decide)
theorem sz4 : szOk 4 = True := eq_true (by decide)
theorem sz5 : szOk 5 = True := eq_true (by decide)
theorem sz6 : szOk 6 = True := eq_true (by decide)
theorem le_size {n : Nat} (h : n ≤ 100000) : n ≤ sizeLine := Nat.le_trans h (by decide)
theorem at0 {x : D} {l : List D} : atI (x :: l) 0 = some x := atI_nat (j := 0) rfl
theorem at1 {x y : D} {l : List D} : atI (x :: y :: l) 1 = some y := atI_nat (j := 1) rfl
theorem at2 {x y z : D} {l : List D} : atI (x :: y :: z :: l) 2 = some z := atI_nat (j := 2) rfl
theorem nc0 : ((0 : Nat) : Int) = 0 := rfl
theorem nc1 : ((1 : Nat) : Int) = 1 := rfl
theorem nc2 : ((2 : Nat) : Int) = 2 := rfl
theorem nc3 : ((3 : Nat) : Int) = 3 := rfl
theorem nc4 : ((4 : Nat) : Int) = 4 := rfl
theorem nc5 : ((5 : Nat) : Int) = 5 := rfl
def Sl.nown : Sl → Bool | .own _ _ => false | _ => true
/-! ### loops -/
theorem forL_fold {σ : Type} {g : D → M Unit} {b : M Fl} (R : σ → DEnv → Prop) (step : σ → D → σ) : ∀ (ds : List D) (s : σ) (e : DEnv), R s e → (∀ d ∈ ds, ∀ s e, R s e → ∃ e1 e2, g d e = .ok () e1 ∧ (b e1 = .ok .nx e2 ∨ b e1 = .ok .ct e2) ∧ R (step s d) e2) → ∃ e', forL g b ds e = .ok .nx e' ∧ R (ds.foldl step s) e'
  | [], s, e, h, _ => ⟨e, rfl, h⟩
  | d :: r, s, e, h, hs => by
    obtain ⟨e1, e2, h1, h2, h3⟩ := hs d List.mem_cons_self s e h
    obtain ⟨e', h4, h5⟩ := forL_fold R step r (step s d) e2 h3 fun d' m => hs d' (List.mem_cons_of_mem _ m)
    refine ⟨e', ?_, h5⟩
    rw [forL_cons, bnd_ok h1]
    unfold again
    rcases h2 with h2 | h2 <;> rw [h2] <;> exact h4
theorem forL_list0 {g : D → M Unit} {b : M Fl} (ds : List D) (R : Nat → DEnv → Prop) (h : ∀ (k : Nat) (d : D), ds[k]? = some d → ∀ e, R k e → ∃ e1 e2, g d e = .ok () e1 ∧ (b e1 = .ok .nx e2 ∨ b e1 = .ok .ct e2) ∧ R (k + 1) e2) : ∀ (n k : Nat) (e : DEnv), k + n = ds.length → R k e → ∃ e', forL g b (ds.drop k) e = .ok .nx e' ∧ R ds.length e'
  | 0, k, e, hk, r => ⟨e, by rw [List.drop_eq_nil_of_le (by omega)]; rfl, by rw [← hk]; exact r⟩
  | n + 1, k, e, hk, r => by
    have hlt : k < ds.length := by omega
    obtain ⟨e1, e2, h1, h2, h3⟩ := h k ds[k] (List.getElem?_eq_getElem hlt) e r
    obtain ⟨e', h4, h5⟩ := forL_list0 ds R h n (k + 1) e2 (by omega) h3
    refine ⟨e', ?_, h5⟩
    rw [List.drop_eq_getElem_cons hlt, forL_cons, bnd_ok h1]
    unfold again
    rcases h2 with h2 | h2 <;> rw [h2] <;> exact h4
/-- a loop over a list, by what holds at each place -/
theorem forL_list {g : D → M Unit} {b : M Fl} {ds : List D} (R : Nat → DEnv → Prop) {e : DEnv} (h0 : R 0 e) (h : ∀ (k : Nat) (d : D), ds[k]? = some d → ∀ e, R k e → ∃ e1 e2, g d e = .ok () e1 ∧ (b e1 = .ok .nx e2 ∨ b e1 = .ok .ct e2) ∧ R (k + 1) e2) : ∃ e', forL g b ds e = .ok .nx e' ∧ R ds.length e' :=
  forL_list0 ds R h ds.length 0 e (Nat.zero_add _) h0
theorem forL_rng {g : D → M Unit} {b : M Fl} {lo : Int} {m : Nat} (R : Nat → DEnv → Prop) {e : DEnv} (h0 : R 0 e) (h : ∀ (k : Nat), k < m → ∀ e, R k e → ∃ e1 e2, g (.int (lo + (k : Int))) e = .ok () e1 ∧ (b e1 = .ok .nx e2 ∨ b e1 = .ok .ct e2) ∧ R (k + 1) e2) : ∃ e', forL g b (rngD lo m) e = .ok .nx e' ∧ R m e' := by
  obtain ⟨e', h1, h2⟩ := forL_list (g := g) (b := b) (ds := rngD lo m) R h0 fun k d hd => by
    unfold rngD at hd
    rw [List.getElem?_map] at hd
    have hk : k < m := by
      cases q : (List.range m)[k]? with
      | none => rw [q] at hd; cases hd
      | some j => have := (List.getElem?_eq_some_iff.mp q).1; simpa using this
    rw [List.getElem?_range hk] at hd
    cases hd
    exact h k hk
  exact ⟨e', h1, by unfold rngD at h2; rw [List.length_map, List.length_range] at h2; exact h2⟩
/-- as forL_rng, from 0 on -/
theorem forL_rng0 {g : D → M Unit} {b : M Fl} {m : Nat} (R : Nat → DEnv → Prop) {e : DEnv} (h0 : R 0 e) (h : ∀ (k : Nat), k < m → ∀ e, R k e → ∃ e1 e2, g (.int (k : Int)) e = .ok () e1 ∧ (b e1 = .ok .nx e2 ∨ b e1 = .ok .ct e2) ∧ R (k + 1) e2) : ∃ e', forL g b (rngD 0 m) e = .ok .nx e' ∧ R m e' :=
  forL_rng R h0 fun k hk e r => by rw [Int.zero_add]; exact h k hk e r
theorem atK {ns : List Int} {k : Nat} (h : k < ns.length) : atI (ns.map D.int) (k : Int) = some (.int (ns.getD k 0)) := by
  rw [atI_ints (by omega) (by omega)]; rfl
/-- while, by an invariant and a measure -/
theorem whN_inv {c : M Bool} {b : M Fl} (I : Nat → DEnv → Prop) (step : ∀ n e, I n e → c e = .ok false e ∨ (c e = .ok true e ∧ ∃ e2 m, m < n ∧ (b e = .ok .nx e2 ∨ b e = .ok .ct e2) ∧ I m e2)) : ∀ (k n : Nat) (e : DEnv), n < k → I n e → ∃ n' e', whN c b k e = .ok .nx e' ∧ I n' e' ∧ c e' = .ok false e'
  | 0, n, e, h, _ => by omega
  | k + 1, n, e, h, i => by
    unfold whN
    rcases step n e i with q | ⟨q, e2, m, hm, hb, i2⟩
    · exact ⟨n, e, by rw [a_if, q]; rfl, i, q⟩
    · obtain ⟨n', e', h1, h2⟩ := whN_inv I step k m e2 (by omega) i2
      refine ⟨n', e', ?_, h2⟩
      rw [a_if, q, a_rok, if_pos rfl, a_again]
      rcases hb with hb | hb <;> rw [hb] <;> exact h1
theorem mWh_inv {c : M Bool} {b : M Fl} (I : Nat → DEnv → Prop) (step : ∀ n e, I n e → c e = .ok false e ∨ (c e = .ok true e ∧ ∃ e2 m, m < n ∧ (b e = .ok .nx e2 ∨ b e = .ok .ct e2) ∧ I m e2)) {n : Nat} {e : DEnv} (h : I n e) : ∃ n' e', mWh c b e = .ok .nx e' ∧ I n' e' ∧ c e' = .ok false e' := by
  obtain ⟨n', e', h1, h2⟩ := whN_inv I step (n + 1) n e (Nat.lt_succ_self n) h
  exact ⟨n', e', mWh_of h1 (fun z => nomatch z), h2⟩
/-! ### == -/
/-- plain data of ints, None, at most n deep -/
def D.pl : Nat → D → Bool
  | _, .int _ => true
  | _, .non => true
  | _, .str z => PyData.strOk z
  | n + 1, .tup l => l.all (D.pl n)
  | n + 1, .lst l => l.all (D.pl n)
  | _, _ => false
theorem pl_tup {n : Nat} {l : List D} (h : D.pl n (.tup l) = true) : ∃ m, n = m + 1 ∧ ∀ d ∈ l, D.pl m d = true := by
  cases n with
  | zero => cases h
  | succ m => exact ⟨m, rfl, List.all_eq_true.mp h⟩
theorem pl_lst {n : Nat} {l : List D} (h : D.pl n (.lst l) = true) : ∃ m, n = m + 1 ∧ ∀ d ∈ l, D.pl m d = true := by
  cases n with
  | zero => cases h
  | succ m => exact ⟨m, rfl, List.all_eq_true.mp h⟩
theorem pls_py : ∀ l : List D, (∀ d ∈ l, d.py = true) → D.pys l = true
  | [], _ => by rw [D.pys]
  | d :: r, h => by rw [D.pys, h d List.mem_cons_self, pls_py r fun d' m => h d' (List.mem_cons_of_mem _ m)]; rfl
theorem pls_can : ∀ l : List D, (∀ d ∈ l, d.toPy.canLay0 = true) → PyData.canLayAll0 (D.toPys l) = true
  | [], _ => by rw [D.toPys, PyData.canLayAll0]
  | d :: r, h => by rw [D.toPys, PyData.canLayAll0, h d List.mem_cons_self, pls_can r fun d' m => h d' (List.mem_cons_of_mem _ m)]; rfl
theorem pls_dep (n : Nat) : ∀ l : List D, (∀ d ∈ l, d.toPy.depth ≤ n) → PyData.depthAll (D.toPys l) ≤ n
  | [], _ => by rw [D.toPys, PyData.depthAll]; omega
  | d :: r, h => by
    rw [D.toPys, PyData.depthAll]
    exact Nat.max_le.mpr ⟨h d List.mem_cons_self, pls_dep n r fun d' m => h d' (List.mem_cons_of_mem _ m)⟩
theorem pl_ok : ∀ (n : Nat) (d : D), D.pl n d = true → d.py = true ∧ d.toPy.canLay0 = true ∧ d.toPy.depth ≤ n := by
  intro n
  induction n with
  | zero =>
    intro d h
    cases d with
    | int i => exact ⟨by rw [D.py] <;> simp, by rw [D.toPy, PyData.canLay0], by rw [D.toPy, PyData.depth]; omega⟩
    | non => exact ⟨by rw [D.py] <;> simp, by rw [D.toPy, PyData.canLay0], by rw [D.toPy, PyData.depth]; omega⟩
    | str z => exact ⟨by rw [D.py] <;> simp, by rw [D.toPy, PyData.canLay0]; exact h, by rw [D.toPy, PyData.depth]; omega⟩
    | _ => cases h
  | succ n ih =>
    intro d h
    cases d with
    | int i => exact ⟨by rw [D.py] <;> simp, by rw [D.toPy, PyData.canLay0], by rw [D.toPy, PyData.depth]; omega⟩
    | non => exact ⟨by rw [D.py] <;> simp, by rw [D.toPy, PyData.canLay0], by rw [D.toPy, PyData.depth]; omega⟩
    | str z => exact ⟨by rw [D.py] <;> simp, by rw [D.toPy, PyData.canLay0]; exact h, by rw [D.toPy, PyData.depth]; omega⟩
    | tup l =>
      obtain ⟨m, e, h⟩ := pl_tup h
      cases e
      refine ⟨by rw [D.py]; exact pls_py l fun d m => (ih d (h d m)).1, by rw [D.toPy, PyData.canLay0]; exact pls_can l fun d m => (ih d (h d m)).2.1, ?_⟩
      rw [D.toPy, PyData.depth]
      have := pls_dep n l fun d m => (ih d (h d m)).2.2
      omega
    | lst l =>
      obtain ⟨m, e, h⟩ := pl_lst h
      cases e
      refine ⟨by rw [D.py]; exact pls_py l fun d m => (ih d (h d m)).1, by rw [D.toPy, PyData.canLay0]; exact pls_can l fun d m => (ih d (h d m)).2.1, ?_⟩
      rw [D.toPy, PyData.depth]
      have := pls_dep n l fun d m => (ih d (h d m)).2.2
      omega
    | _ => cases h
theorem eqOk_pl {n m : Nat} {d d' : D} (h : D.pl n d = true) (h' : D.pl m d' = true) (hn : n ≤ 64 := by decide) (hm : m ≤ 64 := by decide) : eqOk d d' = true := by
  obtain ⟨a1, a2, a3⟩ := pl_ok n d h
  obtain ⟨b1, b2, b3⟩ := pl_ok m d' h'
  unfold eqOk shp SeqAt.shaped
  rw [a1, b1, a2, b2, decide_eq_true (by omega), decide_eq_true (by omega)]; rfl
theorem eqvs {n : Nat} (ih : ∀ d d', D.pl n d = true → D.pl n d' = true → (PyData.eqv d.toPy d'.toPy = true ↔ d = d')) : ∀ l l' : List D, (∀ d ∈ l, D.pl n d = true) → (∀ d ∈ l', D.pl n d = true) → (PyData.eqvAll (D.toPys l) (D.toPys l') = true ↔ l = l')
  | [], [], _, _ => by rw [D.toPys, PyData.eqvAll]; simp
  | [], d :: r, _, _ => by rw [D.toPys, D.toPys, PyData.eqvAll]; simp
  | d :: r, [], _, _ => by rw [D.toPys, D.toPys, PyData.eqvAll]; simp
  | d :: r, d' :: r', h, h' => by
    rw [D.toPys, D.toPys, PyData.eqvAll, Bool.and_eq_true, ih d d' (h d List.mem_cons_self) (h' d' List.mem_cons_self), eqvs ih r r' (fun d m => h d (List.mem_cons_of_mem _ m)) (fun d m => h' d (List.mem_cons_of_mem _ m)), List.cons.injEq]
theorem deq_pl : ∀ (n : Nat) (d d' : D), D.pl n d = true → D.pl n d' = true → (deq d d' = true ↔ d = d') := by
  intro n
  unfold deq
  induction n with
  | zero =>
    intro d d' h h'
    cases d <;> cases d' <;> first
      | (cases h; done)
      | (cases h'; done)
      | (rw [D.toPy, D.toPy, PyData.eqv]; simp)
      | (rw [D.toPy, PyData.eqv]; simp)
  | succ n ih =>
    intro d d' h h'
    cases d <;> cases d' <;> first
      | (cases h; done)
      | (cases h'; done)
      | (obtain ⟨m, e, h⟩ := pl_tup h
         cases e
         obtain ⟨m, e, h'⟩ := pl_tup h'
         cases e
         rw [D.toPy, D.toPy, PyData.eqv, eqvs ih _ _ h h']; simp; done)
      | (obtain ⟨m, e, h⟩ := pl_lst h
         cases e
         obtain ⟨m, e, h'⟩ := pl_lst h'
         cases e
         rw [D.toPy, D.toPy, PyData.eqv, eqvs ih _ _ h h']; simp; done)
      | (rw [D.toPy, D.toPy, PyData.eqv]; simp; done)
      | (rw [D.toPy, PyData.eqv]; simp; done)
theorem deq_self {n : Nat} {d : D} (h : D.pl n d = true) : deq d d = true := (deq_pl n d d h h).mpr rfl
theorem deq_ne {n : Nat} {d d' : D} (h : D.pl n d = true) (h' : D.pl n d' = true) (ne : d ≠ d') : deq d d' = false := by
  cases q : deq d d' with
  | false => rfl
  | true => exact absurd ((deq_pl n d d' h h').mp q) ne
/-- a == b, both plain and the same -/
theorem mEq_same {n : Nat} {d d' : D} {e : DEnv} (h : D.pl n d = true) (he : d = d') (hn : n ≤ 64 := by decide) : mEq d d' e = .ok (.bl true) e := by
  subst he
  rw [a_eq, if_pos (eqOk_pl h h hn hn), deq_self h]
theorem mNe_same {n : Nat} {d d' : D} {e : DEnv} (h : D.pl n d = true) (he : d = d') (hn : n ≤ 64 := by decide) : mNe d d' e = .ok (.bl false) e := by
  subst he
  rw [a_ne, if_pos (eqOk_pl h h hn hn), deq_self h]; rfl
theorem mEq_other {n : Nat} {d d' : D} {e : DEnv} (h : D.pl n d = true) (h' : D.pl n d' = true) (he : d ≠ d') (hn : n ≤ 64 := by decide) : mEq d d' e = .ok (.bl false) e := by
  rw [a_eq, if_pos (eqOk_pl h h' hn hn), deq_ne h h' he]
theorem mNe_other {n : Nat} {d d' : D} {e : DEnv} (h : D.pl n d = true) (h' : D.pl n d' = true) (he : d ≠ d') (hn : n ≤ 64 := by decide) : mNe d d' e = .ok (.bl true) e := by
  rw [a_ne, if_pos (eqOk_pl h h' hn hn), deq_ne h h' he]; rfl
abbrev iL (ns : List Int) : D := .lst (ns.map .int)
abbrev iT (ns : List Int) : D := .tup (ns.map .int)
theorem pl_ints {n : Nat} (ns : List Int) : ∀ d ∈ ns.map D.int, D.pl n d = true := fun d m => by
  obtain ⟨i, _, rfl⟩ := List.mem_map.mp m
  cases n <;> rfl
theorem pl_iL {n : Nat} (ns : List Int) : D.pl (n + 1) (iL ns) = true := List.all_eq_true.mpr (pl_ints ns)
theorem pl_iT {n : Nat} (ns : List Int) : D.pl (n + 1) (iT ns) = true := List.all_eq_true.mpr (pl_ints ns)
theorem atI_map {α : Type} {xs : List α} {f : α → D} {k : Int} {x : α} (h0 : 0 ≤ k) (h : xs[k.toNat]? = some x) : atI (xs.map f) k = some (f x) := by
  obtain ⟨j, rfl⟩ := Int.eq_ofNat_of_zero_le h0
  exact atI_nat (j := j) (by rw [List.getElem?_map]; rw [show xs[j]? = some x from h]; rfl)
theorem atI_get {xs : List Int} {k : Int} (h0 : 0 ≤ k) (h1 : k < xs.length) : atI (xs.map D.int) k = some (.int (xs.getD k.toNat 0)) := atI_ints h0 h1
end DL

/-! DLu: how own lists, texts, stepped ranges are reckoned. -/
namespace DL
open PySem PySem.Spec PyProof.Rows L2 Evl
section
variable {α β : Type} {e e' : DEnv} {m : M α} {f : α → M β} {x T : Str} {d d' : D} {i j : Int} {n k : Nat} {fa fb : M D} {h : M (List D)} {l : List D} {s z : Str} {o : Option Nat}
theorem a_xStr {g : Str → M D} : xStr g (.str s) e = g s e := rfl
theorem a_dSplit : dSplit s (.str z) e = if (z.length == 0) = false ∧ s.length + 2 ≤ sizeLine then .ok (.lst ((Txt.split s z).map .str)) e else .stuck := by
  show (if (z.length == 0) = false ∧ s.length + 2 ≤ sizeLine then DL.ret (D.lst ((Txt.split s z).map .str)) else stk) e = _
  split <;> rfl
theorem a_dJoinL {ys : List Str} : dJoin s (.lst (ys.map .str)) e = if joinOk s ys then .ok (.str (Txt.join s ys)) e else .stuck := by
  show oJoin s (asStrs (ys.map .str)) e = _
  rw [asStrs_map]
  unfold oJoin
  dsimp only
  split <;> rfl
theorem a_dJoinT {ys : List Str} : dJoin s (.tup (ys.map .str)) e = if joinOk s ys then .ok (.str (Txt.join s ys)) e else .stuck := a_dJoinL
theorem a_dIn {neg : Bool} : dIn neg (.str s) (.str z) e = inS neg (sgn s) z e := rfl
theorem a_inF {c : Nat} : inS false (some c) z e = .ok (.bl (decide (c ∈ z.cps.toList))) e := rfl
theorem a_inT {c : Nat} : inS true (some c) z e = .ok (.bl (!decide (c ∈ z.cps.toList))) e := rfl
theorem a_mOwn : mOwn n h e = rB (h e) (fun ds env => .ok .nx (env.set n (.own none (.lst ds)))) := rfl
theorem a_mFl : mFl h e = rB (h e) (fun ds => if szOk ds.length then DL.ret ds else stk) := rfl
def uL (r : Res D) : Res (List D) := match r with | .ok (.lst l) e => .ok l e | .exc x p e => .exc x p e | _ => .stuck
theorem a_unL : unL fa e = uL (fa e) := rfl
theorem a_uLok : uL (.ok (.lst l) e) = .ok l e := rfl
def oOw (o : Option Sl) : Option (Option Nat × List D) := match o with | some (.own k (.lst l)) => some (k, l) | _ => none
theorem a_ownAt : ownAt e n = oOw e[n]? := rfl
theorem a_oOw {q : Option Nat} : oOw (some (.own q (.lst l))) = some (q, l) := rfl
def aP (o : Option (Option Nat × List D)) (n : Nat) (f : M D) (e : DEnv) : Res Fl := match o with | some _ => bnd f (kApp n) e | none => .stuck
theorem a_app : mApp n fa e = aP (ownAt e n) n fa e := rfl
theorem a_aP {q : Option Nat × List D} : aP (some q) n fa e = rB (fa e) (kApp n) := rfl
def kA (o : Option (Option Nat × List D)) (n : Nat) (d : D) (e : DEnv) : Res Fl := match o with
  | some (k, l) => if l.length < sizeLine then .ok .nx (e.set n (.own k (.lst (l ++ [d])))) else .stuck
  | none => .stuck
theorem a_kApp : kApp n d e = kA (ownAt e n) n d e := rfl
theorem a_kA {q : Option Nat} : kA (some (q, l)) n d e = if l.length < sizeLine then .ok .nx (e.set n (.own q (.lst (l ++ [d])))) else .stuck := rfl
def sI (o : Option (Option Nat × List D)) (n : Nat) (fi : M D) (d : D) (e : DEnv) : Res Fl := match o with | some _ => bnd fi (fun kd => kSet n d kd) e | none => .stuck
theorem a_setI : mSetI n fa fb e = rB (fb e) (fun d env => sI (ownAt env n) n fa d env) := rfl
theorem a_sI {q : Option Nat × List D} : sI (some q) n fa d e = rB (fa e) (fun kd => kSet n d kd) := rfl
def kS (o : Option (Option Nat × List D)) (n : Nat) (d : D) (j : Int) (e : DEnv) : Res Fl := match o with
  | some (k, l) => (match ixN l.length j with | some p => .ok .nx (e.set n (.own k (.lst (l.set p d)))) | none => .stuck)
  | none => .stuck
theorem a_kSet : kSet n d (.int j) e = kS (ownAt e n) n d j e := by
  unfold kSet kS
  cases ownAt e n with
  | none => rfl
  | some q => rfl
def kN (o : Option Nat) (q : Option Nat) (l : List D) (n : Nat) (d : D) (e : DEnv) : Res Fl := match o with | some p => .ok .nx (e.set n (.own q (.lst (l.set p d)))) | none => .stuck
theorem a_kS {q : Option Nat} : kS (some (q, l)) n d j e = kN (ixN l.length j) q l n d e := rfl
theorem a_kN {q : Option Nat} {p : Nat} : kN (some p) q l n d e = .ok .nx (e.set n (.own q (.lst (l.set p d)))) := rfl
def fZ (o : Option Sl) (e : DEnv) (n : Nat) : DEnv := match o with | some (.own none (.lst l)) => e.set n (.val (.lst l)) | _ => e
theorem a_frz1 : frz1 e n = fZ e[n]? e n := rfl
theorem a_fZ : fZ (some (.own none (.lst l))) e n = e.set n (.val (.lst l)) := rfl
theorem a_rng3 : mRng3 h e = rB (h e) (fun ds => match ds with | [.int i, .int j, .int c] => if RgC i j c (Builtin.Range.rangeSize i j c).toNat then DL.ret (rng3D i c (Builtin.Range.rangeSize i j c).toNat) else stk | _ => stk) := rfl
theorem a_mAddS : mAdd (.str s) (.str z) e = if szOk (s.length + z.length) then .ok (.str (s ++ z)) e else .stuck := by
  show (if szOk (s.length + z.length) then DL.ret (D.str (s ++ z)) else stk) e = _
  split <;> rfl
theorem a_mAddL {l' : List D} : mAdd (.lst l) (.lst l') e = if szOk (l.length + l'.length) then .ok (.lst (l ++ l')) e else .stuck := by
  show (if szOk (l.length + l'.length) then DL.ret (D.lst (l ++ l')) else stk) e = _
  split <;> rfl
theorem a_dIxS : dIx (.str z) i e = if z.length ≤ sizeLine then oM ((atI z.cps.toList i).map fun c => .str ⟨#[c]⟩) e else .stuck := by
  show (if z.length ≤ sizeLine then oM ((atI z.cps.toList i).map fun c => .str ⟨#[c]⟩) else stk) e = _
  split <;> rfl
theorem a_dSlS {lo hi : Option Int} : dSlice (.str z) lo hi e = if z.length ≤ sizeLine then .ok (.str (cutS z lo hi)) e else .stuck := by
  show (if z.length ≤ sizeLine then DL.ret (D.str (cutS z lo hi)) else stk) e = _
  split <;> rfl
theorem a_mod3 {g : Int → M D} : (match D.int i with | .int i => g i | _ => stk) = g i := rfl
end
theorem isN_n : isNon .non = true := rfl
theorem isN_t {l : List D} : isNon (.tup l) = false := rfl
theorem isN_l {l : List D} : isNon (.lst l) = false := rfl
theorem isN_i {i : Int} : isNon (.int i) = false := rfl
theorem isN_s {z : Str} : isNon (.str z) = false := rfl
theorem at3 {x y z w : D} {l : List D} : atI (x :: y :: z :: w :: l) 3 = some w := atI_nat (j := 3) rfl
theorem at4 {x y z w v : D} {l : List D} : atI (x :: y :: z :: w :: v :: l) 4 = some v := atI_nat (j := 4) rfl
theorem at5 {x y z w v u : D} {l : List D} : atI (x :: y :: z :: w :: v :: u :: l) 5 = some u := atI_nat (j := 5) rfl
theorem at6 {x y z w v u t : D} {l : List D} : atI (x :: y :: z :: w :: v :: u :: t :: l) 6 = some t := atI_nat (j := 6) rfl
theorem at7 {x y z w v u t s : D} {l : List D} : atI (x :: y :: z :: w :: v :: u :: t :: s :: l) 7 = some s := atI_nat (j := 7) rfl
/-- a loop that goes through, or stops at the first item that is not P -/
theorem forL_all {g : D → M Unit} {b : M Fl} (P : D → Bool) (I : DEnv → Prop) (bad : Res Fl → Prop) (hb : ∀ r k, bad r → aG r k = r) : ∀ (ds : List D) (e : DEnv), I e → (∀ d ∈ ds, ∀ e, I e → ∃ e1, g d e = .ok () e1 ∧ (P d = true → ∃ e2, (b e1 = .ok .nx e2 ∨ b e1 = .ok .ct e2) ∧ I e2) ∧ (P d = false → bad (b e1))) →
    (ds.all P = true ∧ ∃ e', forL g b ds e = .ok .nx e' ∧ I e') ∨ (ds.all P = false ∧ bad (forL g b ds e))
  | [], e, i, _ => .inl ⟨rfl, e, rfl, i⟩
  | d :: r, e, i, h => by
    obtain ⟨e1, h1, h2, h3⟩ := h d List.mem_cons_self e i
    rw [List.all_cons, forL_cons, bnd_ok h1, a_again]
    cases q : P d with
    | true =>
      obtain ⟨e2, h4, i2⟩ := h2 q
      have ih := forL_all P I bad hb r e2 i2 fun d' m => h d' (List.mem_cons_of_mem _ m)
      rw [Bool.true_and]
      rcases h4 with h4 | h4 <;> rw [h4] <;> exact ih
    | false => exact .inr ⟨rfl, by rw [hb _ _ (h3 q)]; exact h3 q⟩
/-- a fold that may stop -/
def foldO {σ : Type} (step : σ → D → Option σ) : List D → σ → Option σ
  | [], s => some s
  | d :: r, s => match step s d with | some s' => foldO step r s' | none => none
theorem forL_opt {σ : Type} {g : D → M Unit} {b : M Fl} (R : σ → DEnv → Prop) (step : σ → D → Option σ) (bad : Res Fl → Prop) (hb : ∀ r k, bad r → aG r k = r) : ∀ (ds : List D) (s : σ) (e : DEnv), R s e → (∀ d ∈ ds, ∀ s e, R s e → ∃ e1, g d e = .ok () e1 ∧ ((∃ s', step s d = some s' ∧ ∃ e2, (b e1 = .ok .nx e2 ∨ b e1 = .ok .ct e2) ∧ R s' e2) ∨ (step s d = none ∧ bad (b e1)))) →
    (∃ s', foldO step ds s = some s' ∧ ∃ e', forL g b ds e = .ok .nx e' ∧ R s' e') ∨ (foldO step ds s = none ∧ bad (forL g b ds e))
  | [], s, e, i, _ => .inl ⟨s, rfl, e, rfl, i⟩
  | d :: r, s, e, i, h => by
    obtain ⟨e1, h1, h2⟩ := h d List.mem_cons_self s e i
    rw [forL_cons, bnd_ok h1, a_again]
    unfold foldO
    rcases h2 with ⟨s', h3, e2, h4, i2⟩ | ⟨h3, h4⟩
    · rw [h3]
      have ih := forL_opt R step bad hb r s' e2 i2 fun d' m => h d' (List.mem_cons_of_mem _ m)
      rcases h4 with h4 | h4 <;> rw [h4] <;> exact ih
    · rw [h3]
      exact .inr ⟨rfl, by rw [hb _ _ h4]; exact h4⟩
end DL

local macro_rules | `(tactic| walk_at "dl") => `(tactic| try simp -implicitDefEqProofs only [Bool.true_eq_false, DL.wipeE, DL.at0, DL.at1, DL.at2, DL.nc0, DL.nc1, DL.nc2, DL.nc3, DL.nc4, DL.nc5, not_true_eq_false, not_false_eq_true, eq_self, ne_eq,  DL.sz0, DL.sz1, DL.sz2, DL.sz3, DL.sz4, DL.sz5, DL.sz6, DL.a_seq, DL.a_listL, DL.a_listT, DL.a_tupleL, DL.a_tupleT, DL.a_sum, DL.a_isiT, DL.a_isiL, DL.a_isiS, DL.k_tt, DL.k_lt, DL.k_tl, DL.k_ll, DL.k_it, DL.k_il, DL.k_ss, DL.k_st, DL.k_ti, DL.k_li, DL.k_tb, DL.k_lb, DL.a_isE, DL.a_callE, DL.a_reok, DL.a_try, DL.a_tok, DL.a_texc, DL.a_cT, DL.a_cF, DL.a_unN, DL.a_unR, DL.a_slice, DL.a_oNone, DL.a_oSome, DL.a_dSlL, DL.a_dSlT, DL.a_ret, DL.a_stk, DL.a_bnd, DL.a_rok, DL.a_rexc, DL.a_rst, DL.a_rite, DL.a_var, DL.a_oval, DL.a_oown, DL.a_m2, DL.a_g2i, DL.a_add, DL.a_mAdd, DL.a_sub, DL.a_mul, DL.a_div, DL.a_mod, DL.a_pow, DL.a_shr, DL.a_cmp, DL.a_eq, DL.a_ne, DL.eqOk_ii, DL.deq_ii, DL.a_u1i, DL.a_mB, DL.a_truB, DL.a_truI, DL.a_truN, DL.a_truL, DL.a_truT, DL.a_bAnd, DL.a_bOr, DL.a_bNot, DL.a_vAnd, DL.a_vOr, DL.a_vNot, DL.a_if, DL.a_ite, DL.a_aNil, DL.a_aCons, DL.a_tup, DL.a_lst, DL.a_c1i, DL.a_c2i, DL.a_cIntI, DL.a_cIntB, DL.a_lenL, DL.a_lenT, DL.a_lenS, DL.a_nx, DL.a_sq, DL.a_snx, DL.a_srt, DL.a_sbk, DL.a_sct, DL.a_sexc, DL.a_sst, DL.a_site, DL.a_asg, DL.a_mRet, DL.a_drop, DL.a_aug, DL.a_oA, DL.a_gN, DL.a_gsNil, DL.a_gsCons, DL.a_gTpT, DL.a_gTpL, DL.a_asgT, DL.a_par, DL.a_again, DL.a_gnx, DL.a_gct, DL.a_gbk, DL.a_grt, DL.a_gexc, DL.a_gite, DL.a_rng1, DL.a_rng2, DL.a_raise, DL.a_call, DL.a_rsok, DL.a_rsexc, DL.a_rsst, DL.a_has, DL.a_hval, DL.a_hown, DL.a_onSl, DL.a_slD, DL.a_oDv, DL.a_oDo, DL.a_oDs, DL.a_ixN, DL.a_mIxI, DL.a_dIxL, DL.a_dIxT, DL.a_oM, DL.a_isiI, DL.a_isiB, DL.a_kM, DL.k_ii, DL.k_ib, DL.k_bi, DL.k_bb, DL.a_runF, DL.a_rFrt, DL.a_rFnx, DL.a_rFexc, DL.a_rFite, DL.envOf, List.map_cons, List.map_nil, List.length_cons, List.length_nil, List.cons_append, List.nil_append, List.getElem?_cons_zero, List.getElem?_cons_succ, List.set_cons_zero, List.set_cons_succ, List.replicate, if_true, if_false, Bool.false_eq_true, reduceIte, List.length_map, Nat.reduceAdd, Nat.reduceSub, Nat.zero_add, decide_eq_true_eq, Bool.not_eq_true', decide_eq_false_iff_not, Bool.not_true, Bool.not_false])
/-! DLm: divisors, places, as plain mathematics. -/
namespace DL
open PySem PySem.Spec PyProof.Rows L2 Evl
theorem gcd_wh : ∀ (k m n : Nat), n < k → whN gcdC gcdB k [.val (.int m), .val (.int n)] = .ok .nx [.val (.int (Nat.gcd m n : Nat)), .val (.int 0)]
  | 0, m, n, h => by omega
  | k + 1, m, n, h => by
    unfold whN
    walk_at "dl"
    by_cases hn : n = 0
    · subst hn
      rw [if_neg (by omega), Nat.gcd_zero_right]; rfl
    · rw [if_pos (by omega), if_pos (by omega)]
      rw [fmod_nat, gcd_wh k n (m % n) (by have := Nat.mod_lt m (show 0 < n by omega); omega), Nat.gcd_comm n, ← Nat.gcd_rec n m, Nat.gcd_comm]
theorem gcd_mWh (m n : Nat) : mWh gcdC gcdB [.val (.int m), .val (.int n)] = .ok .nx [.val (.int (Nat.gcd m n : Nat)), .val (.int 0)] := mWh_of (gcd_wh (n + 1) m n (Nat.lt_succ_self n)) (fun z => nomatch z)
def gd (a b : Int) : Int := (Nat.gcd a.natAbs b.natAbs : Nat)
/-- the body of divisor -/
noncomputable abbrev gcdF : M Fl :=
  (sq (mAsg 0 (bnd (aCons (mVar 0) aNil) (c1i fun i => ret (.int (iAbs i)))))
  (sq (mAsg 1 (bnd (aCons (mVar 1) aNil) (c1i fun i => ret (.int (iAbs i)))))
  (sq (mWh (bnd (m2 (mVar 1) (ret (.int 0)) (g2i (iCmp fun i j => decide (j < i)))) mB) (mPar 0 1 (aCons (mVar 1) (aCons (m2 (mVar 0) (mVar 1) (g2i iMod)) aNil))))
  (mRet (mVar 0)))))
theorem e_gcd (a b : Int) : runF 2 gcdF [.int a, .int b] = .ok (.int (gd a b)) := by
  walk_at "dl"
  rw [iAbs_eq, iAbs_eq, gcd_mWh]
  walk_at "dl"
  rfl
theorem gd_nonneg (a b : Int) : 0 ≤ gd a b := by unfold gd; omega
theorem gd_comm (a b : Int) : gd b a = gd a b := by unfold gd; rw [Nat.gcd_comm]
theorem gd_zero {a b : Int} (h : gd a b = 0) : a = 0 ∧ b = 0 := by
  unfold gd at h
  have h' : Nat.gcd a.natAbs b.natAbs = 0 := by omega
  have := Nat.gcd_eq_zero_iff.mp h'
  omega
theorem gd_l (a b : Int) : gd a b ∣ a := by unfold gd; exact Int.ofNat_dvd_left.mpr (Nat.gcd_dvd_left _ _)
theorem gd_r (a b : Int) : gd a b ∣ b := by unfold gd; exact Int.ofNat_dvd_left.mpr (Nat.gcd_dvd_right _ _)
theorem gd_dvd {a b c : Int} (h : c ∣ a) (k : c ∣ b) : c ∣ gd a b := by
  unfold gd
  exact Int.natAbs_dvd.mp (Int.ofNat_dvd.mpr (Nat.dvd_gcd (Int.natAbs_dvd_natAbs.mpr h) (Int.natAbs_dvd_natAbs.mpr k)))
theorem fmod_dvd {a b : Int} (h : b ∣ a) (h0 : 0 ≤ b) : a.fmod b = 0 := by rw [Int.fmod_eq_emod_of_nonneg _ h0]; exact Int.emod_eq_zero_of_dvd h
theorem gd_bits {a b : Int} {m : Nat} (ha : ib a ≤ m) (hb : ib b ≤ m) : ib (gd a b) ≤ m := by
  by_cases h : a = 0
  · refine intBits_le_of_natAbs (y := b) ?_ hb
    unfold gd; subst h; simp
  · refine intBits_le_of_natAbs (y := a) ?_ ha
    have := Nat.le_of_dvd (by omega) (Nat.gcd_dvd_left a.natAbs b.natAbs)
    unfold gd; omega
/-- a number and more: the divisor of all -/
def gdl (b : Int) (ns : List Int) : Int := ns.foldl gd b
theorem gdl_cons {b n : Int} {ns : List Int} : gdl b (n :: ns) = gdl (gd b n) ns := rfl
theorem gdl_dvd : ∀ {ns : List Int} {b : Int}, gdl b ns ∣ b ∧ ∀ n ∈ ns, gdl b ns ∣ n
  | [], b => ⟨Int.dvd_refl _, fun n h => by cases h⟩
  | m :: ns, b => by
    obtain ⟨h1, h2⟩ := gdl_dvd (ns := ns) (b := gd b m)
    rw [gdl_cons]
    refine ⟨Int.dvd_trans h1 (gd_l b m), fun n h => ?_⟩
    rcases List.mem_cons.mp h with rfl | h
    · exact Int.dvd_trans h1 (gd_r b n)
    · exact h2 n h
theorem dvd_gdl : ∀ {ns : List Int} {b c : Int}, c ∣ b → (∀ n ∈ ns, c ∣ n) → c ∣ gdl b ns
  | [], b, c, h, _ => h
  | m :: ns, b, c, h, k => by
    rw [gdl_cons]
    exact dvd_gdl (gd_dvd h (k m List.mem_cons_self)) fun n hn => k n (List.mem_cons_of_mem _ hn)
theorem gdl_nonneg : ∀ {ns : List Int} {b : Int}, 0 ≤ b → 0 ≤ gdl b ns
  | [], b, h => h
  | m :: ns, b, h => by rw [gdl_cons]; exact gdl_nonneg (gd_nonneg b m)
theorem dvd_le {a b : Int} (h : a ∣ b) (hb : b ≠ 0) : a.natAbs ≤ b.natAbs := Nat.le_of_dvd (by omega) (Int.natAbs_dvd_natAbs.mpr h)
theorem ib_dvd {a b : Int} {m : Nat} (h : a ∣ b) (hb : b ≠ 0) (k : ib b ≤ m) : ib a ≤ m := intBits_le_of_natAbs (dvd_le h hb) k
/-- what all of a place is divided by -/
def pby (u : Int) (ns : List Int) : Int := if u < 0 then -gdl u.natAbs ns else gdl u.natAbs ns
theorem pby_dvd {u : Int} {ns : List Int} : pby u ns ∣ u ∧ ∀ n ∈ ns, pby u ns ∣ n := by
  obtain ⟨h1, h2⟩ := gdl_dvd (ns := ns) (b := (u.natAbs : Int))
  have h1 : gdl u.natAbs ns ∣ u := Int.dvd_trans h1 (Int.natAbs_dvd.mpr (Int.dvd_refl u))
  unfold pby
  split
  · exact ⟨Int.neg_dvd.mpr h1, fun n h => Int.neg_dvd.mpr (h2 n h)⟩
  · exact ⟨h1, h2⟩
theorem pby_ne {u : Int} {ns : List Int} (hu : u ≠ 0) : pby u ns ≠ 0 := fun h => by
  have := pby_dvd (u := u) (ns := ns) |>.1
  rw [h] at this
  exact hu (Int.zero_dvd.mp this)
theorem mul_div_of {a b : Int} (hb : b ≠ 0) (h : b ∣ a) : b * a.fdiv b = a := by
  obtain ⟨k, rfl⟩ := h
  rw [Int.mul_comm b k, Int.mul_fdiv_cancel k hb, Int.mul_comm]
/-- the place's under -/
def pun (u : Int) (ns : List Int) : Int := u.fdiv (pby u ns)
/-- the place's tops -/
def pts (u : Int) (ns : List Int) : List Int := ns.map fun n => n.fdiv (pby u ns)
theorem pun_mul {u : Int} {ns : List Int} (hu : u ≠ 0) : pby u ns * pun u ns = u := mul_div_of (pby_ne hu) pby_dvd.1
theorem pun_pos {u : Int} {ns : List Int} (hu : u ≠ 0) : 0 < pun u ns := by
  have h := pun_mul (ns := ns) hu
  have g := gdl_nonneg (ns := ns) (b := (u.natAbs : Int)) (by omega)
  have hne := pby_ne (ns := ns) hu
  have hs : (u < 0 → pby u ns < 0) ∧ (0 < u → 0 < pby u ns) := by
    unfold pby at hne ⊢
    constructor
    · intro q; rw [if_pos q] at hne ⊢; omega
    · intro q; rw [if_neg (by omega)] at hne ⊢; omega
  rcases Int.lt_or_gt_of_ne hu with q | q
  · have h1 := hs.1 q
    refine Int.not_le.mp fun z => ?_
    have := Int.mul_nonneg_of_nonpos_of_nonpos (Int.le_of_lt h1) z
    omega
  · have h1 := hs.2 q
    refine Int.not_le.mp fun z => ?_
    have := Int.mul_nonpos_of_nonneg_of_nonpos (Int.le_of_lt h1) z
    omega
/-- in lowest terms: no divisor above 1 in common -/
def low (v : Int) (qs : List Int) : Prop := gdl v qs = 1
theorem low_of {v : Int} {qs : List Int} (hv : 0 < v) (h : ∀ c : Int, 0 ≤ c → c ∣ v → (∀ q ∈ qs, c ∣ q) → c = 1) : low v qs := by
  obtain ⟨h1, h2⟩ := gdl_dvd (ns := qs) (b := v)
  exact h _ (gdl_nonneg (by omega)) h1 h2
theorem low_use {v : Int} {qs : List Int} (hl : low v qs) {c : Int} (h0 : 0 ≤ c) (h1 : c ∣ v) (h2 : ∀ q ∈ qs, c ∣ q) : c = 1 := by
  have h := dvd_gdl h1 h2
  rw [hl] at h
  exact Int.eq_one_of_dvd_one h0 h
theorem natAbs_pby {u : Int} {ns : List Int} : pby u ns ∣ gdl u.natAbs ns ∧ gdl u.natAbs ns ∣ pby u ns := by
  unfold pby
  split
  · exact ⟨Int.neg_dvd.mpr (Int.dvd_refl _), Int.dvd_neg.mpr (Int.dvd_refl _)⟩
  · exact ⟨Int.dvd_refl _, Int.dvd_refl _⟩
theorem pl_low {u : Int} {ns : List Int} (hu : u ≠ 0) : low (pun u ns) (pts u ns) := by
  refine low_of (pun_pos hu) fun c c0 c1 c2 => ?_
  have hb := pby_ne (ns := ns) hu
  have hg : pby u ns * c ∣ gdl u.natAbs ns := by
    refine dvd_gdl ?_ fun n hn => ?_
    · refine Int.dvd_natAbs.mpr ?_
      have := Int.mul_dvd_mul_left (pby u ns) c1
      rw [pun_mul hu] at this
      exact this
    · have := Int.mul_dvd_mul_left (pby u ns) (c2 _ (List.mem_map_of_mem hn))
      rw [mul_div_of hb (pby_dvd.2 n hn)] at this
      exact this
  have := Int.dvd_trans hg natAbs_pby.2
  have h1 : pby u ns * c ∣ pby u ns * 1 := by rw [Int.mul_one]; exact this
  exact Int.eq_one_of_dvd_one c0 (Int.dvd_of_mul_dvd_mul_left hb h1)
/-- a place in lowest terms comes as it is -/
theorem pby_low {v : Int} {qs : List Int} (hv : 0 < v) (h : low v qs) : pby v qs = 1 := by
  unfold pby
  rw [if_neg (by omega), show ((v.natAbs : Nat) : Int) = v by omega]
  exact h
theorem fdiv_one (a : Int) : a.fdiv 1 = a := by rw [Int.fdiv_eq_ediv_of_nonneg _ (by decide)]; exact Int.ediv_one a
theorem pun_low {v : Int} {qs : List Int} (hv : 0 < v) (h : low v qs) : pun v qs = v := by unfold pun; rw [pby_low hv h, fdiv_one]
theorem pts_low {v : Int} {qs : List Int} (hv : 0 < v) (h : low v qs) : pts v qs = qs := by
  unfold pts
  rw [pby_low hv h]
  exact (List.map_congr_left fun q _ => fdiv_one q).trans (List.map_id _)
/-- the rest -/
def rst (v : Int) (qs : List Int) : List Int := qs.map fun q => q.fmod v
theorem fmod_rng {a v : Int} (hv : 0 < v) : 0 ≤ a.fmod v ∧ a.fmod v < v := ⟨Int.fmod_nonneg_of_pos a hv, Int.fmod_lt_of_pos a hv⟩
theorem fmod_small {a v : Int} (h0 : 0 ≤ a) (h : a < v) : a.fmod v = a := by rw [Int.fmod_eq_emod_of_nonneg _ (by omega)]; exact Int.emod_eq_of_lt h0 h
theorem dvd_sub_fmod (a v : Int) : v ∣ a.fmod v - a := by
  have h := Int.fmod_add_mul_fdiv a v
  refine ⟨-(a.fdiv v), ?_⟩
  rw [Int.mul_neg]; omega
theorem dvd_congr {a b c v : Int} (hc : c ∣ v) (h : v ∣ a - b) : c ∣ a ↔ c ∣ b := by
  have h1 := Int.dvd_trans hc h
  constructor
  · intro h2
    have := Int.dvd_sub h2 h1
    rwa [show a - (a - b) = b by omega] at this
  · intro h2
    have := Int.dvd_add h1 h2
    rwa [show a - b + b = a by omega] at this
/-- tops that differ by wholes are in lowest terms together -/
theorem low_congr {v : Int} {qs rs : List Int} (hv : 0 < v) (hl : qs.length = rs.length) (h : ∀ (k : Nat) (q r : Int), qs[k]? = some q → rs[k]? = some r → v ∣ q - r) (hq : low v qs) : low v rs := by
  refine low_of hv fun c c0 c1 c2 => low_use hq c0 c1 fun q hm => ?_
  obtain ⟨k, hk⟩ := List.getElem?_of_mem hm
  have hk' : k < rs.length := by rw [← hl]; exact (List.getElem?_eq_some_iff.mp hk).1
  exact (dvd_congr c1 (h k q rs[k] hk (List.getElem?_eq_getElem hk'))).mpr (c2 _ (List.getElem_mem hk'))
theorem low_rst {v : Int} {qs : List Int} (hv : 0 < v) (h : low v qs) : low v (rst v qs) := by
  refine low_congr hv (by unfold rst; rw [List.length_map]) (fun k q r h1 h2 => ?_) h
  unfold rst at h2
  rw [List.getElem?_map, h1] at h2
  cases h2
  have := dvd_sub_fmod q v
  have := Int.dvd_neg.mpr this
  rwa [show -(q.fmod v - q) = q - q.fmod v by omega] at this
theorem fmod_congr {a b v : Int} (hv : 0 < v) (h : v ∣ a - b) : a.fmod v = b.fmod v := by
  rw [Int.fmod_eq_emod_of_nonneg _ (by omega), Int.fmod_eq_emod_of_nonneg _ (by omega)]
  exact Int.emod_eq_emod_iff_emod_sub_eq_zero.mpr (Int.emod_eq_zero_of_dvd h)
theorem rst_congr {v : Int} {qs rs : List Int} (hv : 0 < v) (hl : qs.length = rs.length) (h : ∀ (k : Nat) (q r : Int), qs[k]? = some q → rs[k]? = some r → v ∣ q - r) : rst v qs = rst v rs := by
  apply List.ext_getElem?
  intro k
  unfold rst
  rw [List.getElem?_map, List.getElem?_map]
  cases q : qs[k]? with
  | none =>
    have : rs[k]? = none := List.getElem?_eq_none (by rw [← hl]; exact List.getElem?_eq_none_iff.mp q)
    rw [this]
  | some x =>
    have hk' : k < rs.length := by rw [← hl]; exact (List.getElem?_eq_some_iff.mp q).1
    rw [List.getElem?_eq_getElem hk']
    show some (x.fmod v) = some (rs[k].fmod v)
    rw [fmod_congr hv (h k x rs[k] q (List.getElem?_eq_getElem hk'))]
end DL

namespace G_crystalwords_k82_lays
open PySem PySem.Spec PyProof.Rows L2 DL
/-! the text -/
def topS (i : Nat) : Stmt := PySem.Challenge.pw_crystalwords_k82_lays.main.body.getD i (.Pass ⟨0, 0, 0, 0⟩)
def tab : ETab := [("NoPlace", "NoChange", false), ("NoPlace", "NoDeed", false), ("NoPlace", "NoDrawing", false), ("NoPlace", "NoForm", false), ("NoPlace", "NoName", false), ("NoPlace", "NoNumber", false), ("NoPlace", "NoPlace", true), ("NoPlace", "NoRow", false), ("NoPlace", "NoSheet", false), ("NoPlace", "NoText", false), ("NoPlace", "NotKept", false), ("NoPlace", "NotLeast", false), ("NoPlace", "NotWithin", false), ("NoPlace", "OffSheet", false), ("NoPlace", "TooMany", false), ("NoPlace", "ValueError", true), ("OffSheet", "NoChange", false), ("OffSheet", "NoDeed", false), ("OffSheet", "NoDrawing", false), ("OffSheet", "NoForm", false), ("OffSheet", "NoName", false), ("OffSheet", "NoNumber", false), ("OffSheet", "NoPlace", false), ("OffSheet", "NoRow", false), ("OffSheet", "NoSheet", false), ("OffSheet", "NoText", false), ("OffSheet", "NotKept", false), ("OffSheet", "NotLeast", false), ("OffSheet", "NotWithin", false), ("OffSheet", "OffSheet", true), ("OffSheet", "TooMany", false), ("OffSheet", "ValueError", true)]
theorem t_NoPlace_NoChange : tabAt tab "NoPlace" "NoChange" = some false := by decide +kernel
theorem t_NoPlace_NoDeed : tabAt tab "NoPlace" "NoDeed" = some false := by decide +kernel
theorem t_NoPlace_NoDrawing : tabAt tab "NoPlace" "NoDrawing" = some false := by decide +kernel
theorem t_NoPlace_NoForm : tabAt tab "NoPlace" "NoForm" = some false := by decide +kernel
theorem t_NoPlace_NoName : tabAt tab "NoPlace" "NoName" = some false := by decide +kernel
theorem t_NoPlace_NoNumber : tabAt tab "NoPlace" "NoNumber" = some false := by decide +kernel
theorem t_NoPlace_NoPlace : tabAt tab "NoPlace" "NoPlace" = some true := by decide +kernel
theorem t_NoPlace_NoRow : tabAt tab "NoPlace" "NoRow" = some false := by decide +kernel
theorem t_NoPlace_NoSheet : tabAt tab "NoPlace" "NoSheet" = some false := by decide +kernel
theorem t_NoPlace_NoText : tabAt tab "NoPlace" "NoText" = some false := by decide +kernel
theorem t_NoPlace_NotKept : tabAt tab "NoPlace" "NotKept" = some false := by decide +kernel
theorem t_NoPlace_NotLeast : tabAt tab "NoPlace" "NotLeast" = some false := by decide +kernel
theorem t_NoPlace_NotWithin : tabAt tab "NoPlace" "NotWithin" = some false := by decide +kernel
theorem t_NoPlace_OffSheet : tabAt tab "NoPlace" "OffSheet" = some false := by decide +kernel
theorem t_NoPlace_TooMany : tabAt tab "NoPlace" "TooMany" = some false := by decide +kernel
theorem t_NoPlace_ValueError : tabAt tab "NoPlace" "ValueError" = some true := by decide +kernel
theorem t_OffSheet_NoChange : tabAt tab "OffSheet" "NoChange" = some false := by decide +kernel
theorem t_OffSheet_NoDeed : tabAt tab "OffSheet" "NoDeed" = some false := by decide +kernel
theorem t_OffSheet_NoDrawing : tabAt tab "OffSheet" "NoDrawing" = some false := by decide +kernel
theorem t_OffSheet_NoForm : tabAt tab "OffSheet" "NoForm" = some false := by decide +kernel
theorem t_OffSheet_NoName : tabAt tab "OffSheet" "NoName" = some false := by decide +kernel
theorem t_OffSheet_NoNumber : tabAt tab "OffSheet" "NoNumber" = some false := by decide +kernel
theorem t_OffSheet_NoPlace : tabAt tab "OffSheet" "NoPlace" = some false := by decide +kernel
theorem t_OffSheet_NoRow : tabAt tab "OffSheet" "NoRow" = some false := by decide +kernel
theorem t_OffSheet_NoSheet : tabAt tab "OffSheet" "NoSheet" = some false := by decide +kernel
theorem t_OffSheet_NoText : tabAt tab "OffSheet" "NoText" = some false := by decide +kernel
theorem t_OffSheet_NotKept : tabAt tab "OffSheet" "NotKept" = some false := by decide +kernel
theorem t_OffSheet_NotLeast : tabAt tab "OffSheet" "NotLeast" = some false := by decide +kernel
theorem t_OffSheet_NotWithin : tabAt tab "OffSheet" "NotWithin" = some false := by decide +kernel
theorem t_OffSheet_OffSheet : tabAt tab "OffSheet" "OffSheet" = some true := by decide +kernel
theorem t_OffSheet_TooMany : tabAt tab "OffSheet" "TooMany" = some false := by decide +kernel
theorem t_OffSheet_ValueError : tabAt tab "OffSheet" "ValueError" = some true := by decide +kernel
def cat : ETab := [("NoPlace", "CrystalError", true), ("OffSheet", "CrystalError", true)]
theorem t_NoPlace_CrystalError_c : tabAt cat "NoPlace" "CrystalError" = some true := by decide +kernel
theorem t_OffSheet_CrystalError_c : tabAt cat "OffSheet" "CrystalError" = some true := by decide +kernel
theorem dv_2 : DivOk 2 = True := eq_true (divOk_of (m := 2) (by decide) (by decide) (by decide))
theorem dv_3 : DivOk 3 = True := eq_true (divOk_of (m := 2) (by decide) (by decide) (by decide))
theorem dv_4 : DivOk 4 = True := eq_true (divOk_of (m := 3) (by decide) (by decide) (by decide))
theorem dv_6 : DivOk 6 = True := eq_true (divOk_of (m := 3) (by decide) (by decide) (by decide))
theorem dv_7 : DivOk 7 = True := eq_true (divOk_of (m := 3) (by decide) (by decide) (by decide))
theorem dv_16 : DivOk 16 = True := eq_true (divOk_of (m := 5) (by decide) (by decide) (by decide))
theorem dv_19 : DivOk 19 = True := eq_true (divOk_of (m := 5) (by decide) (by decide) (by decide))
theorem dv_36 : DivOk 36 = True := eq_true (divOk_of (m := 6) (by decide) (by decide) (by decide))
theorem dv_72 : DivOk 72 = True := eq_true (divOk_of (m := 7) (by decide) (by decide) (by decide))
theorem nz_2 : ((2 : Int) = 0) = False := eq_false (by decide)
theorem nz_3 : ((3 : Int) = 0) = False := eq_false (by decide)
theorem nz_4 : ((4 : Int) = 0) = False := eq_false (by decide)
theorem nz_5 : ((5 : Int) = 0) = False := eq_false (by decide)
theorem nz_6 : ((6 : Int) = 0) = False := eq_false (by decide)
theorem nz_12 : ((12 : Int) = 0) = False := eq_false (by decide)
theorem nz_19 : ((19 : Int) = 0) = False := eq_false (by decide)
theorem pw_10_12 : PowOk 10 12 = True := eq_true (by decide)
theorem pw_10_20 : PowOk 10 20 = True := eq_true (by decide)

abbrev s_divisor : Stmt := topS 18
theorem sc_divisor : FnScope ["one", "other"] ["one", "other"] (defScope s_divisor) := ⟨rfl, rfl, rfl, by decide +kernel, rfl, by decide +kernel, by decide +kernel⟩
noncomputable def b_divisor : M Fl :=
  (sq (mAsg 0 (bnd (aCons (mVar 0) aNil) (c1i fun i => ret (.int (iAbs i)))))
  (sq (mAsg 1 (bnd (aCons (mVar 1) aNil) (c1i fun i => ret (.int (iAbs i)))))
  (sq (mWh (bnd (m2 (mVar 1) (ret (.int 0)) (g2i (iCmp fun i j => decide (j < i)))) mB) (mPar 0 1 (aCons (mVar 1) (aCons (m2 (mVar 0) (mVar 1) (g2i iMod)) aNil))))
  (mRet (mVar 0)))))
noncomputable def F_divisor : List D → Rs := runF 2 b_divisor
abbrev N_divisor : List Str := ["one", "other"]
abbrev sk_divisor : Scope := defScope s_divisor
theorem v_divisor_0 : okV N_divisor sk_divisor 0 "one" = true := by decide +kernel
theorem v_divisor_1 : okV N_divisor sk_divisor 1 "other" = true := by decide +kernel
theorem w_divisor_0 : okS N_divisor sk_divisor sk_divisor 0 "one" = true := by decide +kernel
theorem w_divisor_1 : okS N_divisor sk_divisor sk_divisor 1 "other" = true := by decide +kernel
theorem g_divisor_abs : okG sk_divisor "abs" = true := by decide +kernel
set_option maxHeartbeats 4000000 in
theorem j_divisor {X : Cx} {W : WX} (C : CtxOk X W) (V : Nm X N_divisor sk_divisor sk_divisor) (Y : Df X) (z_abs : X.mg "abs" = none) : JSs X W (defBody s_divisor) b_divisor :=
  (jss_cons (js_asg V w_divisor_0 (je_abs V g_divisor_abs z_abs (ja_cons (je_var V v_divisor_0) ja_nil)))
    (jss_cons (js_asg V w_divisor_1 (je_abs V g_divisor_abs z_abs (ja_cons (je_var V v_divisor_1) ja_nil)))
    (jss_cons (js_while C (jt_gt (je_var V v_divisor_1) je_int) (jss_one (js_par C V w_divisor_0 w_divisor_1 (by decide +kernel) (ja_cons (je_var V v_divisor_1) (ja_cons (je_mod (je_var V v_divisor_0) (je_var V v_divisor_1)) ja_nil)))))
    (jss_one (js_ret (je_var V v_divisor_0))))))
theorem ok_divisor {P : Program} {w : World} {K : PySem.W.Frag} {mg : MG} {base : Heap} {f : Addr} {fd : FuncData} (F : Fun K "divisor" "divisor" s_divisor f fd) (gm : mg "divisor" = some (.ref f)) (z_abs : mg "abs" = none) :
    FnOk P w K mg base (L2N.CX P w) 1 f fd ["one", "other"] (spP K mg 2 F_divisor) ∧ Callee P w K mg base "divisor" 1 2 F_divisor := by
  have G : FnOk P w K mg base (L2N.CX P w) 1 f fd ["one", "other"] (spP K mg 2 F_divisor) := by
    have G0 := fn_ok (P := P) (w := w) (K := K) (mg := mg) (base := base) (N := N_divisor) (ps := ["one", "other"]) (k := 0) (g := b_divisor) F sc_divisor (fun X W hP hw hK hmg hb hr C V Y => by subst hP hw hK hmg hb; exact j_divisor C V Y z_abs)
    exact G0
  exact ⟨G, callee_of G gm F.kp (F.binds (ps := ["one", "other"]) fun _ _ _ _ _ _ us hl => match us, hl with | [_, _], _ => rfl)⟩

abbrev s_place : Stmt := topS 20
theorem sc_place : FnScope ["tops", "under", "by", "top"] ["tops", "under"] (defScope s_place) := ⟨rfl, rfl, rfl, by decide +kernel, rfl, by decide +kernel, by decide +kernel⟩
noncomputable def b_place : M Fl :=
  (sq (mIf (bOr (bnd (m2 (mVar 1) (ret (.int 0)) mEq) mB) (bnd (m2 (has 0 (onSl 0 fun d => cLen [d])) (ret (.int 0)) mEq) mB)) (mRaise "NoPlace") nx)
  (sq (mAsg 2 (bnd (aCons (mVar 1) aNil) (c1i fun i => ret (.int (iAbs i)))))
  (sq (bnd (mSeq (mVar 0)) (forL (gN 3) (mAsg 2 (mCall (aCons (mVar 2) (aCons (mVar 3) aNil)) F_divisor))))
  (sq (mIf (bnd (m2 (mVar 1) (ret (.int 0)) (g2i (iCmp fun i j => decide (i < j)))) mB) (mAsg 2 (bnd (mVar 2) (u1i fun i => ret (.int (-i))))) nx)
  (mRet (mTup (aCons (bnd (aCons (mLc [3] (mSeq (mVar 0)) (gN 3) (ret true) (m2 (mVar 3) (mVar 2) (g2i iDiv))) aNil) cTuple) (aCons (m2 (mVar 1) (mVar 2) (g2i iDiv)) aNil))))))))
noncomputable def F_place : List D → Rs := runF 4 b_place
abbrev N_place : List Str := ["tops", "under", "by", "top"]
abbrev sk_place : Scope := defScope s_place
theorem v_place_0 : okV N_place sk_place 0 "tops" = true := by decide +kernel
theorem v_place_1 : okV N_place sk_place 1 "under" = true := by decide +kernel
theorem v_place_2 : okV N_place sk_place 2 "by" = true := by decide +kernel
theorem v_place_3 : okV N_place sk_place 3 "top" = true := by decide +kernel
theorem w_place_2 : okS N_place sk_place sk_place 2 "by" = true := by decide +kernel
theorem w_place_3 : okS N_place sk_place sk_place 3 "top" = true := by decide +kernel
theorem g_place_NoPlace : okG sk_place "NoPlace" = true := by decide +kernel
theorem g_place_abs : okG sk_place "abs" = true := by decide +kernel
theorem g_place_divisor : okG sk_place "divisor" = true := by decide +kernel
theorem g_place_len : okG sk_place "len" = true := by decide +kernel
theorem g_place_tuple : okG sk_place "tuple" = true := by decide +kernel
set_option maxHeartbeats 4000000 in
theorem j_place {X : Cx} {W : WX} (C : CtxOk X W) (V : Nm X N_place sk_place sk_place) (Y : Df X) (c_divisor : Cal X "divisor" 2 F_divisor) (z_abs : X.mg "abs" = none) (z_len : X.mg "len" = none) (z_tuple : X.mg "tuple" = none) {C_NoPlace : Addr} (x_NoPlace : ExcR X.K X.mg "NoPlace" C_NoPlace) : JSs X W (defBody s_place) b_place :=
  (jss_cons (js_if (JW.jt (jw_or (jt_eq C (je_var V v_place_1) je_int) (jw_or1 (jt_eq C (je_lenN V v_place_0 g_place_len z_len) je_int)))) (jss_one (js_raise C V g_place_NoPlace x_NoPlace)) jss_nil)
    (jss_cons (js_asg V w_place_2 (je_abs V g_place_abs z_abs (ja_cons (je_var V v_place_1) ja_nil)))
    (jss_cons (js_for C (ji_seq (je_var V v_place_0)) (jg_name V w_place_3) (jss_one (js_asg V w_place_2 (je_call C V g_place_divisor c_divisor (ja_cons (je_var V v_place_2) (ja_cons (je_var V v_place_3) ja_nil)) (alen_cons (alen_cons alen_nil))))))
    (jss_cons (js_if (jt_lt (je_var V v_place_1) je_int) (jss_one (js_asg V w_place_2 (je_neg (je_var V v_place_2)))) jss_nil)
    (jss_one (js_ret (je_tup (ja_cons (je_tuple V g_place_tuple z_tuple (ja_cons (je_lc (own := [("top", 3)]) C V (by decide +kernel) rfl (ji_seq (je_var V v_place_0)) (fun X1 V1 C1 B1 => (jgv_name V1 (by decide +kernel) (by decide))) (fun X1 V1 C1 B1 => jts_nil) (fun X1 V1 C1 B1 => (je_fdiv (je_var V1 (by decide +kernel)) (je_var V1 (by decide +kernel))))) ja_nil)) (ja_cons (je_fdiv (je_var V v_place_1) (je_var V v_place_2)) ja_nil)))))))))
theorem ok_place {P : Program} {w : World} {K : PySem.W.Frag} {mg : MG} {base : Heap} {f : Addr} {fd : FuncData} (F : Fun K "place" "place" s_place f fd) (gm : mg "place" = some (.ref f)) (c_divisor : Callee P w K mg base "divisor" 1 2 F_divisor) (z_abs : mg "abs" = none) (z_len : mg "len" = none) (z_tuple : mg "tuple" = none) {C_NoPlace : Addr} (x_NoPlace : ExcR K mg "NoPlace" C_NoPlace) :
    FnOk P w K mg base (L2N.CX P w) 2 f fd ["tops", "under"] (spP K mg 2 F_place) ∧ Callee P w K mg base "place" 2 2 F_place := by
  have G : FnOk P w K mg base (L2N.CX P w) 2 f fd ["tops", "under"] (spP K mg 2 F_place) := by
    have G0 := fn_ok (P := P) (w := w) (K := K) (mg := mg) (base := base) (N := N_place) (ps := ["tops", "under"]) (k := 1) (g := b_place) F sc_place (fun X W hP hw hK hmg hb hr C V Y => by subst hP hw hK hmg hb; exact j_place C V Y (c_divisor.cal hr) z_abs z_len z_tuple x_NoPlace)
    exact G0
  exact ⟨G, callee_of G gm F.kp (F.binds (ps := ["tops", "under"]) fun _ _ _ _ _ _ us hl => match us, hl with | [_, _], _ => rfl)⟩

abbrev s_rows_led : Stmt := topS 22
theorem sc_rows_led : FnScope ["rows", "tops", "j", "row"] ["rows", "tops"] (defScope s_rows_led) := ⟨rfl, rfl, rfl, by decide +kernel, rfl, by decide +kernel, by decide +kernel⟩
noncomputable def b_rows_led : M Fl :=
  (mRet (mLc [3] (mSeq (mVar 0)) (gN 3) (ret true) (bnd (aCons (mLc [2] (mRng1 (aCons (has 1 (onSl 1 fun d => cLen [d])) aNil)) (gN 2) (ret true) (m2 (mIxN 3 (mVar 2)) (mIxN 1 (mVar 2)) (g2i iMul))) aNil) cSum)))
noncomputable def F_rows_led : List D → Rs := runF 4 b_rows_led
abbrev N_rows_led : List Str := ["rows", "tops", "j", "row"]
abbrev sk_rows_led : Scope := defScope s_rows_led
theorem v_rows_led_0 : okV N_rows_led sk_rows_led 0 "rows" = true := by decide +kernel
set_option maxHeartbeats 4000000 in
theorem j_rows_led {X : Cx} {W : WX} (C : CtxOk X W) (V : Nm X N_rows_led sk_rows_led sk_rows_led) (Y : Df X) (z_len : X.mg "len" = none) (z_range : X.mg "range" = none) (z_sum : X.mg "sum" = none) : JSs X W (defBody s_rows_led) b_rows_led :=
  (jss_one (js_ret (je_lc (own := [("row", 3)]) C V (by decide +kernel) rfl (ji_seq (je_var V v_rows_led_0)) (fun X1 V1 C1 B1 => (jgv_name V1 (by decide +kernel) (by decide))) (fun X1 V1 C1 B1 => jts_nil) (fun X1 V1 C1 B1 => (je_sum C1 V1 (by decide +kernel) (B1.z z_sum) (ja_cons (je_lc (own := [("j", 2)]) C1 V1 (by decide +kernel) rfl (ji_range1 V1 (by decide +kernel) (B1.z z_range) (ja_cons (je_lenN V1 (by decide +kernel) (by decide +kernel) (B1.z z_len)) ja_nil)) (fun X2 V2 C2 B2 => (jgv_name V2 (by decide +kernel) (by decide))) (fun X2 V2 C2 B2 => jts_nil) (fun X2 V2 C2 B2 => (je_mul (je_ixN V2 (by decide +kernel) (je_var V2 (by decide +kernel))) (je_ixN V2 (by decide +kernel) (je_var V2 (by decide +kernel)))))) ja_nil))))))
theorem ok_rows_led {P : Program} {w : World} {K : PySem.W.Frag} {mg : MG} {base : Heap} {f : Addr} {fd : FuncData} (F : Fun K "rows_led" "rows_led" s_rows_led f fd) (gm : mg "rows_led" = some (.ref f)) (z_len : mg "len" = none) (z_range : mg "range" = none) (z_sum : mg "sum" = none) :
    FnOk P w K mg base (L2N.CX P w) 1 f fd ["rows", "tops"] (spP K mg 2 F_rows_led) ∧ Callee P w K mg base "rows_led" 1 2 F_rows_led := by
  have G : FnOk P w K mg base (L2N.CX P w) 1 f fd ["rows", "tops"] (spP K mg 2 F_rows_led) := by
    have G0 := fn_ok (P := P) (w := w) (K := K) (mg := mg) (base := base) (N := N_rows_led) (ps := ["rows", "tops"]) (k := 0) (g := b_rows_led) F sc_rows_led (fun X W hP hw hK hmg hb hr C V Y => by subst hP hw hK hmg hb; exact j_rows_led C V Y z_len z_range z_sum)
    exact G0
  exact ⟨G, callee_of G gm F.kp (F.binds (ps := ["rows", "tops"]) fun _ _ _ _ _ _ us hl => match us, hl with | [_, _], _ => rfl)⟩

abbrev s_moved : Stmt := topS 23
theorem sc_moved : FnScope ["one", "spot", "rows", "tops", "under", "far", "i"] ["one", "spot"] (defScope s_moved) := ⟨rfl, rfl, rfl, by decide +kernel, rfl, by decide +kernel, by decide +kernel⟩
noncomputable def b_moved : M Fl :=
  (sq (mAsgT (mVar 0) (gTp 3 (gsCons (gN 2) (gsCons (gN 3) (gsCons (gN 4) gsNil)))))
  (sq (mAsg 5 (mCall (aCons (mVar 2) (aCons (mIxN 1 (ret (.int 0))) aNil)) F_rows_led))
  (mRet (mCall (aCons (mLc [6] (mRng1 (aCons (has 3 (onSl 3 fun d => cLen [d])) aNil)) (gN 6) (ret true) (m2 (m2 (mIxN 5 (mVar 6)) (mVar 4) (g2i iMul)) (m2 (mIxN 3 (mVar 6)) (mIxN 1 (ret (.int 1))) (g2i iMul)) mAdd)) (aCons (m2 (mVar 4) (mIxN 1 (ret (.int 1))) (g2i iMul)) aNil)) F_place))))
noncomputable def F_moved : List D → Rs := runF 7 b_moved
abbrev N_moved : List Str := ["one", "spot", "rows", "tops", "under", "far", "i"]
abbrev sk_moved : Scope := defScope s_moved
theorem v_moved_0 : okV N_moved sk_moved 0 "one" = true := by decide +kernel
theorem v_moved_1 : okV N_moved sk_moved 1 "spot" = true := by decide +kernel
theorem v_moved_2 : okV N_moved sk_moved 2 "rows" = true := by decide +kernel
theorem v_moved_3 : okV N_moved sk_moved 3 "tops" = true := by decide +kernel
theorem v_moved_4 : okV N_moved sk_moved 4 "under" = true := by decide +kernel
theorem w_moved_2 : okS N_moved sk_moved sk_moved 2 "rows" = true := by decide +kernel
theorem w_moved_3 : okS N_moved sk_moved sk_moved 3 "tops" = true := by decide +kernel
theorem w_moved_4 : okS N_moved sk_moved sk_moved 4 "under" = true := by decide +kernel
theorem w_moved_5 : okS N_moved sk_moved sk_moved 5 "far" = true := by decide +kernel
theorem g_moved_len : okG sk_moved "len" = true := by decide +kernel
theorem g_moved_place : okG sk_moved "place" = true := by decide +kernel
theorem g_moved_range : okG sk_moved "range" = true := by decide +kernel
theorem g_moved_rows_led : okG sk_moved "rows_led" = true := by decide +kernel
set_option maxHeartbeats 4000000 in
theorem j_moved {X : Cx} {W : WX} (C : CtxOk X W) (V : Nm X N_moved sk_moved sk_moved) (Y : Df X) (c_rows_led : Cal X "rows_led" 2 F_rows_led) (c_place : Cal X "place" 2 F_place) (z_len : X.mg "len" = none) (z_range : X.mg "range" = none) : JSs X W (defBody s_moved) b_moved :=
  (jss_cons (js_asgT (je_var V v_moved_0) (jg_tup (n := 3) C (jgs_cons (jg_name V w_moved_2) (jgs_cons (jg_name V w_moved_3) (jgs_cons (jg_name V w_moved_4) jgs_nil)))))
    (jss_cons (js_asg V w_moved_5 (je_call C V g_moved_rows_led c_rows_led (ja_cons (je_var V v_moved_2) (ja_cons (je_ixN V v_moved_1 je_int) ja_nil)) (alen_cons (alen_cons alen_nil))))
    (jss_one (js_ret (je_call C V g_moved_place c_place (ja_cons (je_lc (own := [("i", 6)]) C V (by decide +kernel) rfl (ji_range1 V g_moved_range z_range (ja_cons (je_lenN V v_moved_3 g_moved_len z_len) ja_nil)) (fun X1 V1 C1 B1 => (jgv_name V1 (by decide +kernel) (by decide))) (fun X1 V1 C1 B1 => jts_nil) (fun X1 V1 C1 B1 => (je_add (je_mul (je_ixN V1 (by decide +kernel) (je_var V1 (by decide +kernel))) (je_var V1 (by decide +kernel))) (je_mul (je_ixN V1 (by decide +kernel) (je_var V1 (by decide +kernel))) (je_ixN V1 (by decide +kernel) je_int))))) (ja_cons (je_mul (je_var V v_moved_4) (je_ixN V v_moved_1 je_int)) ja_nil)) (alen_cons (alen_cons alen_nil)))))))
theorem ok_moved {P : Program} {w : World} {K : PySem.W.Frag} {mg : MG} {base : Heap} {f : Addr} {fd : FuncData} (F : Fun K "moved" "moved" s_moved f fd) (gm : mg "moved" = some (.ref f)) (c_rows_led : Callee P w K mg base "rows_led" 1 2 F_rows_led) (c_place : Callee P w K mg base "place" 2 2 F_place) (z_len : mg "len" = none) (z_range : mg "range" = none) :
    FnOk P w K mg base (L2N.CX P w) 3 f fd ["one", "spot"] (spP K mg 2 F_moved) ∧ Callee P w K mg base "moved" 3 2 F_moved := by
  have G : FnOk P w K mg base (L2N.CX P w) 3 f fd ["one", "spot"] (spP K mg 2 F_moved) := by
    have G0 := fn_ok (P := P) (w := w) (K := K) (mg := mg) (base := base) (N := N_moved) (ps := ["one", "spot"]) (k := 2) (g := b_moved) F sc_moved (fun X W hP hw hK hmg hb hr C V Y => by subst hP hw hK hmg hb; exact j_moved C V Y (c_rows_led.cal hr) (c_place.cal hr) z_len z_range)
    exact G0
  exact ⟨G, callee_of G gm F.kp (F.binds (ps := ["one", "spot"]) fun _ _ _ _ _ _ us hl => match us, hl with | [_, _], _ => rfl)⟩

abbrev s_grid_spot : Stmt := topS 25
theorem sc_grid_spot : FnScope ["spot", "n", "m", "tops", "under"] ["spot", "n", "m"] (defScope s_grid_spot) := ⟨rfl, rfl, rfl, by decide +kernel, rfl, by decide +kernel, by decide +kernel⟩
noncomputable def b_grid_spot : M Fl :=
  (sq (mAsgT (mVar 0) (gTp 2 (gsCons (gN 3) (gsCons (gN 4) gsNil))))
  (sq (mIf (bOr (bnd (m2 (m2 (m2 (mIxN 3 (ret (.int 0))) (mVar 1) (g2i iMul)) (mVar 4) (g2i iMod)) (ret (.int 0)) mNe) mB) (bnd (m2 (m2 (m2 (mIxN 3 (ret (.int 1))) (mVar 2) (g2i iMul)) (mVar 4) (g2i iMod)) (ret (.int 0)) mNe) mB)) (mRet (ret .non)) nx)
  (mRet (mTup (aCons (m2 (m2 (m2 (mIxN 3 (ret (.int 0))) (mVar 1) (g2i iMul)) (mVar 4) (g2i iDiv)) (mVar 1) (g2i iMod)) (aCons (m2 (m2 (m2 (mIxN 3 (ret (.int 1))) (mVar 2) (g2i iMul)) (mVar 4) (g2i iDiv)) (mVar 2) (g2i iMod)) aNil))))))
noncomputable def F_grid_spot : List D → Rs := runF 5 b_grid_spot
abbrev N_grid_spot : List Str := ["spot", "n", "m", "tops", "under"]
abbrev sk_grid_spot : Scope := defScope s_grid_spot
theorem v_grid_spot_0 : okV N_grid_spot sk_grid_spot 0 "spot" = true := by decide +kernel
theorem v_grid_spot_1 : okV N_grid_spot sk_grid_spot 1 "n" = true := by decide +kernel
theorem v_grid_spot_2 : okV N_grid_spot sk_grid_spot 2 "m" = true := by decide +kernel
theorem v_grid_spot_3 : okV N_grid_spot sk_grid_spot 3 "tops" = true := by decide +kernel
theorem v_grid_spot_4 : okV N_grid_spot sk_grid_spot 4 "under" = true := by decide +kernel
theorem w_grid_spot_3 : okS N_grid_spot sk_grid_spot sk_grid_spot 3 "tops" = true := by decide +kernel
theorem w_grid_spot_4 : okS N_grid_spot sk_grid_spot sk_grid_spot 4 "under" = true := by decide +kernel
set_option maxHeartbeats 4000000 in
theorem j_grid_spot {X : Cx} {W : WX} (C : CtxOk X W) (V : Nm X N_grid_spot sk_grid_spot sk_grid_spot) (Y : Df X) : JSs X W (defBody s_grid_spot) b_grid_spot :=
  (jss_cons (js_asgT (je_var V v_grid_spot_0) (jg_tup (n := 2) C (jgs_cons (jg_name V w_grid_spot_3) (jgs_cons (jg_name V w_grid_spot_4) jgs_nil))))
    (jss_cons (js_if (JW.jt (jw_or (jt_ne C (je_mod (je_mul (je_ixN V v_grid_spot_3 je_int) (je_var V v_grid_spot_1)) (je_var V v_grid_spot_4)) je_int) (jw_or1 (jt_ne C (je_mod (je_mul (je_ixN V v_grid_spot_3 je_int) (je_var V v_grid_spot_2)) (je_var V v_grid_spot_4)) je_int)))) (jss_one (js_ret je_non)) jss_nil)
    (jss_one (js_ret (je_tup (ja_cons (je_mod (je_fdiv (je_mul (je_ixN V v_grid_spot_3 je_int) (je_var V v_grid_spot_1)) (je_var V v_grid_spot_4)) (je_var V v_grid_spot_1)) (ja_cons (je_mod (je_fdiv (je_mul (je_ixN V v_grid_spot_3 je_int) (je_var V v_grid_spot_2)) (je_var V v_grid_spot_4)) (je_var V v_grid_spot_2)) ja_nil)))))))
theorem ok_grid_spot {P : Program} {w : World} {K : PySem.W.Frag} {mg : MG} {base : Heap} {f : Addr} {fd : FuncData} (F : Fun K "grid_spot" "grid_spot" s_grid_spot f fd) (gm : mg "grid_spot" = some (.ref f)) :
    FnOk P w K mg base (L2N.CX P w) 1 f fd ["spot", "n", "m"] (spP K mg 3 F_grid_spot) ∧ Callee P w K mg base "grid_spot" 1 3 F_grid_spot := by
  have G : FnOk P w K mg base (L2N.CX P w) 1 f fd ["spot", "n", "m"] (spP K mg 3 F_grid_spot) := by
    have G0 := fn_ok (P := P) (w := w) (K := K) (mg := mg) (base := base) (N := N_grid_spot) (ps := ["spot", "n", "m"]) (k := 0) (g := b_grid_spot) F sc_grid_spot (fun X W hP hw hK hmg hb hr C V Y => by subst hP hw hK hmg hb; exact j_grid_spot C V Y )
    exact G0
  exact ⟨G, callee_of G gm F.kp (F.binds (ps := ["spot", "n", "m"]) fun _ _ _ _ _ _ us hl => match us, hl with | [_, _, _], _ => rfl)⟩

abbrev s_grid_reached : Stmt := topS 26
theorem sc_grid_reached : FnScope ["one", "i", "j", "n", "m", "reached"] ["one", "i", "j", "n", "m"] (defScope s_grid_reached) := ⟨rfl, rfl, rfl, by decide +kernel, rfl, by decide +kernel, by decide +kernel⟩
noncomputable def b_grid_reached : M Fl :=
  (sq (mAsg 5 (mCall (aCons (mCall (aCons (mVar 0) (aCons (mCall (aCons (mTup (aCons (m2 (mVar 1) (mVar 4) (g2i iMul)) (aCons (m2 (mVar 2) (mVar 3) (g2i iMul)) aNil))) (aCons (m2 (mVar 3) (mVar 4) (g2i iMul)) aNil)) F_place) aNil)) F_moved) (aCons (mVar 3) (aCons (mVar 4) aNil))) F_grid_spot))
  (sq (mIf (bnd (mVar 5) fun x => ret (isNon x)) (mRaise "OffSheet") nx)
  (mRet (mVar 5))))
noncomputable def F_grid_reached : List D → Rs := runF 6 b_grid_reached
abbrev N_grid_reached : List Str := ["one", "i", "j", "n", "m", "reached"]
abbrev sk_grid_reached : Scope := defScope s_grid_reached
theorem v_grid_reached_0 : okV N_grid_reached sk_grid_reached 0 "one" = true := by decide +kernel
theorem v_grid_reached_1 : okV N_grid_reached sk_grid_reached 1 "i" = true := by decide +kernel
theorem v_grid_reached_2 : okV N_grid_reached sk_grid_reached 2 "j" = true := by decide +kernel
theorem v_grid_reached_3 : okV N_grid_reached sk_grid_reached 3 "n" = true := by decide +kernel
theorem v_grid_reached_4 : okV N_grid_reached sk_grid_reached 4 "m" = true := by decide +kernel
theorem v_grid_reached_5 : okV N_grid_reached sk_grid_reached 5 "reached" = true := by decide +kernel
theorem w_grid_reached_5 : okS N_grid_reached sk_grid_reached sk_grid_reached 5 "reached" = true := by decide +kernel
theorem g_grid_reached_OffSheet : okG sk_grid_reached "OffSheet" = true := by decide +kernel
theorem g_grid_reached_grid_spot : okG sk_grid_reached "grid_spot" = true := by decide +kernel
theorem g_grid_reached_moved : okG sk_grid_reached "moved" = true := by decide +kernel
theorem g_grid_reached_place : okG sk_grid_reached "place" = true := by decide +kernel
set_option maxHeartbeats 4000000 in
theorem j_grid_reached {X : Cx} {W : WX} (C : CtxOk X W) (V : Nm X N_grid_reached sk_grid_reached sk_grid_reached) (Y : Df X) (c_grid_spot : Cal X "grid_spot" 3 F_grid_spot) (c_moved : Cal X "moved" 2 F_moved) (c_place : Cal X "place" 2 F_place) {C_OffSheet : Addr} (x_OffSheet : ExcR X.K X.mg "OffSheet" C_OffSheet) : JSs X W (defBody s_grid_reached) b_grid_reached :=
  (jss_cons (js_asg V w_grid_reached_5 (je_call C V g_grid_reached_grid_spot c_grid_spot (ja_cons (je_call C V g_grid_reached_moved c_moved (ja_cons (je_var V v_grid_reached_0) (ja_cons (je_call C V g_grid_reached_place c_place (ja_cons (je_tup (ja_cons (je_mul (je_var V v_grid_reached_1) (je_var V v_grid_reached_4)) (ja_cons (je_mul (je_var V v_grid_reached_2) (je_var V v_grid_reached_3)) ja_nil))) (ja_cons (je_mul (je_var V v_grid_reached_3) (je_var V v_grid_reached_4)) ja_nil)) (alen_cons (alen_cons alen_nil))) ja_nil)) (alen_cons (alen_cons alen_nil))) (ja_cons (je_var V v_grid_reached_3) (ja_cons (je_var V v_grid_reached_4) ja_nil))) (alen_cons (alen_cons (alen_cons alen_nil)))))
    (jss_cons (js_if (jt_isN (je_var V v_grid_reached_5)) (jss_one (js_raise C V g_grid_reached_OffSheet x_OffSheet)) jss_nil)
    (jss_one (js_ret (je_var V v_grid_reached_5)))))
theorem ok_grid_reached {P : Program} {w : World} {K : PySem.W.Frag} {mg : MG} {base : Heap} {f : Addr} {fd : FuncData} (F : Fun K "grid_reached" "grid_reached" s_grid_reached f fd) (gm : mg "grid_reached" = some (.ref f)) (c_grid_spot : Callee P w K mg base "grid_spot" 1 3 F_grid_spot) (c_moved : Callee P w K mg base "moved" 3 2 F_moved) (c_place : Callee P w K mg base "place" 2 2 F_place) {C_OffSheet : Addr} (x_OffSheet : ExcR K mg "OffSheet" C_OffSheet) :
    FnOk P w K mg base (L2N.CX P w) 4 f fd ["one", "i", "j", "n", "m"] (spP K mg 5 F_grid_reached) ∧ Callee P w K mg base "grid_reached" 4 5 F_grid_reached := by
  have G : FnOk P w K mg base (L2N.CX P w) 4 f fd ["one", "i", "j", "n", "m"] (spP K mg 5 F_grid_reached) := by
    have G0 := fn_ok (P := P) (w := w) (K := K) (mg := mg) (base := base) (N := N_grid_reached) (ps := ["one", "i", "j", "n", "m"]) (k := 3) (g := b_grid_reached) F sc_grid_reached (fun X W hP hw hK hmg hb hr C V Y => by subst hP hw hK hmg hb; exact j_grid_reached C V Y (c_grid_spot.cal hr) (c_moved.cal hr) (c_place.cal hr) x_OffSheet)
    exact G0
  exact ⟨G, callee_of G gm F.kp (F.binds (ps := ["one", "i", "j", "n", "m"]) fun _ _ _ _ _ _ us hl => match us, hl with | [_, _, _, _, _], _ => rfl)⟩

abbrev s_lays : Stmt := topS 27
theorem sc_lays : FnScope ["drawing", "one", "n", "m", "first_other", "i", "j", "row", "column"] ["drawing", "one"] (defScope s_lays) := ⟨rfl, rfl, rfl, by decide +kernel, rfl, by decide +kernel, by decide +kernel⟩
noncomputable def b_lays : M Fl :=
  (sq (mIf (bnd (m2 (bnd (aCons (mIxN 1 (ret (.int 1))) aNil) cLen) (ret (.int 2)) mNe) mB) (mRaise "OffSheet") nx)
  (sq (mAsg 2 (has 0 (onSl 0 fun d => cLen [d])))
  (sq (mAsg 3 (bnd (aCons (mIxN 0 (ret (.int 0))) aNil) cLen))
  (sq (mAsg 4 (ret .non))
  (sq (bnd (mRng1 (aCons (mVar 2) aNil)) (forL (gN 5) (bnd (mRng1 (aCons (mVar 3) aNil)) (forL (gN 6) (sq (mAsgT (mCall (aCons (mVar 1) (aCons (mVar 5) (aCons (mVar 6) (aCons (mVar 2) (aCons (mVar 3) aNil))))) F_grid_reached) (gTp 2 (gsCons (gN 7) (gsCons (gN 8) gsNil))))
  (mIf (bAnd (bnd (mVar 4) fun x => ret (isNon x)) (bnd (m2 (m2 (mIxN 0 (mVar 7)) (mVar 8) mIx) (m2 (mIxN 0 (mVar 5)) (mVar 6) mIx) mNe) mB)) (mAsg 4 (mTup (aCons (mVar 5) (aCons (mVar 6) aNil)))) nx))))))
  (mRet (mVar 4)))))))
noncomputable def F_lays : List D → Rs := runF 9 b_lays
abbrev N_lays : List Str := ["drawing", "one", "n", "m", "first_other", "i", "j", "row", "column"]
abbrev sk_lays : Scope := defScope s_lays
theorem v_lays_0 : okV N_lays sk_lays 0 "drawing" = true := by decide +kernel
theorem v_lays_1 : okV N_lays sk_lays 1 "one" = true := by decide +kernel
theorem v_lays_2 : okV N_lays sk_lays 2 "n" = true := by decide +kernel
theorem v_lays_3 : okV N_lays sk_lays 3 "m" = true := by decide +kernel
theorem v_lays_4 : okV N_lays sk_lays 4 "first_other" = true := by decide +kernel
theorem v_lays_5 : okV N_lays sk_lays 5 "i" = true := by decide +kernel
theorem v_lays_6 : okV N_lays sk_lays 6 "j" = true := by decide +kernel
theorem v_lays_7 : okV N_lays sk_lays 7 "row" = true := by decide +kernel
theorem v_lays_8 : okV N_lays sk_lays 8 "column" = true := by decide +kernel
theorem w_lays_2 : okS N_lays sk_lays sk_lays 2 "n" = true := by decide +kernel
theorem w_lays_3 : okS N_lays sk_lays sk_lays 3 "m" = true := by decide +kernel
theorem w_lays_4 : okS N_lays sk_lays sk_lays 4 "first_other" = true := by decide +kernel
theorem w_lays_5 : okS N_lays sk_lays sk_lays 5 "i" = true := by decide +kernel
theorem w_lays_6 : okS N_lays sk_lays sk_lays 6 "j" = true := by decide +kernel
theorem w_lays_7 : okS N_lays sk_lays sk_lays 7 "row" = true := by decide +kernel
theorem w_lays_8 : okS N_lays sk_lays sk_lays 8 "column" = true := by decide +kernel
theorem g_lays_OffSheet : okG sk_lays "OffSheet" = true := by decide +kernel
theorem g_lays_grid_reached : okG sk_lays "grid_reached" = true := by decide +kernel
theorem g_lays_len : okG sk_lays "len" = true := by decide +kernel
theorem g_lays_range : okG sk_lays "range" = true := by decide +kernel
set_option maxHeartbeats 4000000 in
theorem j_lays {X : Cx} {W : WX} (C : CtxOk X W) (V : Nm X N_lays sk_lays sk_lays) (Y : Df X) (c_grid_reached : Cal X "grid_reached" 5 F_grid_reached) (z_len : X.mg "len" = none) (z_range : X.mg "range" = none) {C_OffSheet : Addr} (x_OffSheet : ExcR X.K X.mg "OffSheet" C_OffSheet) : JSs X W (defBody s_lays) b_lays :=
  (jss_cons (js_if (jt_ne C (je_len V g_lays_len z_len (ja_cons (je_ixN V v_lays_1 je_int) ja_nil)) je_int) (jss_one (js_raise C V g_lays_OffSheet x_OffSheet)) jss_nil)
    (jss_cons (js_asg V w_lays_2 (je_lenN V v_lays_0 g_lays_len z_len))
    (jss_cons (js_asg V w_lays_3 (je_len V g_lays_len z_len (ja_cons (je_ixN V v_lays_0 je_int) ja_nil)))
    (jss_cons (js_asg V w_lays_4 je_non)
    (jss_cons (js_for C (ji_range1 V g_lays_range z_range (ja_cons (je_var V v_lays_2) ja_nil)) (jg_name V w_lays_5) (jss_one (js_for C (ji_range1 V g_lays_range z_range (ja_cons (je_var V v_lays_3) ja_nil)) (jg_name V w_lays_6) (jss_cons (js_asgT (je_call C V g_lays_grid_reached c_grid_reached (ja_cons (je_var V v_lays_1) (ja_cons (je_var V v_lays_5) (ja_cons (je_var V v_lays_6) (ja_cons (je_var V v_lays_2) (ja_cons (je_var V v_lays_3) ja_nil))))) (alen_cons (alen_cons (alen_cons (alen_cons (alen_cons alen_nil)))))) (jg_tup (n := 2) C (jgs_cons (jg_name V w_lays_7) (jgs_cons (jg_name V w_lays_8) jgs_nil))))
    (jss_one (js_if (JW.jt (jw_and (jt_isN (je_var V v_lays_4)) (jw_and1 (jt_ne C (je_ix (je_ixN V v_lays_0 (je_var V v_lays_7)) (je_var V v_lays_8)) (je_ix (je_ixN V v_lays_0 (je_var V v_lays_5)) (je_var V v_lays_6)))))) (jss_one (js_asg V w_lays_4 (je_tup (ja_cons (je_var V v_lays_5) (ja_cons (je_var V v_lays_6) ja_nil))))) jss_nil))))))
    (jss_one (js_ret (je_var V v_lays_4))))))))
theorem ok_lays {P : Program} {w : World} {K : PySem.W.Frag} {mg : MG} {base : Heap} {f : Addr} {fd : FuncData} (F : Fun K "lays" "lays" s_lays f fd) (gm : mg "lays" = some (.ref f)) (c_grid_reached : Callee P w K mg base "grid_reached" 4 5 F_grid_reached) (z_len : mg "len" = none) (z_range : mg "range" = none) {C_OffSheet : Addr} (x_OffSheet : ExcR K mg "OffSheet" C_OffSheet) :
    FnOk P w K mg base (L2N.CX P w) 5 f fd ["drawing", "one"] (spP K mg 2 F_lays) ∧ Callee P w K mg base "lays" 5 2 F_lays := by
  have G : FnOk P w K mg base (L2N.CX P w) 5 f fd ["drawing", "one"] (spP K mg 2 F_lays) := by
    have G0 := fn_ok (P := P) (w := w) (K := K) (mg := mg) (base := base) (N := N_lays) (ps := ["drawing", "one"]) (k := 4) (g := b_lays) F sc_lays (fun X W hP hw hK hmg hb hr C V Y => by subst hP hw hK hmg hb; exact j_lays C V Y (c_grid_reached.cal hr) z_len z_range x_OffSheet)
    exact G0
  exact ⟨G, callee_of G gm F.kp (F.binds (ps := ["drawing", "one"]) fun _ _ _ _ _ _ us hl => match us, hl with | [_, _], _ => rfl)⟩

abbrev s_law_cell_at : Stmt := topS 29
theorem sc_law_cell_at : FnScope ["_law_script", "_law_k"] ["_law_script", "_law_k"] (defScope s_law_cell_at) := ⟨rfl, rfl, rfl, by decide +kernel, rfl, by decide +kernel, by decide +kernel⟩
noncomputable def b_law_cell_at : M Fl :=
  (sq (mIf (bnd (m2 (mVar 1) (has 0 (onSl 0 fun d => cLen [d])) (g2i (iCmp fun i j => decide (i < j)))) mB) (mRet (mIxN 0 (mVar 1))) nx)
  (mRet (ret (.int 0))))
noncomputable def F_law_cell_at : List D → Rs := runF 2 b_law_cell_at
abbrev N_law_cell_at : List Str := ["_law_script", "_law_k"]
abbrev sk_law_cell_at : Scope := defScope s_law_cell_at
theorem v_law_cell_at_0 : okV N_law_cell_at sk_law_cell_at 0 "_law_script" = true := by decide +kernel
theorem v_law_cell_at_1 : okV N_law_cell_at sk_law_cell_at 1 "_law_k" = true := by decide +kernel
theorem g_law_cell_at_len : okG sk_law_cell_at "len" = true := by decide +kernel
set_option maxHeartbeats 4000000 in
theorem j_law_cell_at {X : Cx} {W : WX} (C : CtxOk X W) (V : Nm X N_law_cell_at sk_law_cell_at sk_law_cell_at) (Y : Df X) (z_len : X.mg "len" = none) : JSs X W (defBody s_law_cell_at) b_law_cell_at :=
  (jss_cons (js_if (jt_lt (je_var V v_law_cell_at_1) (je_lenN V v_law_cell_at_0 g_law_cell_at_len z_len)) (jss_one (js_ret (je_ixN V v_law_cell_at_0 (je_var V v_law_cell_at_1)))) jss_nil)
    (jss_one (js_ret je_int)))
theorem ok_law_cell_at {P : Program} {w : World} {K : PySem.W.Frag} {mg : MG} {base : Heap} {f : Addr} {fd : FuncData} (F : Fun K "_law_cell_at" "_law_cell_at" s_law_cell_at f fd) (gm : mg "_law_cell_at" = some (.ref f)) (z_len : mg "len" = none) :
    FnOk P w K mg base (L2N.CX P w) 1 f fd ["_law_script", "_law_k"] (spP K mg 2 F_law_cell_at) ∧ Callee P w K mg base "_law_cell_at" 1 2 F_law_cell_at := by
  have G : FnOk P w K mg base (L2N.CX P w) 1 f fd ["_law_script", "_law_k"] (spP K mg 2 F_law_cell_at) := by
    have G0 := fn_ok (P := P) (w := w) (K := K) (mg := mg) (base := base) (N := N_law_cell_at) (ps := ["_law_script", "_law_k"]) (k := 0) (g := b_law_cell_at) F sc_law_cell_at (fun X W hP hw hK hmg hb hr C V Y => by subst hP hw hK hmg hb; exact j_law_cell_at C V Y z_len)
    exact G0
  exact ⟨G, callee_of G gm F.kp (F.binds (ps := ["_law_script", "_law_k"]) fun _ _ _ _ _ _ us hl => match us, hl with | [_, _], _ => rfl)⟩

abbrev s_law_whole : Stmt := topS 30
theorem sc_law_whole : FnScope ["_law_found"] ["_law_found"] (defScope s_law_whole) := ⟨rfl, rfl, rfl, by decide +kernel, rfl, by decide +kernel, by decide +kernel⟩
noncomputable def b_law_whole : M Fl :=
  (mRet (vAnd (bnd (mVar 0) fun d => cIsi "int" [d]) (vNot (bnd (mVar 0) fun d => cIsi "bool" [d]))))
noncomputable def F_law_whole : List D → Rs := runF 1 b_law_whole
abbrev N_law_whole : List Str := ["_law_found"]
abbrev sk_law_whole : Scope := defScope s_law_whole
theorem v_law_whole_0 : okV N_law_whole sk_law_whole 0 "_law_found" = true := by decide +kernel
theorem g_law_whole_bool : okG sk_law_whole "bool" = true := by decide +kernel
theorem g_law_whole_int : okG sk_law_whole "int" = true := by decide +kernel
theorem g_law_whole_isinstance : okG sk_law_whole "isinstance" = true := by decide +kernel
set_option maxHeartbeats 4000000 in
theorem j_law_whole {X : Cx} {W : WX} (C : CtxOk X W) (V : Nm X N_law_whole sk_law_whole sk_law_whole) (Y : Df X) (z_bool : X.mg "bool" = none) (z_int : X.mg "int" = none) (z_isinstance : X.mg "isinstance" = none) : JSs X W (defBody s_law_whole) b_law_whole :=
  (jss_one (js_ret (je_and (je_isi (T := "int") V g_law_whole_isinstance g_law_whole_int z_isinstance z_int (by decide +kernel) (je_var V v_law_whole_0)) (je_one (je_not (je_isi (T := "bool") V g_law_whole_isinstance g_law_whole_bool z_isinstance z_bool (by decide +kernel) (je_var V v_law_whole_0)))))))
theorem ok_law_whole {P : Program} {w : World} {K : PySem.W.Frag} {mg : MG} {base : Heap} {f : Addr} {fd : FuncData} (F : Fun K "_law_whole" "_law_whole" s_law_whole f fd) (gm : mg "_law_whole" = some (.ref f)) (z_bool : mg "bool" = none) (z_int : mg "int" = none) (z_isinstance : mg "isinstance" = none) :
    FnOk P w K mg base (L2N.CX P w) 1 f fd ["_law_found"] (spP K mg 1 F_law_whole) ∧ Callee P w K mg base "_law_whole" 1 1 F_law_whole := by
  have G : FnOk P w K mg base (L2N.CX P w) 1 f fd ["_law_found"] (spP K mg 1 F_law_whole) := by
    have G0 := fn_ok (P := P) (w := w) (K := K) (mg := mg) (base := base) (N := N_law_whole) (ps := ["_law_found"]) (k := 0) (g := b_law_whole) F sc_law_whole (fun X W hP hw hK hmg hb hr C V Y => by subst hP hw hK hmg hb; exact j_law_whole C V Y z_bool z_int z_isinstance)
    exact G0
  exact ⟨G, callee_of G gm F.kp (F.binds (ps := ["_law_found"]) fun _ _ _ _ _ _ us hl => match us, hl with | [_], _ => rfl)⟩

abbrev s_law_common : Stmt := topS 31
theorem sc_law_common : FnScope ["_law_one", "_law_other"] ["_law_one", "_law_other"] (defScope s_law_common) := ⟨rfl, rfl, rfl, by decide +kernel, rfl, by decide +kernel, by decide +kernel⟩
noncomputable def b_law_common : M Fl :=
  (sq (mAsg 0 (bnd (aCons (mVar 0) aNil) (c1i fun i => ret (.int (iAbs i)))))
  (sq (mAsg 1 (bnd (aCons (mVar 1) aNil) (c1i fun i => ret (.int (iAbs i)))))
  (sq (mWh (bnd (m2 (mVar 1) (ret (.int 0)) (g2i (iCmp fun i j => decide (j < i)))) mB) (mPar 0 1 (aCons (mVar 1) (aCons (m2 (mVar 0) (mVar 1) (g2i iMod)) aNil))))
  (mRet (mVar 0)))))
noncomputable def F_law_common : List D → Rs := runF 2 b_law_common
abbrev N_law_common : List Str := ["_law_one", "_law_other"]
abbrev sk_law_common : Scope := defScope s_law_common
theorem v_law_common_0 : okV N_law_common sk_law_common 0 "_law_one" = true := by decide +kernel
theorem v_law_common_1 : okV N_law_common sk_law_common 1 "_law_other" = true := by decide +kernel
theorem w_law_common_0 : okS N_law_common sk_law_common sk_law_common 0 "_law_one" = true := by decide +kernel
theorem w_law_common_1 : okS N_law_common sk_law_common sk_law_common 1 "_law_other" = true := by decide +kernel
theorem g_law_common_abs : okG sk_law_common "abs" = true := by decide +kernel
set_option maxHeartbeats 4000000 in
theorem j_law_common {X : Cx} {W : WX} (C : CtxOk X W) (V : Nm X N_law_common sk_law_common sk_law_common) (Y : Df X) (z_abs : X.mg "abs" = none) : JSs X W (defBody s_law_common) b_law_common :=
  (jss_cons (js_asg V w_law_common_0 (je_abs V g_law_common_abs z_abs (ja_cons (je_var V v_law_common_0) ja_nil)))
    (jss_cons (js_asg V w_law_common_1 (je_abs V g_law_common_abs z_abs (ja_cons (je_var V v_law_common_1) ja_nil)))
    (jss_cons (js_while C (jt_gt (je_var V v_law_common_1) je_int) (jss_one (js_par C V w_law_common_0 w_law_common_1 (by decide +kernel) (ja_cons (je_var V v_law_common_1) (ja_cons (je_mod (je_var V v_law_common_0) (je_var V v_law_common_1)) ja_nil)))))
    (jss_one (js_ret (je_var V v_law_common_0))))))
theorem ok_law_common {P : Program} {w : World} {K : PySem.W.Frag} {mg : MG} {base : Heap} {f : Addr} {fd : FuncData} (F : Fun K "_law_common" "_law_common" s_law_common f fd) (gm : mg "_law_common" = some (.ref f)) (z_abs : mg "abs" = none) :
    FnOk P w K mg base (L2N.CX P w) 1 f fd ["_law_one", "_law_other"] (spP K mg 2 F_law_common) ∧ Callee P w K mg base "_law_common" 1 2 F_law_common := by
  have G : FnOk P w K mg base (L2N.CX P w) 1 f fd ["_law_one", "_law_other"] (spP K mg 2 F_law_common) := by
    have G0 := fn_ok (P := P) (w := w) (K := K) (mg := mg) (base := base) (N := N_law_common) (ps := ["_law_one", "_law_other"]) (k := 0) (g := b_law_common) F sc_law_common (fun X W hP hw hK hmg hb hr C V Y => by subst hP hw hK hmg hb; exact j_law_common C V Y z_abs)
    exact G0
  exact ⟨G, callee_of G gm F.kp (F.binds (ps := ["_law_one", "_law_other"]) fun _ _ _ _ _ _ us hl => match us, hl with | [_, _], _ => rfl)⟩

abbrev s_law_drawing : Stmt := topS 32
theorem sc_law_drawing : FnScope ["_law_cells", "_law_n", "_law_m", "_law_way", "_law_rows_here", "_law_i", "_law_row", "_law_j", "_law_by"] ["_law_cells"] (defScope s_law_drawing) := ⟨rfl, rfl, rfl, by decide +kernel, rfl, by decide +kernel, by decide +kernel⟩
noncomputable def b_law_drawing : M Fl :=
  (sq (mAsg 1 (m2 (ret (.int 1)) (m2 (mIxN 0 (ret (.int 0))) (ret (.int 6)) (g2i iMod)) mAdd))
  (sq (mAsg 2 (m2 (ret (.int 1)) (m2 (m2 (mIxN 0 (ret (.int 0))) (ret (.int 6)) (g2i iDiv)) (ret (.int 6)) (g2i iMod)) mAdd))
  (sq (mIf (bnd (m2 (m2 (m2 (mIxN 0 (ret (.int 0))) (ret (.int 36)) (g2i iDiv)) (ret (.int 2)) (g2i iMod)) (ret (.int 1)) mEq) mB) (mAsg 2 (mVar 1)) nx)
  (sq (mAsg 3 (m2 (m2 (mIxN 0 (ret (.int 0))) (ret (.int 72)) (g2i iDiv)) (ret (.int 5)) (g2i iMod)))
  (sq (mOwn 4 (mFl aNil))
  (sq (bnd (mRng1 (aCons (mVar 1) aNil)) (forL (gN 5) (sq (mAsg 6 (ret (.str "")))
  (sq (bnd (mRng1 (aCons (mVar 2) aNil)) (forL (gN 7) (sq (mAsg 8 (m2 (mLst (aCons (ret (.int 0)) (aCons (mVar 5) (aCons (mVar 7) (aCons (m2 (mVar 5) (mVar 7) mAdd) (aCons (m2 (m2 (mIxN 0 (ret (.int 2))) (m2 (m2 (ret (.int 1)) (mVar 5) mAdd) (m2 (ret (.int 6)) (mVar 7) (g2i iMul)) mAdd) (g2i iDiv)) (m2 (m2 (mIxN 0 (ret (.int 1))) (mVar 5) (g2i iMul)) (mVar 7) (g2i iMul)) mAdd) aNil)))))) (mVar 3) mIx))
  (mAsg 6 (m2 (mVar 6) (m2 (ret (.str "az.bq")) (m2 (m2 (m2 (mVar 8) (m2 (ret (.int 1)) (m2 (mIxN 0 (ret (.int 1))) (ret (.int 2)) (g2i iMod)) mAdd) (g2i iMul)) (mIxN 0 (ret (.int 1))) mAdd) (m2 (ret (.int 2)) (m2 (mIxN 0 (ret (.int 2))) (ret (.int 4)) (g2i iMod)) mAdd) (g2i iMod)) mIx) mAdd)))))
  (mApp 4 (mVar 6))))))
  (mRet (bnd (aCons (mVar 4) aNil) cTuple))))))))
noncomputable def F_law_drawing : List D → Rs := runF 9 b_law_drawing
abbrev N_law_drawing : List Str := ["_law_cells", "_law_n", "_law_m", "_law_way", "_law_rows_here", "_law_i", "_law_row", "_law_j", "_law_by"]
abbrev sk_law_drawing : Scope := defScope s_law_drawing
theorem v_law_drawing_0 : okV N_law_drawing sk_law_drawing 0 "_law_cells" = true := by decide +kernel
theorem v_law_drawing_1 : okV N_law_drawing sk_law_drawing 1 "_law_n" = true := by decide +kernel
theorem v_law_drawing_2 : okV N_law_drawing sk_law_drawing 2 "_law_m" = true := by decide +kernel
theorem v_law_drawing_3 : okV N_law_drawing sk_law_drawing 3 "_law_way" = true := by decide +kernel
theorem v_law_drawing_4 : okV N_law_drawing sk_law_drawing 4 "_law_rows_here" = true := by decide +kernel
theorem v_law_drawing_5 : okV N_law_drawing sk_law_drawing 5 "_law_i" = true := by decide +kernel
theorem v_law_drawing_6 : okV N_law_drawing sk_law_drawing 6 "_law_row" = true := by decide +kernel
theorem v_law_drawing_7 : okV N_law_drawing sk_law_drawing 7 "_law_j" = true := by decide +kernel
theorem v_law_drawing_8 : okV N_law_drawing sk_law_drawing 8 "_law_by" = true := by decide +kernel
theorem w_law_drawing_1 : okS N_law_drawing sk_law_drawing sk_law_drawing 1 "_law_n" = true := by decide +kernel
theorem w_law_drawing_2 : okS N_law_drawing sk_law_drawing sk_law_drawing 2 "_law_m" = true := by decide +kernel
theorem w_law_drawing_3 : okS N_law_drawing sk_law_drawing sk_law_drawing 3 "_law_way" = true := by decide +kernel
theorem w_law_drawing_4 : okS N_law_drawing sk_law_drawing sk_law_drawing 4 "_law_rows_here" = true := by decide +kernel
theorem w_law_drawing_5 : okS N_law_drawing sk_law_drawing sk_law_drawing 5 "_law_i" = true := by decide +kernel
theorem w_law_drawing_6 : okS N_law_drawing sk_law_drawing sk_law_drawing 6 "_law_row" = true := by decide +kernel
theorem w_law_drawing_7 : okS N_law_drawing sk_law_drawing sk_law_drawing 7 "_law_j" = true := by decide +kernel
theorem w_law_drawing_8 : okS N_law_drawing sk_law_drawing sk_law_drawing 8 "_law_by" = true := by decide +kernel
theorem g_law_drawing_range : okG sk_law_drawing "range" = true := by decide +kernel
theorem g_law_drawing_tuple : okG sk_law_drawing "tuple" = true := by decide +kernel
set_option maxHeartbeats 4000000 in
theorem j_law_drawing {X : Cx} {W : WX} (C : CtxOk X W) (V : Nm X N_law_drawing sk_law_drawing sk_law_drawing) (Y : Df X) (z_range : X.mg "range" = none) (z_tuple : X.mg "tuple" = none) : JSs X W (defBody s_law_drawing) b_law_drawing :=
  (jss_cons (js_asg V w_law_drawing_1 (je_add je_int (je_mod (je_ixN V v_law_drawing_0 je_int) je_int)))
    (jss_cons (js_asg V w_law_drawing_2 (je_add je_int (je_mod (je_fdiv (je_ixN V v_law_drawing_0 je_int) je_int) je_int)))
    (jss_cons (js_if (jt_eq C (je_mod (je_fdiv (je_ixN V v_law_drawing_0 je_int) je_int) je_int) je_int) (jss_one (js_asg V w_law_drawing_2 (je_var V v_law_drawing_1))) jss_nil)
    (jss_cons (js_asg V w_law_drawing_3 (je_mod (je_fdiv (je_ixN V v_law_drawing_0 je_int) je_int) je_int))
    (jss_cons (js_own V w_law_drawing_4 (jf_lst ja_nil))
    (jss_cons (js_for C (ji_range1 V g_law_drawing_range z_range (ja_cons (je_var V v_law_drawing_1) ja_nil)) (jg_name V w_law_drawing_5) (jss_cons (js_asg V w_law_drawing_6 je_str)
    (jss_cons (js_for C (ji_range1 V g_law_drawing_range z_range (ja_cons (je_var V v_law_drawing_2) ja_nil)) (jg_name V w_law_drawing_7) (jss_cons (js_asg V w_law_drawing_8 (je_ix (je_lst (ja_cons je_int (ja_cons (je_var V v_law_drawing_5) (ja_cons (je_var V v_law_drawing_7) (ja_cons (je_add (je_var V v_law_drawing_5) (je_var V v_law_drawing_7)) (ja_cons (je_add (je_fdiv (je_ixN V v_law_drawing_0 je_int) (je_add (je_add je_int (je_var V v_law_drawing_5)) (je_mul je_int (je_var V v_law_drawing_7)))) (je_mul (je_mul (je_ixN V v_law_drawing_0 je_int) (je_var V v_law_drawing_5)) (je_var V v_law_drawing_7))) ja_nil)))))) (je_var V v_law_drawing_3)))
    (jss_one (js_asg V w_law_drawing_6 (je_add (je_var V v_law_drawing_6) (je_ix je_str (je_mod (je_add (je_mul (je_var V v_law_drawing_8) (je_add je_int (je_mod (je_ixN V v_law_drawing_0 je_int) je_int))) (je_ixN V v_law_drawing_0 je_int)) (je_add je_int (je_mod (je_ixN V v_law_drawing_0 je_int) je_int)))))))))
    (jss_one (js_app V v_law_drawing_4 (je_var V v_law_drawing_6))))))
    (jss_one (js_ret (je_tuple V g_law_drawing_tuple z_tuple (ja_cons (je_var V v_law_drawing_4) ja_nil))))))))))
theorem ok_law_drawing {P : Program} {w : World} {K : PySem.W.Frag} {mg : MG} {base : Heap} {f : Addr} {fd : FuncData} (F : Fun K "_law_drawing" "_law_drawing" s_law_drawing f fd) (gm : mg "_law_drawing" = some (.ref f)) (z_range : mg "range" = none) (z_tuple : mg "tuple" = none) :
    FnOk P w K mg base (L2N.CX P w) 1 f fd ["_law_cells"] (spP K mg 1 F_law_drawing) ∧ Callee P w K mg base "_law_drawing" 1 1 F_law_drawing := by
  have G : FnOk P w K mg base (L2N.CX P w) 1 f fd ["_law_cells"] (spP K mg 1 F_law_drawing) := by
    have G0 := fn_ok (P := P) (w := w) (K := K) (mg := mg) (base := base) (N := N_law_drawing) (ps := ["_law_cells"]) (k := 0) (g := b_law_drawing) F sc_law_drawing (fun X W hP hw hK hmg hb hr C V Y => by subst hP hw hK hmg hb; exact j_law_drawing C V Y z_range z_tuple)
    exact G0
  exact ⟨G, callee_of G gm F.kp (F.binds (ps := ["_law_cells"]) fun _ _ _ _ _ _ us hl => match us, hl with | [_], _ => rfl)⟩

abbrev s_law_times : Stmt := topS 33
theorem sc_law_times : FnScope ["_law_one", "_law_other", "_law_d", "_law_found", "_law_i", "_law_j", "_law_k"] ["_law_one", "_law_other"] (defScope s_law_times) := ⟨rfl, rfl, rfl, by decide +kernel, rfl, by decide +kernel, by decide +kernel⟩
noncomputable def b_law_times : M Fl :=
  (sq (mAsg 2 (has 0 (onSl 0 fun d => cLen [d])))
  (sq (mOwn 3 (mFl aNil))
  (sq (bnd (mRng1 (aCons (mVar 2) aNil)) (forL (gN 4) (mApp 3 (mLc [6] (mRng1 (aCons (mVar 2) aNil)) (gN 6) (ret true) (bnd (aCons (mLc [5] (mRng1 (aCons (mVar 2) aNil)) (gN 5) (ret true) (m2 (m2 (mIxN 0 (mVar 4)) (mVar 5) mIx) (m2 (mIxN 1 (mVar 5)) (mVar 6) mIx) (g2i iMul))) aNil) cSum)))))
  (mRet (mVar 3)))))
noncomputable def F_law_times : List D → Rs := runF 7 b_law_times
abbrev N_law_times : List Str := ["_law_one", "_law_other", "_law_d", "_law_found", "_law_i", "_law_j", "_law_k"]
abbrev sk_law_times : Scope := defScope s_law_times
theorem v_law_times_0 : okV N_law_times sk_law_times 0 "_law_one" = true := by decide +kernel
theorem v_law_times_2 : okV N_law_times sk_law_times 2 "_law_d" = true := by decide +kernel
theorem v_law_times_3 : okV N_law_times sk_law_times 3 "_law_found" = true := by decide +kernel
theorem w_law_times_2 : okS N_law_times sk_law_times sk_law_times 2 "_law_d" = true := by decide +kernel
theorem w_law_times_3 : okS N_law_times sk_law_times sk_law_times 3 "_law_found" = true := by decide +kernel
theorem w_law_times_4 : okS N_law_times sk_law_times sk_law_times 4 "_law_i" = true := by decide +kernel
theorem g_law_times_len : okG sk_law_times "len" = true := by decide +kernel
theorem g_law_times_range : okG sk_law_times "range" = true := by decide +kernel
set_option maxHeartbeats 4000000 in
theorem j_law_times {X : Cx} {W : WX} (C : CtxOk X W) (V : Nm X N_law_times sk_law_times sk_law_times) (Y : Df X) (z_len : X.mg "len" = none) (z_range : X.mg "range" = none) (z_sum : X.mg "sum" = none) : JSs X W (defBody s_law_times) b_law_times :=
  (jss_cons (js_asg V w_law_times_2 (je_lenN V v_law_times_0 g_law_times_len z_len))
    (jss_cons (js_own V w_law_times_3 (jf_lst ja_nil))
    (jss_cons (js_for C (ji_range1 V g_law_times_range z_range (ja_cons (je_var V v_law_times_2) ja_nil)) (jg_name V w_law_times_4) (jss_one (js_app V v_law_times_3 (je_lc (own := [("_law_k", 6)]) C V (by decide +kernel) rfl (ji_range1 V g_law_times_range z_range (ja_cons (je_var V v_law_times_2) ja_nil)) (fun X1 V1 C1 B1 => (jgv_name V1 (by decide +kernel) (by decide))) (fun X1 V1 C1 B1 => jts_nil) (fun X1 V1 C1 B1 => (je_sum C1 V1 (by decide +kernel) (B1.z z_sum) (ja_cons (je_lc (own := [("_law_j", 5)]) C1 V1 (by decide +kernel) rfl (ji_range1 V1 (by decide +kernel) (B1.z z_range) (ja_cons (je_var V1 (by decide +kernel)) ja_nil)) (fun X2 V2 C2 B2 => (jgv_name V2 (by decide +kernel) (by decide))) (fun X2 V2 C2 B2 => jts_nil) (fun X2 V2 C2 B2 => (je_mul (je_ix (je_ixN V2 (by decide +kernel) (je_var V2 (by decide +kernel))) (je_var V2 (by decide +kernel))) (je_ix (je_ixN V2 (by decide +kernel) (je_var V2 (by decide +kernel))) (je_var V2 (by decide +kernel)))))) ja_nil)))))))
    (jss_one (js_ret (je_var V v_law_times_3))))))
theorem ok_law_times {P : Program} {w : World} {K : PySem.W.Frag} {mg : MG} {base : Heap} {f : Addr} {fd : FuncData} (F : Fun K "_law_times" "_law_times" s_law_times f fd) (gm : mg "_law_times" = some (.ref f)) (z_len : mg "len" = none) (z_range : mg "range" = none) (z_sum : mg "sum" = none) :
    FnOk P w K mg base (L2N.CX P w) 1 f fd ["_law_one", "_law_other"] (spP K mg 2 F_law_times) ∧ Callee P w K mg base "_law_times" 1 2 F_law_times := by
  have G : FnOk P w K mg base (L2N.CX P w) 1 f fd ["_law_one", "_law_other"] (spP K mg 2 F_law_times) := by
    have G0 := fn_ok (P := P) (w := w) (K := K) (mg := mg) (base := base) (N := N_law_times) (ps := ["_law_one", "_law_other"]) (k := 0) (g := b_law_times) F sc_law_times (fun X W hP hw hK hmg hb hr C V Y => by subst hP hw hK hmg hb; exact j_law_times C V Y z_len z_range z_sum)
    exact G0
  exact ⟨G, callee_of G gm F.kp (F.binds (ps := ["_law_one", "_law_other"]) fun _ _ _ _ _ _ us hl => match us, hl with | [_, _], _ => rfl)⟩

abbrev s_law_rows : Stmt := topS 34
theorem sc_law_rows : FnScope ["_law_cell", "_law_sort", "_law_rows_here", "_law_k", "_law_by"] ["_law_cell"] (defScope s_law_rows) := ⟨rfl, rfl, rfl, by decide +kernel, rfl, by decide +kernel, by decide +kernel⟩
noncomputable def b_law_rows : M Fl :=
  (sq (mAsg 1 (m2 (mVar 0) (ret (.int 4)) (g2i iMod)))
  (sq (mAsg 0 (m2 (mVar 0) (ret (.int 4)) (g2i iDiv)))
  (sq (mAsg 2 (mLst (aCons (mLst (aCons (ret (.int 1)) (aCons (ret (.int 0)) aNil))) (aCons (mLst (aCons (ret (.int 0)) (aCons (ret (.int 1)) aNil))) aNil))))
  (sq (mIf (bnd (m2 (mVar 1) (ret (.int 0)) mEq) mB) (sq (mAsg 2 (mLst (aCons (mLst (aCons (m2 (ret (.int 1)) (m2 (ret (.int 2)) (m2 (mVar 0) (ret (.int 2)) (g2i iMod)) (g2i iMul)) (g2i iSub)) (aCons (ret (.int 0)) aNil))) (aCons (mLst (aCons (ret (.int 0)) (aCons (m2 (ret (.int 1)) (m2 (ret (.int 2)) (m2 (m2 (mVar 0) (ret (.int 2)) (g2i iDiv)) (ret (.int 2)) (g2i iMod)) (g2i iMul)) (g2i iSub)) aNil))) aNil))))
  (mIf (bnd (m2 (m2 (m2 (mVar 0) (ret (.int 4)) (g2i iDiv)) (ret (.int 2)) (g2i iMod)) (ret (.int 1)) mEq) mB) (mAsg 2 (mLst (aCons (mIxN 2 (ret (.int 1))) (aCons (mIxN 2 (ret (.int 0))) aNil)))) nx)) nx)
  (sq (mIf (bnd (m2 (mVar 1) (ret (.int 1)) mEq) mB) (sq (bnd (mRng1 (aCons (m2 (mVar 0) (ret (.int 6)) (g2i iMod)) aNil)) (forL (gN 3) (mAsg 2 (mCall (aCons (mLst (aCons (mLst (aCons (ret (.int 1)) (aCons (bnd (ret (.int 1)) (u1i fun i => ret (.int (-i)))) aNil))) (aCons (mLst (aCons (ret (.int 1)) (aCons (ret (.int 0)) aNil))) aNil))) (aCons (mVar 2) aNil)) F_law_times))))
  (mIf (bnd (m2 (m2 (m2 (mVar 0) (ret (.int 6)) (g2i iDiv)) (ret (.int 2)) (g2i iMod)) (ret (.int 1)) mEq) mB) (mAsg 2 (mLst (aCons (mIxN 2 (ret (.int 1))) (aCons (mIxN 2 (ret (.int 0))) aNil)))) nx)) nx)
  (sq (mIf (bnd (m2 (mVar 1) (ret (.int 2)) mEq) mB) (bnd (mRng1 (aCons (ret (.int 3)) aNil)) (forL (gN 3) (sq (mAsg 4 (m2 (m2 (m2 (m2 (mVar 0) (ret (.int 3)) (g2i iDiv)) (ret (.int 2)) mAdd) (ret (.int 5)) (g2i iMod)) (ret (.int 2)) (g2i iSub)))
  (sq (mIf (bnd (m2 (m2 (mVar 0) (ret (.int 3)) (g2i iMod)) (ret (.int 2)) mEq) mB) (mAsg 4 (m2 (m2 (m2 (mVar 0) (ret (.int 3)) (g2i iDiv)) (m2 (m2 (ret (.int 2)) (m2 (ret (.int 10)) (ret (.int 12)) (g2i iPow)) (g2i iMul)) (ret (.int 1)) mAdd) (g2i iMod)) (m2 (ret (.int 10)) (ret (.int 12)) (g2i iPow)) (g2i iSub))) nx)
  (sq (mAsg 2 (mCall (aCons (m2 (mLst (aCons (mLst (aCons (mLst (aCons (ret (.int 1)) (aCons (mVar 4) aNil))) (aCons (mLst (aCons (ret (.int 0)) (aCons (ret (.int 1)) aNil))) aNil))) (aCons (mLst (aCons (mLst (aCons (ret (.int 1)) (aCons (ret (.int 0)) aNil))) (aCons (mLst (aCons (mVar 4) (aCons (ret (.int 1)) aNil))) aNil))) aNil))) (m2 (mVar 3) (ret (.int 2)) (g2i iMod)) mIx) (aCons (mVar 2) aNil)) F_law_times))
  (mAsg 0 (m2 (mVar 0) (ret (.int 16)) (g2i iDiv)))))))) nx)
  (sq (mIf (bAnd (bnd (m2 (mVar 1) (ret (.int 3)) mEq) mB) (bnd (m2 (m2 (mVar 0) (ret (.int 3)) (g2i iMod)) (ret (.int 0)) mEq) mB)) (mRet (mLst (aCons (mLst (aCons (ret (.int 0)) (aCons (ret (.int 1)) (aCons (ret (.int 0)) aNil)))) (aCons (mLst (aCons (ret (.int 1)) (aCons (ret (.int 0)) (aCons (ret (.int 0)) aNil)))) (aCons (mLst (aCons (ret (.int 0)) (aCons (ret (.int 0)) (aCons (m2 (ret (.int 1)) (m2 (ret (.int 2)) (m2 (m2 (mVar 0) (ret (.int 3)) (g2i iDiv)) (ret (.int 2)) (g2i iMod)) (g2i iMul)) (g2i iSub)) aNil)))) aNil))))) nx)
  (mRet (mVar 2)))))))))
noncomputable def F_law_rows : List D → Rs := runF 5 b_law_rows
abbrev N_law_rows : List Str := ["_law_cell", "_law_sort", "_law_rows_here", "_law_k", "_law_by"]
abbrev sk_law_rows : Scope := defScope s_law_rows
theorem v_law_rows_0 : okV N_law_rows sk_law_rows 0 "_law_cell" = true := by decide +kernel
theorem v_law_rows_1 : okV N_law_rows sk_law_rows 1 "_law_sort" = true := by decide +kernel
theorem v_law_rows_2 : okV N_law_rows sk_law_rows 2 "_law_rows_here" = true := by decide +kernel
theorem v_law_rows_3 : okV N_law_rows sk_law_rows 3 "_law_k" = true := by decide +kernel
theorem v_law_rows_4 : okV N_law_rows sk_law_rows 4 "_law_by" = true := by decide +kernel
theorem w_law_rows_0 : okS N_law_rows sk_law_rows sk_law_rows 0 "_law_cell" = true := by decide +kernel
theorem w_law_rows_1 : okS N_law_rows sk_law_rows sk_law_rows 1 "_law_sort" = true := by decide +kernel
theorem w_law_rows_2 : okS N_law_rows sk_law_rows sk_law_rows 2 "_law_rows_here" = true := by decide +kernel
theorem w_law_rows_3 : okS N_law_rows sk_law_rows sk_law_rows 3 "_law_k" = true := by decide +kernel
theorem w_law_rows_4 : okS N_law_rows sk_law_rows sk_law_rows 4 "_law_by" = true := by decide +kernel
theorem g_law_rows_law_times : okG sk_law_rows "_law_times" = true := by decide +kernel
theorem g_law_rows_range : okG sk_law_rows "range" = true := by decide +kernel
set_option maxHeartbeats 4000000 in
theorem j_law_rows {X : Cx} {W : WX} (C : CtxOk X W) (V : Nm X N_law_rows sk_law_rows sk_law_rows) (Y : Df X) (c_law_times : Cal X "_law_times" 2 F_law_times) (z_range : X.mg "range" = none) : JSs X W (defBody s_law_rows) b_law_rows :=
  (jss_cons (js_asg V w_law_rows_1 (je_mod (je_var V v_law_rows_0) je_int))
    (jss_cons (js_asg V w_law_rows_0 (je_fdiv (je_var V v_law_rows_0) je_int))
    (jss_cons (js_asg V w_law_rows_2 (je_lst (ja_cons (je_lst (ja_cons je_int (ja_cons je_int ja_nil))) (ja_cons (je_lst (ja_cons je_int (ja_cons je_int ja_nil))) ja_nil))))
    (jss_cons (js_if (jt_eq C (je_var V v_law_rows_1) je_int) (jss_cons (js_asg V w_law_rows_2 (je_lst (ja_cons (je_lst (ja_cons (je_sub je_int (je_mul je_int (je_mod (je_var V v_law_rows_0) je_int))) (ja_cons je_int ja_nil))) (ja_cons (je_lst (ja_cons je_int (ja_cons (je_sub je_int (je_mul je_int (je_mod (je_fdiv (je_var V v_law_rows_0) je_int) je_int))) ja_nil))) ja_nil))))
    (jss_one (js_if (jt_eq C (je_mod (je_fdiv (je_var V v_law_rows_0) je_int) je_int) je_int) (jss_one (js_asg V w_law_rows_2 (je_lst (ja_cons (je_ixN V v_law_rows_2 je_int) (ja_cons (je_ixN V v_law_rows_2 je_int) ja_nil))))) jss_nil))) jss_nil)
    (jss_cons (js_if (jt_eq C (je_var V v_law_rows_1) je_int) (jss_cons (js_for C (ji_range1 V g_law_rows_range z_range (ja_cons (je_mod (je_var V v_law_rows_0) je_int) ja_nil)) (jg_name V w_law_rows_3) (jss_one (js_asg V w_law_rows_2 (je_call C V g_law_rows_law_times c_law_times (ja_cons (je_lst (ja_cons (je_lst (ja_cons je_int (ja_cons (je_neg je_int) ja_nil))) (ja_cons (je_lst (ja_cons je_int (ja_cons je_int ja_nil))) ja_nil))) (ja_cons (je_var V v_law_rows_2) ja_nil)) (alen_cons (alen_cons alen_nil))))))
    (jss_one (js_if (jt_eq C (je_mod (je_fdiv (je_var V v_law_rows_0) je_int) je_int) je_int) (jss_one (js_asg V w_law_rows_2 (je_lst (ja_cons (je_ixN V v_law_rows_2 je_int) (ja_cons (je_ixN V v_law_rows_2 je_int) ja_nil))))) jss_nil))) jss_nil)
    (jss_cons (js_if (jt_eq C (je_var V v_law_rows_1) je_int) (jss_one (js_for C (ji_range1 V g_law_rows_range z_range (ja_cons je_int ja_nil)) (jg_name V w_law_rows_3) (jss_cons (js_asg V w_law_rows_4 (je_sub (je_mod (je_add (je_fdiv (je_var V v_law_rows_0) je_int) je_int) je_int) je_int))
    (jss_cons (js_if (jt_eq C (je_mod (je_var V v_law_rows_0) je_int) je_int) (jss_one (js_asg V w_law_rows_4 (je_sub (je_mod (je_fdiv (je_var V v_law_rows_0) je_int) (je_add (je_mul je_int (je_pow je_int je_int)) je_int)) (je_pow je_int je_int)))) jss_nil)
    (jss_cons (js_asg V w_law_rows_2 (je_call C V g_law_rows_law_times c_law_times (ja_cons (je_ix (je_lst (ja_cons (je_lst (ja_cons (je_lst (ja_cons je_int (ja_cons (je_var V v_law_rows_4) ja_nil))) (ja_cons (je_lst (ja_cons je_int (ja_cons je_int ja_nil))) ja_nil))) (ja_cons (je_lst (ja_cons (je_lst (ja_cons je_int (ja_cons je_int ja_nil))) (ja_cons (je_lst (ja_cons (je_var V v_law_rows_4) (ja_cons je_int ja_nil))) ja_nil))) ja_nil))) (je_mod (je_var V v_law_rows_3) je_int)) (ja_cons (je_var V v_law_rows_2) ja_nil)) (alen_cons (alen_cons alen_nil))))
    (jss_one (js_asg V w_law_rows_0 (je_fdiv (je_var V v_law_rows_0) je_int)))))))) jss_nil)
    (jss_cons (js_if (JW.jt (jw_and (jt_eq C (je_var V v_law_rows_1) je_int) (jw_and1 (jt_eq C (je_mod (je_var V v_law_rows_0) je_int) je_int)))) (jss_one (js_ret (je_lst (ja_cons (je_lst (ja_cons je_int (ja_cons je_int (ja_cons je_int ja_nil)))) (ja_cons (je_lst (ja_cons je_int (ja_cons je_int (ja_cons je_int ja_nil)))) (ja_cons (je_lst (ja_cons je_int (ja_cons je_int (ja_cons (je_sub je_int (je_mul je_int (je_mod (je_fdiv (je_var V v_law_rows_0) je_int) je_int))) ja_nil)))) ja_nil)))))) jss_nil)
    (jss_one (js_ret (je_var V v_law_rows_2))))))))))
theorem ok_law_rows {P : Program} {w : World} {K : PySem.W.Frag} {mg : MG} {base : Heap} {f : Addr} {fd : FuncData} (F : Fun K "_law_rows" "_law_rows" s_law_rows f fd) (gm : mg "_law_rows" = some (.ref f)) (c_law_times : Callee P w K mg base "_law_times" 1 2 F_law_times) (z_range : mg "range" = none) :
    FnOk P w K mg base (L2N.CX P w) 2 f fd ["_law_cell"] (spP K mg 1 F_law_rows) ∧ Callee P w K mg base "_law_rows" 2 1 F_law_rows := by
  have G : FnOk P w K mg base (L2N.CX P w) 2 f fd ["_law_cell"] (spP K mg 1 F_law_rows) := by
    have G0 := fn_ok (P := P) (w := w) (K := K) (mg := mg) (base := base) (N := N_law_rows) (ps := ["_law_cell"]) (k := 1) (g := b_law_rows) F sc_law_rows (fun X W hP hw hK hmg hb hr C V Y => by subst hP hw hK hmg hb; exact j_law_rows C V Y (c_law_times.cal hr) z_range)
    exact G0
  exact ⟨G, callee_of G gm F.kp (F.binds (ps := ["_law_cell"]) fun _ _ _ _ _ _ us hl => match us, hl with | [_], _ => rfl)⟩

abbrev s_law_deed : Stmt := topS 35
theorem sc_law_deed : FnScope ["_law_cells", "_law_n", "_law_m", "_law_rows_here", "_law_tops", "_law_under", "_law_by", "_law_top", "_law_row"] ["_law_cells", "_law_n", "_law_m"] (defScope s_law_deed) := ⟨rfl, rfl, rfl, by decide +kernel, rfl, by decide +kernel, by decide +kernel⟩
noncomputable def b_law_deed : M Fl :=
  (sq (mAsg 3 (mCall (aCons (mIxN 0 (ret (.int 3))) aNil) F_law_rows))
  (sq (mOwn 4 (mFl (aCons (m2 (m2 (mIxN 0 (ret (.int 4))) (ret (.int 19)) (g2i iMod)) (mVar 2) (g2i iMul)) (aCons (m2 (m2 (m2 (mIxN 0 (ret (.int 4))) (ret (.int 19)) (g2i iDiv)) (ret (.int 19)) (g2i iMod)) (mVar 1) (g2i iMul)) aNil))))
  (sq (mAsg 5 (m2 (mVar 1) (mVar 2) (g2i iMul)))
  (sq (mIf (bnd (m2 (m2 (mIxN 0 (ret (.int 5))) (ret (.int 4)) (g2i iMod)) (ret (.int 1)) mEq) mB) (mOwn 4 (mFl (aCons (m2 (mIxN 4 (ret (.int 0))) (m2 (mVar 5) (m2 (mIxN 0 (ret (.int 6))) (m2 (ret (.int 10)) (ret (.int 20)) (g2i iPow)) (g2i iMod)) (g2i iMul)) mAdd) (aCons (m2 (mIxN 4 (ret (.int 1))) (m2 (mVar 5) (m2 (m2 (mIxN 0 (ret (.int 6))) (ret (.int 7)) (g2i iDiv)) (m2 (ret (.int 10)) (ret (.int 20)) (g2i iPow)) (g2i iMod)) (g2i iMul)) (g2i iSub)) aNil)))) nx)
  (sq (mIf (bnd (m2 (m2 (mIxN 0 (ret (.int 5))) (ret (.int 4)) (g2i iMod)) (ret (.int 3)) mEq) mB) (mAsg 5 (m2 (mVar 5) (m2 (ret (.int 1)) (m2 (mIxN 0 (ret (.int 6))) (ret (.int 12)) (g2i iMod)) mAdd) (g2i iMul))) nx)
  (sq (mAsg 6 (mCall (aCons (mCall (aCons (mIxN 4 (ret (.int 0))) (aCons (mIxN 4 (ret (.int 1))) aNil)) F_law_common) (aCons (mVar 5) aNil)) F_law_common))
  (sq (mOwn 4 (unL (mLc [7] (mSeq (mVar 4)) (gN 7) (ret true) (m2 (mVar 7) (mVar 6) (g2i iDiv)))))
  (sq (mIf (bnd (m2 (has 3 (onSl 3 fun d => cLen [d])) (ret (.int 3)) mEq) mB) (mApp 4 (ret (.int 0))) nx)
  (mRet (mTup (aCons (bnd (aCons (mLc [8] (mSeq (mVar 3)) (gN 8) (ret true) (bnd (aCons (mVar 8) aNil) cTuple)) aNil) cTuple) (aCons (bnd (aCons (mVar 4) aNil) cTuple) (aCons (m2 (mVar 5) (mVar 6) (g2i iDiv)) aNil)))))))))))))
noncomputable def F_law_deed : List D → Rs := runF 9 b_law_deed
abbrev N_law_deed : List Str := ["_law_cells", "_law_n", "_law_m", "_law_rows_here", "_law_tops", "_law_under", "_law_by", "_law_top", "_law_row"]
abbrev sk_law_deed : Scope := defScope s_law_deed
theorem v_law_deed_0 : okV N_law_deed sk_law_deed 0 "_law_cells" = true := by decide +kernel
theorem v_law_deed_1 : okV N_law_deed sk_law_deed 1 "_law_n" = true := by decide +kernel
theorem v_law_deed_2 : okV N_law_deed sk_law_deed 2 "_law_m" = true := by decide +kernel
theorem v_law_deed_3 : okV N_law_deed sk_law_deed 3 "_law_rows_here" = true := by decide +kernel
theorem v_law_deed_4 : okV N_law_deed sk_law_deed 4 "_law_tops" = true := by decide +kernel
theorem v_law_deed_5 : okV N_law_deed sk_law_deed 5 "_law_under" = true := by decide +kernel
theorem v_law_deed_6 : okV N_law_deed sk_law_deed 6 "_law_by" = true := by decide +kernel
theorem w_law_deed_3 : okS N_law_deed sk_law_deed sk_law_deed 3 "_law_rows_here" = true := by decide +kernel
theorem w_law_deed_4 : okS N_law_deed sk_law_deed sk_law_deed 4 "_law_tops" = true := by decide +kernel
theorem w_law_deed_5 : okS N_law_deed sk_law_deed sk_law_deed 5 "_law_under" = true := by decide +kernel
theorem w_law_deed_6 : okS N_law_deed sk_law_deed sk_law_deed 6 "_law_by" = true := by decide +kernel
theorem g_law_deed_law_common : okG sk_law_deed "_law_common" = true := by decide +kernel
theorem g_law_deed_law_rows : okG sk_law_deed "_law_rows" = true := by decide +kernel
theorem g_law_deed_len : okG sk_law_deed "len" = true := by decide +kernel
theorem g_law_deed_tuple : okG sk_law_deed "tuple" = true := by decide +kernel
set_option maxHeartbeats 4000000 in
theorem j_law_deed {X : Cx} {W : WX} (C : CtxOk X W) (V : Nm X N_law_deed sk_law_deed sk_law_deed) (Y : Df X) (c_law_rows : Cal X "_law_rows" 1 F_law_rows) (c_law_common : Cal X "_law_common" 2 F_law_common) (z_len : X.mg "len" = none) (z_tuple : X.mg "tuple" = none) : JSs X W (defBody s_law_deed) b_law_deed :=
  (jss_cons (js_asg V w_law_deed_3 (je_call C V g_law_deed_law_rows c_law_rows (ja_cons (je_ixN V v_law_deed_0 je_int) ja_nil) (alen_cons alen_nil)))
    (jss_cons (js_own V w_law_deed_4 (jf_lst (ja_cons (je_mul (je_mod (je_ixN V v_law_deed_0 je_int) je_int) (je_var V v_law_deed_2)) (ja_cons (je_mul (je_mod (je_fdiv (je_ixN V v_law_deed_0 je_int) je_int) je_int) (je_var V v_law_deed_1)) ja_nil))))
    (jss_cons (js_asg V w_law_deed_5 (je_mul (je_var V v_law_deed_1) (je_var V v_law_deed_2)))
    (jss_cons (js_if (jt_eq C (je_mod (je_ixN V v_law_deed_0 je_int) je_int) je_int) (jss_one (js_own V w_law_deed_4 (jf_lst (ja_cons (je_add (je_ixN V v_law_deed_4 je_int) (je_mul (je_var V v_law_deed_5) (je_mod (je_ixN V v_law_deed_0 je_int) (je_pow je_int je_int)))) (ja_cons (je_sub (je_ixN V v_law_deed_4 je_int) (je_mul (je_var V v_law_deed_5) (je_mod (je_fdiv (je_ixN V v_law_deed_0 je_int) je_int) (je_pow je_int je_int)))) ja_nil))))) jss_nil)
    (jss_cons (js_if (jt_eq C (je_mod (je_ixN V v_law_deed_0 je_int) je_int) je_int) (jss_one (js_asg V w_law_deed_5 (je_mul (je_var V v_law_deed_5) (je_add je_int (je_mod (je_ixN V v_law_deed_0 je_int) je_int))))) jss_nil)
    (jss_cons (js_asg V w_law_deed_6 (je_call C V g_law_deed_law_common c_law_common (ja_cons (je_call C V g_law_deed_law_common c_law_common (ja_cons (je_ixN V v_law_deed_4 je_int) (ja_cons (je_ixN V v_law_deed_4 je_int) ja_nil)) (alen_cons (alen_cons alen_nil))) (ja_cons (je_var V v_law_deed_5) ja_nil)) (alen_cons (alen_cons alen_nil))))
    (jss_cons (js_ownLc (own := [("_law_top", 7)]) C V w_law_deed_4 (by decide +kernel) (by decide +kernel) rfl (by decide) (by decide) (ji_seq (je_var V v_law_deed_4)) (fun X1 V1 C1 B1 => (jgv_name V1 (by decide +kernel) (by decide))) (fun X1 V1 C1 B1 => jts_nil) (fun X1 V1 C1 B1 => (je_fdiv (je_var V1 (by decide +kernel)) (je_var V1 (by decide +kernel)))))
    (jss_cons (js_if (jt_eq C (je_lenN V v_law_deed_3 g_law_deed_len z_len) je_int) (jss_one (js_app V v_law_deed_4 je_int)) jss_nil)
    (jss_one (js_ret (je_tup (ja_cons (je_tuple V g_law_deed_tuple z_tuple (ja_cons (je_lc (own := [("_law_row", 8)]) C V (by decide +kernel) rfl (ji_seq (je_var V v_law_deed_3)) (fun X2 V2 C2 B2 => (jgv_name V2 (by decide +kernel) (by decide))) (fun X2 V2 C2 B2 => jts_nil) (fun X2 V2 C2 B2 => (je_tuple V2 (by decide +kernel) (B2.z z_tuple) (ja_cons (je_var V2 (by decide +kernel)) ja_nil)))) ja_nil)) (ja_cons (je_tuple V g_law_deed_tuple z_tuple (ja_cons (je_var V v_law_deed_4) ja_nil)) (ja_cons (je_fdiv (je_var V v_law_deed_5) (je_var V v_law_deed_6)) ja_nil))))))))))))))
theorem ok_law_deed {P : Program} {w : World} {K : PySem.W.Frag} {mg : MG} {base : Heap} {f : Addr} {fd : FuncData} (F : Fun K "_law_deed" "_law_deed" s_law_deed f fd) (gm : mg "_law_deed" = some (.ref f)) (c_law_rows : Callee P w K mg base "_law_rows" 2 1 F_law_rows) (c_law_common : Callee P w K mg base "_law_common" 1 2 F_law_common) (z_len : mg "len" = none) (z_tuple : mg "tuple" = none) :
    FnOk P w K mg base (L2N.CX P w) 3 f fd ["_law_cells", "_law_n", "_law_m"] (spP K mg 3 F_law_deed) ∧ Callee P w K mg base "_law_deed" 3 3 F_law_deed := by
  have G : FnOk P w K mg base (L2N.CX P w) 3 f fd ["_law_cells", "_law_n", "_law_m"] (spP K mg 3 F_law_deed) := by
    have G0 := fn_ok (P := P) (w := w) (K := K) (mg := mg) (base := base) (N := N_law_deed) (ps := ["_law_cells", "_law_n", "_law_m"]) (k := 2) (g := b_law_deed) F sc_law_deed (fun X W hP hw hK hmg hb hr C V Y => by subst hP hw hK hmg hb; exact j_law_deed C V Y (c_law_rows.cal hr) (c_law_common.cal hr) z_len z_tuple)
    exact G0
  exact ⟨G, callee_of G gm F.kp (F.binds (ps := ["_law_cells", "_law_n", "_law_m"]) fun _ _ _ _ _ _ us hl => match us, hl with | [_, _, _], _ => rfl)⟩

abbrev s_law_reached : Stmt := topS 36
theorem sc_law_reached : FnScope ["_law_one", "_law_i", "_law_j", "_law_n", "_law_m", "_law_rows_here", "_law_tops", "_law_under", "_law_spot", "_law_row", "_law_top", "_law_far"] ["_law_one", "_law_i", "_law_j", "_law_n", "_law_m"] (defScope s_law_reached) := ⟨rfl, rfl, rfl, by decide +kernel, rfl, by decide +kernel, by decide +kernel⟩
noncomputable def b_law_reached : M Fl :=
  (sq (mAsgT (mVar 0) (gTp 3 (gsCons (gN 5) (gsCons (gN 6) (gsCons (gN 7) gsNil)))))
  (sq (mOwn 8 (mFl aNil))
  (sq (bnd (mZip (aCons (mVar 5) (aCons (mVar 6) aNil))) (forL (gTp 2 (gsCons (gN 9) (gsCons (gN 10) gsNil))) (sq (mAsg 11 (m2 (m2 (m2 (mIxN 9 (ret (.int 0))) (mVar 1) (g2i iMul)) (mVar 4) (g2i iMul)) (m2 (m2 (mIxN 9 (ret (.int 1))) (mVar 2) (g2i iMul)) (mVar 3) (g2i iMul)) mAdd))
  (mApp 8 (m2 (m2 (mVar 11) (mVar 7) (g2i iMul)) (m2 (m2 (mVar 10) (mVar 3) (g2i iMul)) (mVar 4) (g2i iMul)) mAdd)))))
  (sq (mIf (bOr (bnd (m2 (m2 (mIxN 8 (ret (.int 0))) (m2 (mVar 4) (mVar 7) (g2i iMul)) (g2i iMod)) (ret (.int 0)) mNe) mB) (bnd (m2 (m2 (mIxN 8 (ret (.int 1))) (m2 (mVar 3) (mVar 7) (g2i iMul)) (g2i iMod)) (ret (.int 0)) mNe) mB)) (mRet (ret .non)) nx)
  (mRet (mTup (aCons (m2 (m2 (mIxN 8 (ret (.int 0))) (m2 (mVar 4) (mVar 7) (g2i iMul)) (g2i iDiv)) (mVar 3) (g2i iMod)) (aCons (m2 (m2 (mIxN 8 (ret (.int 1))) (m2 (mVar 3) (mVar 7) (g2i iMul)) (g2i iDiv)) (mVar 4) (g2i iMod)) aNil))))))))
noncomputable def F_law_reached : List D → Rs := runF 12 b_law_reached
abbrev N_law_reached : List Str := ["_law_one", "_law_i", "_law_j", "_law_n", "_law_m", "_law_rows_here", "_law_tops", "_law_under", "_law_spot", "_law_row", "_law_top", "_law_far"]
abbrev sk_law_reached : Scope := defScope s_law_reached
theorem v_law_reached_0 : okV N_law_reached sk_law_reached 0 "_law_one" = true := by decide +kernel
theorem v_law_reached_1 : okV N_law_reached sk_law_reached 1 "_law_i" = true := by decide +kernel
theorem v_law_reached_2 : okV N_law_reached sk_law_reached 2 "_law_j" = true := by decide +kernel
theorem v_law_reached_3 : okV N_law_reached sk_law_reached 3 "_law_n" = true := by decide +kernel
theorem v_law_reached_4 : okV N_law_reached sk_law_reached 4 "_law_m" = true := by decide +kernel
theorem v_law_reached_5 : okV N_law_reached sk_law_reached 5 "_law_rows_here" = true := by decide +kernel
theorem v_law_reached_6 : okV N_law_reached sk_law_reached 6 "_law_tops" = true := by decide +kernel
theorem v_law_reached_7 : okV N_law_reached sk_law_reached 7 "_law_under" = true := by decide +kernel
theorem v_law_reached_8 : okV N_law_reached sk_law_reached 8 "_law_spot" = true := by decide +kernel
theorem v_law_reached_9 : okV N_law_reached sk_law_reached 9 "_law_row" = true := by decide +kernel
theorem v_law_reached_10 : okV N_law_reached sk_law_reached 10 "_law_top" = true := by decide +kernel
theorem v_law_reached_11 : okV N_law_reached sk_law_reached 11 "_law_far" = true := by decide +kernel
theorem w_law_reached_5 : okS N_law_reached sk_law_reached sk_law_reached 5 "_law_rows_here" = true := by decide +kernel
theorem w_law_reached_6 : okS N_law_reached sk_law_reached sk_law_reached 6 "_law_tops" = true := by decide +kernel
theorem w_law_reached_7 : okS N_law_reached sk_law_reached sk_law_reached 7 "_law_under" = true := by decide +kernel
theorem w_law_reached_8 : okS N_law_reached sk_law_reached sk_law_reached 8 "_law_spot" = true := by decide +kernel
theorem w_law_reached_9 : okS N_law_reached sk_law_reached sk_law_reached 9 "_law_row" = true := by decide +kernel
theorem w_law_reached_10 : okS N_law_reached sk_law_reached sk_law_reached 10 "_law_top" = true := by decide +kernel
theorem w_law_reached_11 : okS N_law_reached sk_law_reached sk_law_reached 11 "_law_far" = true := by decide +kernel
theorem g_law_reached_zip : okG sk_law_reached "zip" = true := by decide +kernel
set_option maxHeartbeats 4000000 in
theorem j_law_reached {X : Cx} {W : WX} (C : CtxOk X W) (V : Nm X N_law_reached sk_law_reached sk_law_reached) (Y : Df X) (z_zip : X.mg "zip" = none) : JSs X W (defBody s_law_reached) b_law_reached :=
  (jss_cons (js_asgT (je_var V v_law_reached_0) (jg_tup (n := 3) C (jgs_cons (jg_name V w_law_reached_5) (jgs_cons (jg_name V w_law_reached_6) (jgs_cons (jg_name V w_law_reached_7) jgs_nil)))))
    (jss_cons (js_own V w_law_reached_8 (jf_lst ja_nil))
    (jss_cons (js_for C (ji_zip V g_law_reached_zip z_zip (ja_cons (je_var V v_law_reached_5) (ja_cons (je_var V v_law_reached_6) ja_nil))) (jg_tup (n := 2) C (jgs_cons (jg_name V w_law_reached_9) (jgs_cons (jg_name V w_law_reached_10) jgs_nil))) (jss_cons (js_asg V w_law_reached_11 (je_add (je_mul (je_mul (je_ixN V v_law_reached_9 je_int) (je_var V v_law_reached_1)) (je_var V v_law_reached_4)) (je_mul (je_mul (je_ixN V v_law_reached_9 je_int) (je_var V v_law_reached_2)) (je_var V v_law_reached_3))))
    (jss_one (js_app V v_law_reached_8 (je_add (je_mul (je_var V v_law_reached_11) (je_var V v_law_reached_7)) (je_mul (je_mul (je_var V v_law_reached_10) (je_var V v_law_reached_3)) (je_var V v_law_reached_4)))))))
    (jss_cons (js_if (JW.jt (jw_or (jt_ne C (je_mod (je_ixN V v_law_reached_8 je_int) (je_mul (je_var V v_law_reached_4) (je_var V v_law_reached_7))) je_int) (jw_or1 (jt_ne C (je_mod (je_ixN V v_law_reached_8 je_int) (je_mul (je_var V v_law_reached_3) (je_var V v_law_reached_7))) je_int)))) (jss_one (js_ret je_non)) jss_nil)
    (jss_one (js_ret (je_tup (ja_cons (je_mod (je_fdiv (je_ixN V v_law_reached_8 je_int) (je_mul (je_var V v_law_reached_4) (je_var V v_law_reached_7))) (je_var V v_law_reached_3)) (ja_cons (je_mod (je_fdiv (je_ixN V v_law_reached_8 je_int) (je_mul (je_var V v_law_reached_3) (je_var V v_law_reached_7))) (je_var V v_law_reached_4)) ja_nil)))))))))
theorem ok_law_reached {P : Program} {w : World} {K : PySem.W.Frag} {mg : MG} {base : Heap} {f : Addr} {fd : FuncData} (F : Fun K "_law_reached" "_law_reached" s_law_reached f fd) (gm : mg "_law_reached" = some (.ref f)) (z_zip : mg "zip" = none) :
    FnOk P w K mg base (L2N.CX P w) 1 f fd ["_law_one", "_law_i", "_law_j", "_law_n", "_law_m"] (spP K mg 5 F_law_reached) ∧ Callee P w K mg base "_law_reached" 1 5 F_law_reached := by
  have G : FnOk P w K mg base (L2N.CX P w) 1 f fd ["_law_one", "_law_i", "_law_j", "_law_n", "_law_m"] (spP K mg 5 F_law_reached) := by
    have G0 := fn_ok (P := P) (w := w) (K := K) (mg := mg) (base := base) (N := N_law_reached) (ps := ["_law_one", "_law_i", "_law_j", "_law_n", "_law_m"]) (k := 0) (g := b_law_reached) F sc_law_reached (fun X W hP hw hK hmg hb hr C V Y => by subst hP hw hK hmg hb; exact j_law_reached C V Y z_zip)
    exact G0
  exact ⟨G, callee_of G gm F.kp (F.binds (ps := ["_law_one", "_law_i", "_law_j", "_law_n", "_law_m"]) fun _ _ _ _ _ _ us hl => match us, hl with | [_, _, _, _, _], _ => rfl)⟩

abbrev s_law_due : Stmt := topS 37
theorem sc_law_due : FnScope ["_law_drawing_here", "_law_one", "_law_first", "_law_n", "_law_m", "_law_i", "_law_j", "_law_there"] ["_law_drawing_here", "_law_one"] (defScope s_law_due) := ⟨rfl, rfl, rfl, by decide +kernel, rfl, by decide +kernel, by decide +kernel⟩
noncomputable def b_law_due : M Fl :=
  (sq (mAsg 2 (ret .non))
  (sq (mAsg 3 (has 0 (onSl 0 fun d => cLen [d])))
  (sq (mAsg 4 (bnd (aCons (mIxN 0 (ret (.int 0))) aNil) cLen))
  (sq (mIf (bnd (m2 (bnd (aCons (mIxN 1 (ret (.int 1))) aNil) cLen) (ret (.int 3)) mEq) mB) (mRet (ret (.str "off"))) nx)
  (sq (bnd (mRng1 (aCons (mVar 3) aNil)) (forL (gN 5) (bnd (mRng1 (aCons (mVar 4) aNil)) (forL (gN 6) (sq (mAsg 7 (mCall (aCons (mVar 1) (aCons (mVar 5) (aCons (mVar 6) (aCons (mVar 3) (aCons (mVar 4) aNil))))) F_law_reached))
  (sq (mIf (bnd (mVar 7) fun x => ret (isNon x)) (mRet (ret (.str "off"))) nx)
  (mIf (bAnd (bnd (mVar 2) fun x => ret (isNon x)) (bnd (m2 (m2 (mIxN 0 (mIxN 7 (ret (.int 0)))) (mIxN 7 (ret (.int 1))) mIx) (m2 (mIxN 0 (mVar 5)) (mVar 6) mIx) mNe) mB)) (mAsg 2 (mTup (aCons (mVar 5) (aCons (mVar 6) aNil)))) nx)))))))
  (mRet (mVar 2)))))))
noncomputable def F_law_due : List D → Rs := runF 8 b_law_due
abbrev N_law_due : List Str := ["_law_drawing_here", "_law_one", "_law_first", "_law_n", "_law_m", "_law_i", "_law_j", "_law_there"]
abbrev sk_law_due : Scope := defScope s_law_due
theorem v_law_due_0 : okV N_law_due sk_law_due 0 "_law_drawing_here" = true := by decide +kernel
theorem v_law_due_1 : okV N_law_due sk_law_due 1 "_law_one" = true := by decide +kernel
theorem v_law_due_2 : okV N_law_due sk_law_due 2 "_law_first" = true := by decide +kernel
theorem v_law_due_3 : okV N_law_due sk_law_due 3 "_law_n" = true := by decide +kernel
theorem v_law_due_4 : okV N_law_due sk_law_due 4 "_law_m" = true := by decide +kernel
theorem v_law_due_5 : okV N_law_due sk_law_due 5 "_law_i" = true := by decide +kernel
theorem v_law_due_6 : okV N_law_due sk_law_due 6 "_law_j" = true := by decide +kernel
theorem v_law_due_7 : okV N_law_due sk_law_due 7 "_law_there" = true := by decide +kernel
theorem w_law_due_2 : okS N_law_due sk_law_due sk_law_due 2 "_law_first" = true := by decide +kernel
theorem w_law_due_3 : okS N_law_due sk_law_due sk_law_due 3 "_law_n" = true := by decide +kernel
theorem w_law_due_4 : okS N_law_due sk_law_due sk_law_due 4 "_law_m" = true := by decide +kernel
theorem w_law_due_5 : okS N_law_due sk_law_due sk_law_due 5 "_law_i" = true := by decide +kernel
theorem w_law_due_6 : okS N_law_due sk_law_due sk_law_due 6 "_law_j" = true := by decide +kernel
theorem w_law_due_7 : okS N_law_due sk_law_due sk_law_due 7 "_law_there" = true := by decide +kernel
theorem g_law_due_law_reached : okG sk_law_due "_law_reached" = true := by decide +kernel
theorem g_law_due_len : okG sk_law_due "len" = true := by decide +kernel
theorem g_law_due_range : okG sk_law_due "range" = true := by decide +kernel
set_option maxHeartbeats 4000000 in
theorem j_law_due {X : Cx} {W : WX} (C : CtxOk X W) (V : Nm X N_law_due sk_law_due sk_law_due) (Y : Df X) (c_law_reached : Cal X "_law_reached" 5 F_law_reached) (z_len : X.mg "len" = none) (z_range : X.mg "range" = none) : JSs X W (defBody s_law_due) b_law_due :=
  (jss_cons (js_asg V w_law_due_2 je_non)
    (jss_cons (js_asg V w_law_due_3 (je_lenN V v_law_due_0 g_law_due_len z_len))
    (jss_cons (js_asg V w_law_due_4 (je_len V g_law_due_len z_len (ja_cons (je_ixN V v_law_due_0 je_int) ja_nil)))
    (jss_cons (js_if (jt_eq C (je_len V g_law_due_len z_len (ja_cons (je_ixN V v_law_due_1 je_int) ja_nil)) je_int) (jss_one (js_ret je_str)) jss_nil)
    (jss_cons (js_for C (ji_range1 V g_law_due_range z_range (ja_cons (je_var V v_law_due_3) ja_nil)) (jg_name V w_law_due_5) (jss_one (js_for C (ji_range1 V g_law_due_range z_range (ja_cons (je_var V v_law_due_4) ja_nil)) (jg_name V w_law_due_6) (jss_cons (js_asg V w_law_due_7 (je_call C V g_law_due_law_reached c_law_reached (ja_cons (je_var V v_law_due_1) (ja_cons (je_var V v_law_due_5) (ja_cons (je_var V v_law_due_6) (ja_cons (je_var V v_law_due_3) (ja_cons (je_var V v_law_due_4) ja_nil))))) (alen_cons (alen_cons (alen_cons (alen_cons (alen_cons alen_nil)))))))
    (jss_cons (js_if (jt_isN (je_var V v_law_due_7)) (jss_one (js_ret je_str)) jss_nil)
    (jss_one (js_if (JW.jt (jw_and (jt_isN (je_var V v_law_due_2)) (jw_and1 (jt_ne C (je_ix (je_ixN V v_law_due_0 (je_ixN V v_law_due_7 je_int)) (je_ixN V v_law_due_7 je_int)) (je_ix (je_ixN V v_law_due_0 (je_var V v_law_due_5)) (je_var V v_law_due_6)))))) (jss_one (js_asg V w_law_due_2 (je_tup (ja_cons (je_var V v_law_due_5) (ja_cons (je_var V v_law_due_6) ja_nil))))) jss_nil)))))))
    (jss_one (js_ret (je_var V v_law_due_2))))))))
theorem ok_law_due {P : Program} {w : World} {K : PySem.W.Frag} {mg : MG} {base : Heap} {f : Addr} {fd : FuncData} (F : Fun K "_law_due" "_law_due" s_law_due f fd) (gm : mg "_law_due" = some (.ref f)) (c_law_reached : Callee P w K mg base "_law_reached" 1 5 F_law_reached) (z_len : mg "len" = none) (z_range : mg "range" = none) :
    FnOk P w K mg base (L2N.CX P w) 2 f fd ["_law_drawing_here", "_law_one"] (spP K mg 2 F_law_due) ∧ Callee P w K mg base "_law_due" 2 2 F_law_due := by
  have G : FnOk P w K mg base (L2N.CX P w) 2 f fd ["_law_drawing_here", "_law_one"] (spP K mg 2 F_law_due) := by
    have G0 := fn_ok (P := P) (w := w) (K := K) (mg := mg) (base := base) (N := N_law_due) (ps := ["_law_drawing_here", "_law_one"]) (k := 1) (g := b_law_due) F sc_law_due (fun X W hP hw hK hmg hb hr C V Y => by subst hP hw hK hmg hb; exact j_law_due C V Y (c_law_reached.cal hr) z_len z_range)
    exact G0
  exact ⟨G, callee_of G gm F.kp (F.binds (ps := ["_law_drawing_here", "_law_one"]) fun _ _ _ _ _ _ us hl => match us, hl with | [_, _], _ => rfl)⟩

abbrev s_law_others : Stmt := topS 38
theorem sc_law_others : FnScope ["_law_e"] ["_law_e"] (defScope s_law_others) := ⟨rfl, rfl, rfl, by decide +kernel, rfl, by decide +kernel, by decide +kernel⟩
noncomputable def b_law_others : Addr → Str → M Fl := fun a y =>
  (sq (mIf (bOr (bnd (bnd (mVar 0) (cIsE tab a y "NoPlace")) mTru) (bOr (bnd (bnd (mVar 0) (cIsE tab a y "NoNumber")) mTru) (bnd (bnd (mVar 0) (cIsE tab a y "TooMany")) mTru))) (mRet (ret (.bl true))) nx)
  (sq (mIf (bOr (bnd (bnd (mVar 0) (cIsE tab a y "NoChange")) mTru) (bOr (bnd (bnd (mVar 0) (cIsE tab a y "NotKept")) mTru) (bnd (bnd (mVar 0) (cIsE tab a y "NoForm")) mTru))) (mRet (ret (.bl true))) nx)
  (sq (mIf (bOr (bnd (bnd (mVar 0) (cIsE tab a y "NotWithin")) mTru) (bnd (bnd (mVar 0) (cIsE tab a y "NotLeast")) mTru)) (mRet (ret (.bl true))) nx)
  (mRet (vOr (bnd (mVar 0) (cIsE tab a y "NoRow")) (bnd (mVar 0) (cIsE tab a y "NoName")))))))
noncomputable def F_law_others : Addr → Str → List D → Rs := fun a y => runF 1 (b_law_others a y)
abbrev N_law_others : List Str := ["_law_e"]
abbrev sk_law_others : Scope := defScope s_law_others
theorem v_law_others_0 : okV N_law_others sk_law_others 0 "_law_e" = true := by decide +kernel
theorem g_law_others_NoChange : okG sk_law_others "NoChange" = true := by decide +kernel
theorem g_law_others_NoForm : okG sk_law_others "NoForm" = true := by decide +kernel
theorem g_law_others_NoName : okG sk_law_others "NoName" = true := by decide +kernel
theorem g_law_others_NoNumber : okG sk_law_others "NoNumber" = true := by decide +kernel
theorem g_law_others_NoPlace : okG sk_law_others "NoPlace" = true := by decide +kernel
theorem g_law_others_NoRow : okG sk_law_others "NoRow" = true := by decide +kernel
theorem g_law_others_NotKept : okG sk_law_others "NotKept" = true := by decide +kernel
theorem g_law_others_NotLeast : okG sk_law_others "NotLeast" = true := by decide +kernel
theorem g_law_others_NotWithin : okG sk_law_others "NotWithin" = true := by decide +kernel
theorem g_law_others_TooMany : okG sk_law_others "TooMany" = true := by decide +kernel
theorem g_law_others_isinstance : okG sk_law_others "isinstance" = true := by decide +kernel
set_option maxHeartbeats 4000000 in
theorem j_law_others {X : Cx} {a : Addr} {y : Str} (Hx : HotX X a y) (V : Nm X N_law_others sk_law_others sk_law_others) (z_isinstance : X.mg "isinstance" = none) (TO : TabOk X.K X.mg tab) : JSs X WF (defBody s_law_others) (b_law_others a y) :=
  (jss_cons (js_if (JW.jt (jw_or (jt_tru (je_isE V g_law_others_isinstance g_law_others_NoPlace z_isinstance Hx TO (je_var V v_law_others_0))) (jw_or (jt_tru (je_isE V g_law_others_isinstance g_law_others_NoNumber z_isinstance Hx TO (je_var V v_law_others_0))) (jw_or1 (jt_tru (je_isE V g_law_others_isinstance g_law_others_TooMany z_isinstance Hx TO (je_var V v_law_others_0))))))) (jss_one (js_ret je_bl)) jss_nil)
    (jss_cons (js_if (JW.jt (jw_or (jt_tru (je_isE V g_law_others_isinstance g_law_others_NoChange z_isinstance Hx TO (je_var V v_law_others_0))) (jw_or (jt_tru (je_isE V g_law_others_isinstance g_law_others_NotKept z_isinstance Hx TO (je_var V v_law_others_0))) (jw_or1 (jt_tru (je_isE V g_law_others_isinstance g_law_others_NoForm z_isinstance Hx TO (je_var V v_law_others_0))))))) (jss_one (js_ret je_bl)) jss_nil)
    (jss_cons (js_if (JW.jt (jw_or (jt_tru (je_isE V g_law_others_isinstance g_law_others_NotWithin z_isinstance Hx TO (je_var V v_law_others_0))) (jw_or1 (jt_tru (je_isE V g_law_others_isinstance g_law_others_NotLeast z_isinstance Hx TO (je_var V v_law_others_0)))))) (jss_one (js_ret je_bl)) jss_nil)
    (jss_one (js_ret (je_or (je_isE V g_law_others_isinstance g_law_others_NoRow z_isinstance Hx TO (je_var V v_law_others_0)) (je_one (je_isE V g_law_others_isinstance g_law_others_NoName z_isinstance Hx TO (je_var V v_law_others_0)))))))))
theorem ok_law_others {P : Program} {w : World} {K : PySem.W.Frag} {mg : MG} {base : Heap} {f : Addr} {fd : FuncData} (F : Fun K "_law_others" "_law_others" s_law_others f fd) (gm : mg "_law_others" = some (.ref f)) (z_isinstance : mg "isinstance" = none) (TO : TabOk K mg tab) :
    FnE P w K mg base 1 f fd ["_law_e"] (fun a y => spE K mg 1 (F_law_others a y)) ∧ CalleeE P w K mg base "_law_others" 1 1 F_law_others := by
  have G : FnE P w K mg base 1 f fd ["_law_e"] (fun a y => spE K mg 1 (F_law_others a y)) := by
    have G0 := fn_okE (P := P) (w := w) (K := K) (mg := mg) (base := base) (N := N_law_others) (ps := ["_law_e"]) (k := 0) (g := b_law_others) F sc_law_others (fun X a y hP hw hK hmg hb hr hu Hx V => by subst hP hw hK hmg hb; exact j_law_others Hx V z_isinstance TO)
    exact G0
  exact ⟨G, calleeE_of G gm F.kp (F.binds (ps := ["_law_e"]) fun _ _ _ _ _ _ us hl => match us, hl with | [_], _ => rfl)⟩

abbrev s_law_only : Stmt := topS 39
theorem sc_law_only : FnScope ["_law_e"] ["_law_e"] (defScope s_law_only) := ⟨rfl, rfl, rfl, by decide +kernel, rfl, by decide +kernel, by decide +kernel⟩
noncomputable def b_law_only : Addr → Str → M Fl := fun a y =>
  (sq (mIf (bOr (bnd (bnd (mVar 0) (cIsE tab a y "NoDrawing")) mTru) (bnd (bnd (mVar 0) (cIsE tab a y "NoSheet")) mTru)) (mRet (ret (.bl false))) nx)
  (sq (mIf (bOr (bnd (bnd (mVar 0) (cIsE tab a y "NoText")) mTru) (bnd (bnd (mVar 0) (cIsE tab a y "NoDeed")) mTru)) (mRet (ret (.bl false))) nx)
  (mRet (vAnd (bnd (mVar 0) (cIsE tab a y "OffSheet")) (vAnd (bnd (mVar 0) (cIsE tab a y "ValueError")) (vNot (mCallE (aCons (mVar 0) aNil) (F_law_others a y))))))))
noncomputable def F_law_only : Addr → Str → List D → Rs := fun a y => runF 1 (b_law_only a y)
abbrev N_law_only : List Str := ["_law_e"]
abbrev sk_law_only : Scope := defScope s_law_only
theorem v_law_only_0 : okV N_law_only sk_law_only 0 "_law_e" = true := by decide +kernel
theorem g_law_only_NoDeed : okG sk_law_only "NoDeed" = true := by decide +kernel
theorem g_law_only_NoDrawing : okG sk_law_only "NoDrawing" = true := by decide +kernel
theorem g_law_only_NoSheet : okG sk_law_only "NoSheet" = true := by decide +kernel
theorem g_law_only_NoText : okG sk_law_only "NoText" = true := by decide +kernel
theorem g_law_only_OffSheet : okG sk_law_only "OffSheet" = true := by decide +kernel
theorem g_law_only_ValueError : okG sk_law_only "ValueError" = true := by decide +kernel
theorem g_law_only_law_others : okG sk_law_only "_law_others" = true := by decide +kernel
theorem g_law_only_isinstance : okG sk_law_only "isinstance" = true := by decide +kernel
set_option maxHeartbeats 4000000 in
theorem j_law_only {X : Cx} {a : Addr} {y : Str} (Hx : HotX X a y) (V : Nm X N_law_only sk_law_only sk_law_only) (h_law_others : CalE X "_law_others" 1 F_law_others) (z_isinstance : X.mg "isinstance" = none) (TO : TabOk X.K X.mg tab) : JSs X WF (defBody s_law_only) (b_law_only a y) :=
  (jss_cons (js_if (JW.jt (jw_or (jt_tru (je_isE V g_law_only_isinstance g_law_only_NoDrawing z_isinstance Hx TO (je_var V v_law_only_0))) (jw_or1 (jt_tru (je_isE V g_law_only_isinstance g_law_only_NoSheet z_isinstance Hx TO (je_var V v_law_only_0)))))) (jss_one (js_ret je_bl)) jss_nil)
    (jss_cons (js_if (JW.jt (jw_or (jt_tru (je_isE V g_law_only_isinstance g_law_only_NoText z_isinstance Hx TO (je_var V v_law_only_0))) (jw_or1 (jt_tru (je_isE V g_law_only_isinstance g_law_only_NoDeed z_isinstance Hx TO (je_var V v_law_only_0)))))) (jss_one (js_ret je_bl)) jss_nil)
    (jss_one (js_ret (je_and (je_isE V g_law_only_isinstance g_law_only_OffSheet z_isinstance Hx TO (je_var V v_law_only_0)) (je_and (je_isE V g_law_only_isinstance g_law_only_ValueError z_isinstance Hx TO (je_var V v_law_only_0)) (je_one (je_not (je_callE Hx V g_law_only_law_others h_law_others (ja_cons (je_var V v_law_only_0) ja_nil) (alen_cons alen_nil))))))))))
theorem ok_law_only {P : Program} {w : World} {K : PySem.W.Frag} {mg : MG} {base : Heap} {f : Addr} {fd : FuncData} (F : Fun K "_law_only" "_law_only" s_law_only f fd) (gm : mg "_law_only" = some (.ref f)) (h_law_others : CalleeE P w K mg base "_law_others" 1 1 F_law_others) (z_isinstance : mg "isinstance" = none) (TO : TabOk K mg tab) :
    FnE P w K mg base 2 f fd ["_law_e"] (fun a y => spE K mg 1 (F_law_only a y)) ∧ CalleeE P w K mg base "_law_only" 2 1 F_law_only := by
  have G : FnE P w K mg base 2 f fd ["_law_e"] (fun a y => spE K mg 1 (F_law_only a y)) := by
    have G0 := fn_okE (P := P) (w := w) (K := K) (mg := mg) (base := base) (N := N_law_only) (ps := ["_law_e"]) (k := 1) (g := b_law_only) F sc_law_only (fun X a y hP hw hK hmg hb hr hu Hx V => by subst hP hw hK hmg hb; exact j_law_only Hx V (h_law_others.calH hr) z_isinstance TO)
    exact G0
  exact ⟨G, calleeE_of G gm F.kp (F.binds (ps := ["_law_e"]) fun _ _ _ _ _ _ us hl => match us, hl with | [_], _ => rfl)⟩

abbrev s_law_right : Stmt := topS 40
theorem sc_law_right : FnScope ["_law_drawing_here", "_law_one", "_law_due_here", "_law_refused", "_law_only_here", "_law_told", "_law_e"] ["_law_drawing_here", "_law_one", "_law_due_here"] (defScope s_law_right) := ⟨rfl, rfl, rfl, by decide +kernel, rfl, by decide +kernel, by decide +kernel⟩
noncomputable def b_law_right : M Fl :=
  (sq (mAsg 3 (ret (.bl false)))
  (sq (mAsg 4 (ret (.bl false)))
  (sq (mAsg 5 (ret .non))
  (sq (mTryAs 6 cat "CrystalError" (mAsg 5 (mCall (aCons (mVar 0) (aCons (mVar 1) aNil)) F_lays)) (fun a2 y2 => (sq (mAsg 3 (ret (.bl true)))
  (mAsg 4 (mCallE (aCons (mVar 6) aNil) (F_law_only a2 y2))))))
  (sq (mIf (bnd (m2 (mVar 2) (ret (.str "off")) mEq) mB) (mRet (vAnd (mVar 3) (mVar 4))) nx)
  (sq (mIf (bOr (bnd (mVar 3) mTru) (bnd (mVar 2) fun x => ret (isNon x))) (mRet (vAnd (vNot (mVar 3)) (bnd (mVar 5) fun x => ret (.bl (isNon x))))) nx)
  (sq (mIf (bOr (bNot (bnd (bnd (mVar 5) fun d => cIsi "tuple" [d]) mTru)) (bnd (m2 (has 5 (onSl 5 fun d => cLen [d])) (ret (.int 2)) mNe) mB)) (mRet (ret (.bl false))) nx)
  (mRet (vAnd (mCall (aCons (mIxN 5 (ret (.int 0))) aNil) F_law_whole) (vAnd (mCall (aCons (mIxN 5 (ret (.int 1))) aNil) F_law_whole) (m2 (mVar 5) (mVar 2) mEq)))))))))))
noncomputable def F_law_right : List D → Rs := runF 7 b_law_right
abbrev N_law_right : List Str := ["_law_drawing_here", "_law_one", "_law_due_here", "_law_refused", "_law_only_here", "_law_told", "_law_e"]
abbrev sk_law_right : Scope := defScope s_law_right
theorem v_law_right_0 : okV N_law_right sk_law_right 0 "_law_drawing_here" = true := by decide +kernel
theorem v_law_right_1 : okV N_law_right sk_law_right 1 "_law_one" = true := by decide +kernel
theorem v_law_right_2 : okV N_law_right sk_law_right 2 "_law_due_here" = true := by decide +kernel
theorem v_law_right_3 : okV N_law_right sk_law_right 3 "_law_refused" = true := by decide +kernel
theorem v_law_right_4 : okV N_law_right sk_law_right 4 "_law_only_here" = true := by decide +kernel
theorem v_law_right_5 : okV N_law_right sk_law_right 5 "_law_told" = true := by decide +kernel
theorem v_law_right_6 : okV N_law_right sk_law_right 6 "_law_e" = true := by decide +kernel
theorem w_law_right_3 : okS N_law_right sk_law_right sk_law_right 3 "_law_refused" = true := by decide +kernel
theorem w_law_right_4 : okS N_law_right sk_law_right sk_law_right 4 "_law_only_here" = true := by decide +kernel
theorem w_law_right_5 : okS N_law_right sk_law_right sk_law_right 5 "_law_told" = true := by decide +kernel
theorem w_law_right_6 : okS N_law_right sk_law_right sk_law_right 6 "_law_e" = true := by decide +kernel
theorem g_law_right_CrystalError : okG sk_law_right "CrystalError" = true := by decide +kernel
theorem g_law_right_law_only : okG sk_law_right "_law_only" = true := by decide +kernel
theorem g_law_right_law_whole : okG sk_law_right "_law_whole" = true := by decide +kernel
theorem g_law_right_isinstance : okG sk_law_right "isinstance" = true := by decide +kernel
theorem g_law_right_lays : okG sk_law_right "lays" = true := by decide +kernel
theorem g_law_right_len : okG sk_law_right "len" = true := by decide +kernel
theorem g_law_right_tuple : okG sk_law_right "tuple" = true := by decide +kernel
set_option maxHeartbeats 4000000 in
theorem j_law_right {X : Cx} {W : WX} (C : CtxOk X W) (V : Nm X N_law_right sk_law_right sk_law_right) (Y : Df X) (c_lays : Cal X "lays" 2 F_lays) (c_law_whole : Cal X "_law_whole" 1 F_law_whole) (h_law_only : CalE X "_law_only" 1 F_law_only) (z_isinstance : X.mg "isinstance" = none) (z_len : X.mg "len" = none) (z_tuple : X.mg "tuple" = none) {U_CrystalError : Value} (u_CrystalError : X.mg "CrystalError" = some U_CrystalError) (TC : CatOk X.K X.mg cat) : JSs X W (defBody s_law_right) b_law_right :=
  (jss_cons (js_asg V w_law_right_3 je_bl)
    (jss_cons (js_asg V w_law_right_4 je_bl)
    (jss_cons (js_asg V w_law_right_5 je_non)
    (jss_cons (js_try_as C V Y w_law_right_6 (by decide +kernel) g_law_right_CrystalError u_CrystalError TC (fun X1 WX1 C1 V1 Y1 B1 => (jss_one (js_asg V1 w_law_right_5 (je_call C1 V1 g_law_right_lays (B1.cal c_lays) (ja_cons (je_var V1 v_law_right_0) (ja_cons (je_var V1 v_law_right_1) ja_nil)) (alen_cons (alen_cons alen_nil)))))) (fun X2 a2 y2 Hx2 V2 B2 => (jss_cons (js_asg V2 w_law_right_3 je_bl)
    (jss_one (js_asg V2 w_law_right_4 (je_callE Hx2 V2 g_law_right_law_only (B2.cal h_law_only) (ja_cons (je_var V2 v_law_right_6) ja_nil) (alen_cons alen_nil)))))))
    (jss_cons (js_if (jt_eq C (je_var V v_law_right_2) je_str) (jss_one (js_ret (je_and (je_var V v_law_right_3) (je_one (je_var V v_law_right_4))))) jss_nil)
    (jss_cons (js_if (JW.jt (jw_or (jt_tru (je_var V v_law_right_3)) (jw_or1 (jt_isN (je_var V v_law_right_2))))) (jss_one (js_ret (je_and (je_not (je_var V v_law_right_3)) (je_one (je_isN (je_var V v_law_right_5)))))) jss_nil)
    (jss_cons (js_if (JW.jt (jw_or (jt_not (jt_tru (je_isi (T := "tuple") V g_law_right_isinstance g_law_right_tuple z_isinstance z_tuple (by decide +kernel) (je_var V v_law_right_5)))) (jw_or1 (jt_ne C (je_lenN V v_law_right_5 g_law_right_len z_len) je_int)))) (jss_one (js_ret je_bl)) jss_nil)
    (jss_one (js_ret (je_and (je_call C V g_law_right_law_whole c_law_whole (ja_cons (je_ixN V v_law_right_5 je_int) ja_nil) (alen_cons alen_nil)) (je_and (je_call C V g_law_right_law_whole c_law_whole (ja_cons (je_ixN V v_law_right_5 je_int) ja_nil) (alen_cons alen_nil)) (je_one (je_eq C (je_var V v_law_right_5) (je_var V v_law_right_2))))))))))))))
theorem ok_law_right {P : Program} {w : World} {K : PySem.W.Frag} {mg : MG} {base : Heap} {f : Addr} {fd : FuncData} (F : Fun K "_law_right" "_law_right" s_law_right f fd) (gm : mg "_law_right" = some (.ref f)) (c_lays : Callee P w K mg base "lays" 5 2 F_lays) (c_law_whole : Callee P w K mg base "_law_whole" 1 1 F_law_whole) (h_law_only : CalleeE P w K mg base "_law_only" 2 1 F_law_only) (z_isinstance : mg "isinstance" = none) (z_len : mg "len" = none) (z_tuple : mg "tuple" = none) {U_CrystalError : Value} (u_CrystalError : mg "CrystalError" = some U_CrystalError) (TC : CatOk K mg cat) :
    FnOk P w K mg base (L2N.CX P w) 6 f fd ["_law_drawing_here", "_law_one", "_law_due_here"] (spP K mg 3 F_law_right) ∧ Callee P w K mg base "_law_right" 6 3 F_law_right := by
  have G : FnOk P w K mg base (L2N.CX P w) 6 f fd ["_law_drawing_here", "_law_one", "_law_due_here"] (spP K mg 3 F_law_right) := by
    have G0 := fn_ok (P := P) (w := w) (K := K) (mg := mg) (base := base) (N := N_law_right) (ps := ["_law_drawing_here", "_law_one", "_law_due_here"]) (k := 5) (g := b_law_right) F sc_law_right (fun X W hP hw hK hmg hb hr C V Y => by subst hP hw hK hmg hb; exact j_law_right C V Y (c_lays.cal hr) (c_law_whole.cal hr) (h_law_only.cal hr) z_isinstance z_len z_tuple u_CrystalError TC)
    exact G0
  exact ⟨G, callee_of G gm F.kp (F.binds (ps := ["_law_drawing_here", "_law_one", "_law_due_here"]) fun _ _ _ _ _ _ us hl => match us, hl with | [_, _, _], _ => rfl)⟩

abbrev s_law : Stmt := topS 41
theorem sc_law : FnScope ["_law_script", "_law_at", "_law_cells", "_law_k", "_law_drawing_here", "_law_one", "_law_due_here", "_law_rested", "_law_top", "_law_some"] ["_law_script"] (defScope s_law) := ⟨rfl, rfl, rfl, by decide +kernel, rfl, by decide +kernel, by decide +kernel⟩
noncomputable def b_law : M Fl :=
  (sq (bnd (mRng3 (aCons (ret (.int 0)) (aCons (bnd (aCons (ret (.int 1)) (aCons (has 0 (onSl 0 fun d => cLen [d])) aNil)) (c2i fun i j => ret (.int (if j > i then j else i)))) (aCons (ret (.int 8)) aNil)))) (forL (gN 1) (sq (mAsg 2 (mLc [3] (mRng1 (aCons (ret (.int 8)) aNil)) (gN 3) (ret true) (mCall (aCons (mVar 0) (aCons (m2 (mVar 1) (mVar 3) mAdd) aNil)) F_law_cell_at)))
  (sq (mAsg 4 (mCall (aCons (mVar 2) aNil) F_law_drawing))
  (sq (mAsg 5 (mCall (aCons (mVar 2) (aCons (has 4 (onSl 4 fun d => cLen [d])) (aCons (bnd (aCons (mIxN 4 (ret (.int 0))) aNil) cLen) aNil))) F_law_deed))
  (sq (mAsg 6 (mCall (aCons (mVar 4) (aCons (mVar 5) aNil)) F_law_due))
  (sq (mAsg 7 (mTup (aCons (mIxN 5 (ret (.int 0))) (aCons (bnd (aCons (mLc [8] (mSeq (mIxN 5 (ret (.int 1)))) (gN 8) (ret true) (m2 (mVar 8) (mIxN 5 (ret (.int 2))) (g2i iMod))) aNil) cTuple) (aCons (mIxN 5 (ret (.int 2))) aNil)))))
  (bnd (mSeq (mLst (aCons (mVar 5) (aCons (mVar 7) (aCons (mVar 5) aNil))))) (forL (gN 9) (mIf (bNot (bnd (mCall (aCons (mVar 4) (aCons (mVar 9) (aCons (mVar 6) aNil))) F_law_right) mTru)) (mRet (ret (.bl false))) nx))))))))))
  (mRet (ret (.bl true))))
noncomputable def F_law : List D → Rs := runF 10 b_law
abbrev N_law : List Str := ["_law_script", "_law_at", "_law_cells", "_law_k", "_law_drawing_here", "_law_one", "_law_due_here", "_law_rested", "_law_top", "_law_some"]
abbrev sk_law : Scope := defScope s_law
theorem v_law_0 : okV N_law sk_law 0 "_law_script" = true := by decide +kernel
theorem v_law_2 : okV N_law sk_law 2 "_law_cells" = true := by decide +kernel
theorem v_law_4 : okV N_law sk_law 4 "_law_drawing_here" = true := by decide +kernel
theorem v_law_5 : okV N_law sk_law 5 "_law_one" = true := by decide +kernel
theorem v_law_6 : okV N_law sk_law 6 "_law_due_here" = true := by decide +kernel
theorem v_law_7 : okV N_law sk_law 7 "_law_rested" = true := by decide +kernel
theorem v_law_9 : okV N_law sk_law 9 "_law_some" = true := by decide +kernel
theorem w_law_1 : okS N_law sk_law sk_law 1 "_law_at" = true := by decide +kernel
theorem w_law_2 : okS N_law sk_law sk_law 2 "_law_cells" = true := by decide +kernel
theorem w_law_4 : okS N_law sk_law sk_law 4 "_law_drawing_here" = true := by decide +kernel
theorem w_law_5 : okS N_law sk_law sk_law 5 "_law_one" = true := by decide +kernel
theorem w_law_6 : okS N_law sk_law sk_law 6 "_law_due_here" = true := by decide +kernel
theorem w_law_7 : okS N_law sk_law sk_law 7 "_law_rested" = true := by decide +kernel
theorem w_law_9 : okS N_law sk_law sk_law 9 "_law_some" = true := by decide +kernel
theorem g_law_law_deed : okG sk_law "_law_deed" = true := by decide +kernel
theorem g_law_law_drawing : okG sk_law "_law_drawing" = true := by decide +kernel
theorem g_law_law_due : okG sk_law "_law_due" = true := by decide +kernel
theorem g_law_law_right : okG sk_law "_law_right" = true := by decide +kernel
theorem g_law_len : okG sk_law "len" = true := by decide +kernel
theorem g_law_max : okG sk_law "max" = true := by decide +kernel
theorem g_law_range : okG sk_law "range" = true := by decide +kernel
theorem g_law_tuple : okG sk_law "tuple" = true := by decide +kernel
set_option maxHeartbeats 4000000 in
theorem j_law {X : Cx} {W : WX} (C : CtxOk X W) (V : Nm X N_law sk_law sk_law) (Y : Df X) (c_law_cell_at : Cal X "_law_cell_at" 2 F_law_cell_at) (c_law_drawing : Cal X "_law_drawing" 1 F_law_drawing) (c_law_deed : Cal X "_law_deed" 3 F_law_deed) (c_law_due : Cal X "_law_due" 2 F_law_due) (c_law_right : Cal X "_law_right" 3 F_law_right) (z_len : X.mg "len" = none) (z_max : X.mg "max" = none) (z_range : X.mg "range" = none) (z_tuple : X.mg "tuple" = none) : JSs X W (defBody s_law) b_law :=
  (jss_cons (js_for C (ji_range3 V g_law_range z_range (ja_cons je_int (ja_cons (je_max2 C V g_law_max z_max (ja_cons je_int (ja_cons (je_lenN V v_law_0 g_law_len z_len) ja_nil))) (ja_cons je_int ja_nil)))) (jg_name V w_law_1) (jss_cons (js_setLc (own := [("_law_k", 3)]) C V w_law_2 (by decide +kernel) (by decide +kernel) rfl (by decide) (by decide) (ji_range1 V g_law_range z_range (ja_cons je_int ja_nil)) (fun X1 V1 C1 B1 => (jgv_name V1 (by decide +kernel) (by decide))) (fun X1 V1 C1 B1 => jts_nil) (fun X1 V1 C1 B1 => (je_call C1 V1 (by decide +kernel) (B1.cal c_law_cell_at) (ja_cons (je_var V1 (by decide +kernel)) (ja_cons (je_add (je_var V1 (by decide +kernel)) (je_var V1 (by decide +kernel))) ja_nil)) (alen_cons (alen_cons alen_nil)))))
    (jss_cons (js_asg V w_law_4 (je_call C V g_law_law_drawing c_law_drawing (ja_cons (je_var V v_law_2) ja_nil) (alen_cons alen_nil)))
    (jss_cons (js_asg V w_law_5 (je_call C V g_law_law_deed c_law_deed (ja_cons (je_var V v_law_2) (ja_cons (je_lenN V v_law_4 g_law_len z_len) (ja_cons (je_len V g_law_len z_len (ja_cons (je_ixN V v_law_4 je_int) ja_nil)) ja_nil))) (alen_cons (alen_cons (alen_cons alen_nil)))))
    (jss_cons (js_asg V w_law_6 (je_call C V g_law_law_due c_law_due (ja_cons (je_var V v_law_4) (ja_cons (je_var V v_law_5) ja_nil)) (alen_cons (alen_cons alen_nil))))
    (jss_cons (js_asg V w_law_7 (je_tup (ja_cons (je_ixN V v_law_5 je_int) (ja_cons (je_tuple V g_law_tuple z_tuple (ja_cons (je_lc (own := [("_law_top", 8)]) C V (by decide +kernel) rfl (ji_seq (je_ixN V v_law_5 je_int)) (fun X2 V2 C2 B2 => (jgv_name V2 (by decide +kernel) (by decide))) (fun X2 V2 C2 B2 => jts_nil) (fun X2 V2 C2 B2 => (je_mod (je_var V2 (by decide +kernel)) (je_ixN V2 (by decide +kernel) je_int)))) ja_nil)) (ja_cons (je_ixN V v_law_5 je_int) ja_nil)))))
    (jss_one (js_for C (ji_seq (je_lst (ja_cons (je_var V v_law_5) (ja_cons (je_var V v_law_7) (ja_cons (je_var V v_law_5) ja_nil))))) (jg_name V w_law_9) (jss_one (js_if (jt_not (jt_tru (je_call C V g_law_law_right c_law_right (ja_cons (je_var V v_law_4) (ja_cons (je_var V v_law_9) (ja_cons (je_var V v_law_6) ja_nil))) (alen_cons (alen_cons (alen_cons alen_nil)))))) (jss_one (js_ret je_bl)) jss_nil))))))))))
    (jss_one (js_ret je_bl)))
theorem ok_law {P : Program} {w : World} {K : PySem.W.Frag} {mg : MG} {base : Heap} {f : Addr} {fd : FuncData} (F : Fun K "law" "law" s_law f fd) (gm : mg "law" = some (.ref f)) (c_law_cell_at : Callee P w K mg base "_law_cell_at" 1 2 F_law_cell_at) (c_law_drawing : Callee P w K mg base "_law_drawing" 1 1 F_law_drawing) (c_law_deed : Callee P w K mg base "_law_deed" 3 3 F_law_deed) (c_law_due : Callee P w K mg base "_law_due" 2 2 F_law_due) (c_law_right : Callee P w K mg base "_law_right" 6 3 F_law_right) (z_len : mg "len" = none) (z_max : mg "max" = none) (z_range : mg "range" = none) (z_tuple : mg "tuple" = none) :
    FnOk P w K mg base (L2N.CX P w) 7 f fd ["_law_script"] (spP K mg 1 F_law) ∧ Callee P w K mg base "law" 7 1 F_law := by
  have G : FnOk P w K mg base (L2N.CX P w) 7 f fd ["_law_script"] (spP K mg 1 F_law) := by
    have G0 := fn_ok (P := P) (w := w) (K := K) (mg := mg) (base := base) (N := N_law) (ps := ["_law_script"]) (k := 6) (g := b_law) F sc_law (fun X W hP hw hK hmg hb hr C V Y => by subst hP hw hK hmg hb; exact j_law C V Y (c_law_cell_at.cal hr) (c_law_drawing.cal hr) (c_law_deed.cal hr) (c_law_due.cal hr) (c_law_right.cal hr) z_len z_max z_range z_tuple)
    exact G0
  exact ⟨G, callee_of G gm F.kp (F.binds (ps := ["_law_script"]) fun _ _ _ _ _ _ us hl => match us, hl with | [_], _ => rfl)⟩

set_option maxHeartbeats 4000000 in
theorem all_mk {P : Program} {w : World} {K : PySem.W.Frag} {h : Heap} {mg : MG} {fa : Addr} (hlaw : ∀ ns : List Int, ns.length ≤ 63 → (∀ z ∈ ns, Builtin.Int.intBits z ≤ 1048576) → F_law [.lst (ns.map .int)] = .ok (.bl true)) (X : K.In h) (G : h.Ns mainGlobals mg) (hfa : mg "law" = some (.ref fa))
    {f1 : Addr} {od1 an1 : Option Addr} {sl1 : Array (Option Value)} {oc1 kV1 dc1 pm1 cd1 ct1 : Value}
    (a1 : PySem.W.nsIn K mainGlobals "divisor" = some (some (.ref f1))) (l1 : K.lookup f1 = some ⟨oc1, od1, .func (PySem.W.fnOf "divisor" "divisor" (defArgs s_divisor) (defBody s_divisor) (defScope s_divisor) .none kV1 dc1 pm1 an1 cd1 ct1), sl1⟩) (c1 : PySem.W.codeIn K cd1 "divisor" = true) (k1 : PySem.W.keepIn K (.ref f1) = true)
    {f2 : Addr} {od2 an2 : Option Addr} {sl2 : Array (Option Value)} {oc2 kV2 dc2 pm2 cd2 ct2 : Value}
    (a2 : PySem.W.nsIn K mainGlobals "place" = some (some (.ref f2))) (l2 : K.lookup f2 = some ⟨oc2, od2, .func (PySem.W.fnOf "place" "place" (defArgs s_place) (defBody s_place) (defScope s_place) .none kV2 dc2 pm2 an2 cd2 ct2), sl2⟩) (c2 : PySem.W.codeIn K cd2 "place" = true) (k2 : PySem.W.keepIn K (.ref f2) = true)
    {f3 : Addr} {od3 an3 : Option Addr} {sl3 : Array (Option Value)} {oc3 kV3 dc3 pm3 cd3 ct3 : Value}
    (a3 : PySem.W.nsIn K mainGlobals "rows_led" = some (some (.ref f3))) (l3 : K.lookup f3 = some ⟨oc3, od3, .func (PySem.W.fnOf "rows_led" "rows_led" (defArgs s_rows_led) (defBody s_rows_led) (defScope s_rows_led) .none kV3 dc3 pm3 an3 cd3 ct3), sl3⟩) (c3 : PySem.W.codeIn K cd3 "rows_led" = true) (k3 : PySem.W.keepIn K (.ref f3) = true)
    {f4 : Addr} {od4 an4 : Option Addr} {sl4 : Array (Option Value)} {oc4 kV4 dc4 pm4 cd4 ct4 : Value}
    (a4 : PySem.W.nsIn K mainGlobals "moved" = some (some (.ref f4))) (l4 : K.lookup f4 = some ⟨oc4, od4, .func (PySem.W.fnOf "moved" "moved" (defArgs s_moved) (defBody s_moved) (defScope s_moved) .none kV4 dc4 pm4 an4 cd4 ct4), sl4⟩) (c4 : PySem.W.codeIn K cd4 "moved" = true) (k4 : PySem.W.keepIn K (.ref f4) = true)
    {f5 : Addr} {od5 an5 : Option Addr} {sl5 : Array (Option Value)} {oc5 kV5 dc5 pm5 cd5 ct5 : Value}
    (a5 : PySem.W.nsIn K mainGlobals "grid_spot" = some (some (.ref f5))) (l5 : K.lookup f5 = some ⟨oc5, od5, .func (PySem.W.fnOf "grid_spot" "grid_spot" (defArgs s_grid_spot) (defBody s_grid_spot) (defScope s_grid_spot) .none kV5 dc5 pm5 an5 cd5 ct5), sl5⟩) (c5 : PySem.W.codeIn K cd5 "grid_spot" = true) (k5 : PySem.W.keepIn K (.ref f5) = true)
    {f6 : Addr} {od6 an6 : Option Addr} {sl6 : Array (Option Value)} {oc6 kV6 dc6 pm6 cd6 ct6 : Value}
    (a6 : PySem.W.nsIn K mainGlobals "grid_reached" = some (some (.ref f6))) (l6 : K.lookup f6 = some ⟨oc6, od6, .func (PySem.W.fnOf "grid_reached" "grid_reached" (defArgs s_grid_reached) (defBody s_grid_reached) (defScope s_grid_reached) .none kV6 dc6 pm6 an6 cd6 ct6), sl6⟩) (c6 : PySem.W.codeIn K cd6 "grid_reached" = true) (k6 : PySem.W.keepIn K (.ref f6) = true)
    {f7 : Addr} {od7 an7 : Option Addr} {sl7 : Array (Option Value)} {oc7 kV7 dc7 pm7 cd7 ct7 : Value}
    (a7 : PySem.W.nsIn K mainGlobals "lays" = some (some (.ref f7))) (l7 : K.lookup f7 = some ⟨oc7, od7, .func (PySem.W.fnOf "lays" "lays" (defArgs s_lays) (defBody s_lays) (defScope s_lays) .none kV7 dc7 pm7 an7 cd7 ct7), sl7⟩) (c7 : PySem.W.codeIn K cd7 "lays" = true) (k7 : PySem.W.keepIn K (.ref f7) = true)
    {f8 : Addr} {od8 an8 : Option Addr} {sl8 : Array (Option Value)} {oc8 kV8 dc8 pm8 cd8 ct8 : Value}
    (a8 : PySem.W.nsIn K mainGlobals "_law_cell_at" = some (some (.ref f8))) (l8 : K.lookup f8 = some ⟨oc8, od8, .func (PySem.W.fnOf "_law_cell_at" "_law_cell_at" (defArgs s_law_cell_at) (defBody s_law_cell_at) (defScope s_law_cell_at) .none kV8 dc8 pm8 an8 cd8 ct8), sl8⟩) (c8 : PySem.W.codeIn K cd8 "_law_cell_at" = true) (k8 : PySem.W.keepIn K (.ref f8) = true)
    {f9 : Addr} {od9 an9 : Option Addr} {sl9 : Array (Option Value)} {oc9 kV9 dc9 pm9 cd9 ct9 : Value}
    (a9 : PySem.W.nsIn K mainGlobals "_law_whole" = some (some (.ref f9))) (l9 : K.lookup f9 = some ⟨oc9, od9, .func (PySem.W.fnOf "_law_whole" "_law_whole" (defArgs s_law_whole) (defBody s_law_whole) (defScope s_law_whole) .none kV9 dc9 pm9 an9 cd9 ct9), sl9⟩) (c9 : PySem.W.codeIn K cd9 "_law_whole" = true) (k9 : PySem.W.keepIn K (.ref f9) = true)
    {f10 : Addr} {od10 an10 : Option Addr} {sl10 : Array (Option Value)} {oc10 kV10 dc10 pm10 cd10 ct10 : Value}
    (a10 : PySem.W.nsIn K mainGlobals "_law_common" = some (some (.ref f10))) (l10 : K.lookup f10 = some ⟨oc10, od10, .func (PySem.W.fnOf "_law_common" "_law_common" (defArgs s_law_common) (defBody s_law_common) (defScope s_law_common) .none kV10 dc10 pm10 an10 cd10 ct10), sl10⟩) (c10 : PySem.W.codeIn K cd10 "_law_common" = true) (k10 : PySem.W.keepIn K (.ref f10) = true)
    {f11 : Addr} {od11 an11 : Option Addr} {sl11 : Array (Option Value)} {oc11 kV11 dc11 pm11 cd11 ct11 : Value}
    (a11 : PySem.W.nsIn K mainGlobals "_law_drawing" = some (some (.ref f11))) (l11 : K.lookup f11 = some ⟨oc11, od11, .func (PySem.W.fnOf "_law_drawing" "_law_drawing" (defArgs s_law_drawing) (defBody s_law_drawing) (defScope s_law_drawing) .none kV11 dc11 pm11 an11 cd11 ct11), sl11⟩) (c11 : PySem.W.codeIn K cd11 "_law_drawing" = true) (k11 : PySem.W.keepIn K (.ref f11) = true)
    {f12 : Addr} {od12 an12 : Option Addr} {sl12 : Array (Option Value)} {oc12 kV12 dc12 pm12 cd12 ct12 : Value}
    (a12 : PySem.W.nsIn K mainGlobals "_law_times" = some (some (.ref f12))) (l12 : K.lookup f12 = some ⟨oc12, od12, .func (PySem.W.fnOf "_law_times" "_law_times" (defArgs s_law_times) (defBody s_law_times) (defScope s_law_times) .none kV12 dc12 pm12 an12 cd12 ct12), sl12⟩) (c12 : PySem.W.codeIn K cd12 "_law_times" = true) (k12 : PySem.W.keepIn K (.ref f12) = true)
    {f13 : Addr} {od13 an13 : Option Addr} {sl13 : Array (Option Value)} {oc13 kV13 dc13 pm13 cd13 ct13 : Value}
    (a13 : PySem.W.nsIn K mainGlobals "_law_rows" = some (some (.ref f13))) (l13 : K.lookup f13 = some ⟨oc13, od13, .func (PySem.W.fnOf "_law_rows" "_law_rows" (defArgs s_law_rows) (defBody s_law_rows) (defScope s_law_rows) .none kV13 dc13 pm13 an13 cd13 ct13), sl13⟩) (c13 : PySem.W.codeIn K cd13 "_law_rows" = true) (k13 : PySem.W.keepIn K (.ref f13) = true)
    {f14 : Addr} {od14 an14 : Option Addr} {sl14 : Array (Option Value)} {oc14 kV14 dc14 pm14 cd14 ct14 : Value}
    (a14 : PySem.W.nsIn K mainGlobals "_law_deed" = some (some (.ref f14))) (l14 : K.lookup f14 = some ⟨oc14, od14, .func (PySem.W.fnOf "_law_deed" "_law_deed" (defArgs s_law_deed) (defBody s_law_deed) (defScope s_law_deed) .none kV14 dc14 pm14 an14 cd14 ct14), sl14⟩) (c14 : PySem.W.codeIn K cd14 "_law_deed" = true) (k14 : PySem.W.keepIn K (.ref f14) = true)
    {f15 : Addr} {od15 an15 : Option Addr} {sl15 : Array (Option Value)} {oc15 kV15 dc15 pm15 cd15 ct15 : Value}
    (a15 : PySem.W.nsIn K mainGlobals "_law_reached" = some (some (.ref f15))) (l15 : K.lookup f15 = some ⟨oc15, od15, .func (PySem.W.fnOf "_law_reached" "_law_reached" (defArgs s_law_reached) (defBody s_law_reached) (defScope s_law_reached) .none kV15 dc15 pm15 an15 cd15 ct15), sl15⟩) (c15 : PySem.W.codeIn K cd15 "_law_reached" = true) (k15 : PySem.W.keepIn K (.ref f15) = true)
    {f16 : Addr} {od16 an16 : Option Addr} {sl16 : Array (Option Value)} {oc16 kV16 dc16 pm16 cd16 ct16 : Value}
    (a16 : PySem.W.nsIn K mainGlobals "_law_due" = some (some (.ref f16))) (l16 : K.lookup f16 = some ⟨oc16, od16, .func (PySem.W.fnOf "_law_due" "_law_due" (defArgs s_law_due) (defBody s_law_due) (defScope s_law_due) .none kV16 dc16 pm16 an16 cd16 ct16), sl16⟩) (c16 : PySem.W.codeIn K cd16 "_law_due" = true) (k16 : PySem.W.keepIn K (.ref f16) = true)
    {f17 : Addr} {od17 an17 : Option Addr} {sl17 : Array (Option Value)} {oc17 kV17 dc17 pm17 cd17 ct17 : Value}
    (a17 : PySem.W.nsIn K mainGlobals "_law_others" = some (some (.ref f17))) (l17 : K.lookup f17 = some ⟨oc17, od17, .func (PySem.W.fnOf "_law_others" "_law_others" (defArgs s_law_others) (defBody s_law_others) (defScope s_law_others) .none kV17 dc17 pm17 an17 cd17 ct17), sl17⟩) (c17 : PySem.W.codeIn K cd17 "_law_others" = true) (k17 : PySem.W.keepIn K (.ref f17) = true)
    {f18 : Addr} {od18 an18 : Option Addr} {sl18 : Array (Option Value)} {oc18 kV18 dc18 pm18 cd18 ct18 : Value}
    (a18 : PySem.W.nsIn K mainGlobals "_law_only" = some (some (.ref f18))) (l18 : K.lookup f18 = some ⟨oc18, od18, .func (PySem.W.fnOf "_law_only" "_law_only" (defArgs s_law_only) (defBody s_law_only) (defScope s_law_only) .none kV18 dc18 pm18 an18 cd18 ct18), sl18⟩) (c18 : PySem.W.codeIn K cd18 "_law_only" = true) (k18 : PySem.W.keepIn K (.ref f18) = true)
    {f19 : Addr} {od19 an19 : Option Addr} {sl19 : Array (Option Value)} {oc19 kV19 dc19 pm19 cd19 ct19 : Value}
    (a19 : PySem.W.nsIn K mainGlobals "_law_right" = some (some (.ref f19))) (l19 : K.lookup f19 = some ⟨oc19, od19, .func (PySem.W.fnOf "_law_right" "_law_right" (defArgs s_law_right) (defBody s_law_right) (defScope s_law_right) .none kV19 dc19 pm19 an19 cd19 ct19), sl19⟩) (c19 : PySem.W.codeIn K cd19 "_law_right" = true) (k19 : PySem.W.keepIn K (.ref f19) = true)
    {f20 : Addr} {od20 an20 : Option Addr} {sl20 : Array (Option Value)} {oc20 kV20 dc20 pm20 cd20 ct20 : Value}
    (a20 : PySem.W.nsIn K mainGlobals "law" = some (some (.ref f20))) (l20 : K.lookup f20 = some ⟨oc20, od20, .func (PySem.W.fnOf "law" "law" (defArgs s_law) (defBody s_law) (defScope s_law) .none kV20 dc20 pm20 an20 cd20 ct20), sl20⟩) (c20 : PySem.W.codeIn K cd20 "law" = true) (k20 : PySem.W.keepIn K (.ref f20) = true)
    {C_NoPlace : Addr} (e_NoPlace : PySem.W.nsIn K mainGlobals "NoPlace" = some (some (.ref C_NoPlace)))
    {C_OffSheet : Addr} (e_OffSheet : PySem.W.nsIn K mainGlobals "OffSheet" = some (some (.ref C_OffSheet)))
    {C_NoChange : Addr} (e_NoChange : PySem.W.nsIn K mainGlobals "NoChange" = some (some (.ref C_NoChange)))
    {C_NoDeed : Addr} (e_NoDeed : PySem.W.nsIn K mainGlobals "NoDeed" = some (some (.ref C_NoDeed)))
    {C_NoDrawing : Addr} (e_NoDrawing : PySem.W.nsIn K mainGlobals "NoDrawing" = some (some (.ref C_NoDrawing)))
    {C_NoForm : Addr} (e_NoForm : PySem.W.nsIn K mainGlobals "NoForm" = some (some (.ref C_NoForm)))
    {C_NoName : Addr} (e_NoName : PySem.W.nsIn K mainGlobals "NoName" = some (some (.ref C_NoName)))
    {C_NoNumber : Addr} (e_NoNumber : PySem.W.nsIn K mainGlobals "NoNumber" = some (some (.ref C_NoNumber)))
    {C_NoRow : Addr} (e_NoRow : PySem.W.nsIn K mainGlobals "NoRow" = some (some (.ref C_NoRow)))
    {C_NoSheet : Addr} (e_NoSheet : PySem.W.nsIn K mainGlobals "NoSheet" = some (some (.ref C_NoSheet)))
    {C_NoText : Addr} (e_NoText : PySem.W.nsIn K mainGlobals "NoText" = some (some (.ref C_NoText)))
    {C_NotKept : Addr} (e_NotKept : PySem.W.nsIn K mainGlobals "NotKept" = some (some (.ref C_NotKept)))
    {C_NotLeast : Addr} (e_NotLeast : PySem.W.nsIn K mainGlobals "NotLeast" = some (some (.ref C_NotLeast)))
    {C_NotWithin : Addr} (e_NotWithin : PySem.W.nsIn K mainGlobals "NotWithin" = some (some (.ref C_NotWithin)))
    {C_TooMany : Addr} (e_TooMany : PySem.W.nsIn K mainGlobals "TooMany" = some (some (.ref C_TooMany)))
    {C_CrystalError : Addr} (e_CrystalError : PySem.W.nsIn K mainGlobals "CrystalError" = some (some (.ref C_CrystalError)))
    (ex_NoPlace : PySem.W.excIn K C_NoPlace [.type "ValueError", .type "Exception", .type "BaseException", .type "object"] "ValueError.__new__" = true)
    (ek_NoPlace : PySem.W.keepIn K (.ref C_NoPlace) = true)
    (eb_NoPlace : PySem.W.subIn K (.ref C_NoPlace) (.type "BaseException") = some true)
    (et_NoPlace : PySem.W.typeIn K (.ref C_NoPlace) = some (.type "type"))
    (hg_NoPlace : PySem.W.findIn K (.ref C_NoPlace) "__getattribute__" = some (some (.builtin "BaseException.__getattribute__")))
    (hk_NoPlace : PySem.W.findIn K (.ref C_NoPlace) "__getattr__" = some none)
    (hd_NoPlace : PySem.W.hasDictIn K C_NoPlace = true)
    (ha_NoPlace : PySem.W.findIn K (.ref C_NoPlace) "__class__" = some (some (.builtin "object.__class__")))
    (hn_NoPlace : PySem.W.specialIn K (.builtin "object.__class__") "__get__" = some (some (.builtin "getset_descriptor.__get__")))
    (ht_NoPlace : PySem.W.takesIn K (.builtin "object.__class__") = some true)
    (hm_NoPlace : PySem.W.mroIn K C_NoPlace (.type "object") = some true)
    (ex_OffSheet : PySem.W.excIn K C_OffSheet [.type "ValueError", .type "Exception", .type "BaseException", .type "object"] "ValueError.__new__" = true)
    (ek_OffSheet : PySem.W.keepIn K (.ref C_OffSheet) = true)
    (eb_OffSheet : PySem.W.subIn K (.ref C_OffSheet) (.type "BaseException") = some true)
    (et_OffSheet : PySem.W.typeIn K (.ref C_OffSheet) = some (.type "type"))
    (hg_OffSheet : PySem.W.findIn K (.ref C_OffSheet) "__getattribute__" = some (some (.builtin "BaseException.__getattribute__")))
    (hk_OffSheet : PySem.W.findIn K (.ref C_OffSheet) "__getattr__" = some none)
    (hd_OffSheet : PySem.W.hasDictIn K C_OffSheet = true)
    (ha_OffSheet : PySem.W.findIn K (.ref C_OffSheet) "__class__" = some (some (.builtin "object.__class__")))
    (hn_OffSheet : PySem.W.specialIn K (.builtin "object.__class__") "__get__" = some (some (.builtin "getset_descriptor.__get__")))
    (ht_OffSheet : PySem.W.takesIn K (.builtin "object.__class__") = some true)
    (hm_OffSheet : PySem.W.mroIn K C_OffSheet (.type "object") = some true)
    (hd_NoChange : PySem.W.hasDictIn K C_NoChange = true)
    (et_NoChange : PySem.W.typeIn K (.ref C_NoChange) = some (.type "type"))
    (hd_NoDeed : PySem.W.hasDictIn K C_NoDeed = true)
    (et_NoDeed : PySem.W.typeIn K (.ref C_NoDeed) = some (.type "type"))
    (hd_NoDrawing : PySem.W.hasDictIn K C_NoDrawing = true)
    (et_NoDrawing : PySem.W.typeIn K (.ref C_NoDrawing) = some (.type "type"))
    (hd_NoForm : PySem.W.hasDictIn K C_NoForm = true)
    (et_NoForm : PySem.W.typeIn K (.ref C_NoForm) = some (.type "type"))
    (hd_NoName : PySem.W.hasDictIn K C_NoName = true)
    (et_NoName : PySem.W.typeIn K (.ref C_NoName) = some (.type "type"))
    (hd_NoNumber : PySem.W.hasDictIn K C_NoNumber = true)
    (et_NoNumber : PySem.W.typeIn K (.ref C_NoNumber) = some (.type "type"))
    (hd_NoRow : PySem.W.hasDictIn K C_NoRow = true)
    (et_NoRow : PySem.W.typeIn K (.ref C_NoRow) = some (.type "type"))
    (hd_NoSheet : PySem.W.hasDictIn K C_NoSheet = true)
    (et_NoSheet : PySem.W.typeIn K (.ref C_NoSheet) = some (.type "type"))
    (hd_NoText : PySem.W.hasDictIn K C_NoText = true)
    (et_NoText : PySem.W.typeIn K (.ref C_NoText) = some (.type "type"))
    (hd_NotKept : PySem.W.hasDictIn K C_NotKept = true)
    (et_NotKept : PySem.W.typeIn K (.ref C_NotKept) = some (.type "type"))
    (hd_NotLeast : PySem.W.hasDictIn K C_NotLeast = true)
    (et_NotLeast : PySem.W.typeIn K (.ref C_NotLeast) = some (.type "type"))
    (hd_NotWithin : PySem.W.hasDictIn K C_NotWithin = true)
    (et_NotWithin : PySem.W.typeIn K (.ref C_NotWithin) = some (.type "type"))
    (hd_TooMany : PySem.W.hasDictIn K C_TooMany = true)
    (et_TooMany : PySem.W.typeIn K (.ref C_TooMany) = some (.type "type"))
    (hd_CrystalError : PySem.W.hasDictIn K C_CrystalError = true)
    (et_CrystalError : PySem.W.typeIn K (.ref C_CrystalError) = some (.type "type"))
    (eb_CrystalError : PySem.W.subIn K (.ref C_CrystalError) (.type "BaseException") = some true)
    (ne_NoPlace_NoChange : (C_NoPlace == C_NoChange) = false)
    (sb_NoPlace_NoChange : PySem.W.subIn K (.ref C_NoPlace) (.ref C_NoChange) = some false)
    (ne_NoPlace_NoDeed : (C_NoPlace == C_NoDeed) = false)
    (sb_NoPlace_NoDeed : PySem.W.subIn K (.ref C_NoPlace) (.ref C_NoDeed) = some false)
    (ne_NoPlace_NoDrawing : (C_NoPlace == C_NoDrawing) = false)
    (sb_NoPlace_NoDrawing : PySem.W.subIn K (.ref C_NoPlace) (.ref C_NoDrawing) = some false)
    (ne_NoPlace_NoForm : (C_NoPlace == C_NoForm) = false)
    (sb_NoPlace_NoForm : PySem.W.subIn K (.ref C_NoPlace) (.ref C_NoForm) = some false)
    (ne_NoPlace_NoName : (C_NoPlace == C_NoName) = false)
    (sb_NoPlace_NoName : PySem.W.subIn K (.ref C_NoPlace) (.ref C_NoName) = some false)
    (ne_NoPlace_NoNumber : (C_NoPlace == C_NoNumber) = false)
    (sb_NoPlace_NoNumber : PySem.W.subIn K (.ref C_NoPlace) (.ref C_NoNumber) = some false)
    (sb_NoPlace_NoPlace : PySem.W.subIn K (.ref C_NoPlace) (.ref C_NoPlace) = some true)
    (ne_NoPlace_NoRow : (C_NoPlace == C_NoRow) = false)
    (sb_NoPlace_NoRow : PySem.W.subIn K (.ref C_NoPlace) (.ref C_NoRow) = some false)
    (ne_NoPlace_NoSheet : (C_NoPlace == C_NoSheet) = false)
    (sb_NoPlace_NoSheet : PySem.W.subIn K (.ref C_NoPlace) (.ref C_NoSheet) = some false)
    (ne_NoPlace_NoText : (C_NoPlace == C_NoText) = false)
    (sb_NoPlace_NoText : PySem.W.subIn K (.ref C_NoPlace) (.ref C_NoText) = some false)
    (ne_NoPlace_NotKept : (C_NoPlace == C_NotKept) = false)
    (sb_NoPlace_NotKept : PySem.W.subIn K (.ref C_NoPlace) (.ref C_NotKept) = some false)
    (ne_NoPlace_NotLeast : (C_NoPlace == C_NotLeast) = false)
    (sb_NoPlace_NotLeast : PySem.W.subIn K (.ref C_NoPlace) (.ref C_NotLeast) = some false)
    (ne_NoPlace_NotWithin : (C_NoPlace == C_NotWithin) = false)
    (sb_NoPlace_NotWithin : PySem.W.subIn K (.ref C_NoPlace) (.ref C_NotWithin) = some false)
    (ne_NoPlace_OffSheet : (C_NoPlace == C_OffSheet) = false)
    (sb_NoPlace_OffSheet : PySem.W.subIn K (.ref C_NoPlace) (.ref C_OffSheet) = some false)
    (ne_NoPlace_TooMany : (C_NoPlace == C_TooMany) = false)
    (sb_NoPlace_TooMany : PySem.W.subIn K (.ref C_NoPlace) (.ref C_TooMany) = some false)
    (sb_NoPlace_ValueError : PySem.W.subIn K (.ref C_NoPlace) (.type "ValueError") = some true)
    (ne_NoPlace_CrystalError : (C_NoPlace == C_CrystalError) = false)
    (sb_NoPlace_CrystalError : PySem.W.subIn K (.ref C_NoPlace) (.ref C_CrystalError) = some true)
    (ne_OffSheet_NoChange : (C_OffSheet == C_NoChange) = false)
    (sb_OffSheet_NoChange : PySem.W.subIn K (.ref C_OffSheet) (.ref C_NoChange) = some false)
    (ne_OffSheet_NoDeed : (C_OffSheet == C_NoDeed) = false)
    (sb_OffSheet_NoDeed : PySem.W.subIn K (.ref C_OffSheet) (.ref C_NoDeed) = some false)
    (ne_OffSheet_NoDrawing : (C_OffSheet == C_NoDrawing) = false)
    (sb_OffSheet_NoDrawing : PySem.W.subIn K (.ref C_OffSheet) (.ref C_NoDrawing) = some false)
    (ne_OffSheet_NoForm : (C_OffSheet == C_NoForm) = false)
    (sb_OffSheet_NoForm : PySem.W.subIn K (.ref C_OffSheet) (.ref C_NoForm) = some false)
    (ne_OffSheet_NoName : (C_OffSheet == C_NoName) = false)
    (sb_OffSheet_NoName : PySem.W.subIn K (.ref C_OffSheet) (.ref C_NoName) = some false)
    (ne_OffSheet_NoNumber : (C_OffSheet == C_NoNumber) = false)
    (sb_OffSheet_NoNumber : PySem.W.subIn K (.ref C_OffSheet) (.ref C_NoNumber) = some false)
    (ne_OffSheet_NoPlace : (C_OffSheet == C_NoPlace) = false)
    (sb_OffSheet_NoPlace : PySem.W.subIn K (.ref C_OffSheet) (.ref C_NoPlace) = some false)
    (ne_OffSheet_NoRow : (C_OffSheet == C_NoRow) = false)
    (sb_OffSheet_NoRow : PySem.W.subIn K (.ref C_OffSheet) (.ref C_NoRow) = some false)
    (ne_OffSheet_NoSheet : (C_OffSheet == C_NoSheet) = false)
    (sb_OffSheet_NoSheet : PySem.W.subIn K (.ref C_OffSheet) (.ref C_NoSheet) = some false)
    (ne_OffSheet_NoText : (C_OffSheet == C_NoText) = false)
    (sb_OffSheet_NoText : PySem.W.subIn K (.ref C_OffSheet) (.ref C_NoText) = some false)
    (ne_OffSheet_NotKept : (C_OffSheet == C_NotKept) = false)
    (sb_OffSheet_NotKept : PySem.W.subIn K (.ref C_OffSheet) (.ref C_NotKept) = some false)
    (ne_OffSheet_NotLeast : (C_OffSheet == C_NotLeast) = false)
    (sb_OffSheet_NotLeast : PySem.W.subIn K (.ref C_OffSheet) (.ref C_NotLeast) = some false)
    (ne_OffSheet_NotWithin : (C_OffSheet == C_NotWithin) = false)
    (sb_OffSheet_NotWithin : PySem.W.subIn K (.ref C_OffSheet) (.ref C_NotWithin) = some false)
    (sb_OffSheet_OffSheet : PySem.W.subIn K (.ref C_OffSheet) (.ref C_OffSheet) = some true)
    (ne_OffSheet_TooMany : (C_OffSheet == C_TooMany) = false)
    (sb_OffSheet_TooMany : PySem.W.subIn K (.ref C_OffSheet) (.ref C_TooMany) = some false)
    (sb_OffSheet_ValueError : PySem.W.subIn K (.ref C_OffSheet) (.type "ValueError") = some true)
    (ne_OffSheet_CrystalError : (C_OffSheet == C_CrystalError) = false)
    (sb_OffSheet_CrystalError : PySem.W.subIn K (.ref C_OffSheet) (.ref C_CrystalError) = some true)
    (n_abs : PySem.W.nsIn K mainGlobals "abs" = some none)
    (n_bool : PySem.W.nsIn K mainGlobals "bool" = some none)
    (n_int : PySem.W.nsIn K mainGlobals "int" = some none)
    (n_isinstance : PySem.W.nsIn K mainGlobals "isinstance" = some none)
    (n_len : PySem.W.nsIn K mainGlobals "len" = some none)
    (n_max : PySem.W.nsIn K mainGlobals "max" = some none)
    (n_range : PySem.W.nsIn K mainGlobals "range" = some none)
    (n_sum : PySem.W.nsIn K mainGlobals "sum" = some none)
    (n_tuple : PySem.W.nsIn K mainGlobals "tuple" = some none)
    (n_zip : PySem.W.nsIn K mainGlobals "zip" = some none)
    (n_ValueError : PySem.W.nsIn K mainGlobals "ValueError" = some none)
    : ∃ fd : FuncData, (∀ (s : Shared) (v : Value), BindsTo s fd ⟨[v], []⟩ [("_law_script", v)]) ∧ ∀ base : Heap, K.In base → base.Ns mainGlobals mg → FnOk P w K mg base (L2N.CX P w) 7 fa fd ["_law_script"] (spL K) := by
  have e := hfa.symm.trans (PySem.W.mg_of X G a20)
  cases e
  have z_abs : mg "abs" = none := PySem.W.mg_none_of X G n_abs
  have z_bool : mg "bool" = none := PySem.W.mg_none_of X G n_bool
  have z_int : mg "int" = none := PySem.W.mg_none_of X G n_int
  have z_isinstance : mg "isinstance" = none := PySem.W.mg_none_of X G n_isinstance
  have z_len : mg "len" = none := PySem.W.mg_none_of X G n_len
  have z_max : mg "max" = none := PySem.W.mg_none_of X G n_max
  have z_range : mg "range" = none := PySem.W.mg_none_of X G n_range
  have z_sum : mg "sum" = none := PySem.W.mg_none_of X G n_sum
  have z_tuple : mg "tuple" = none := PySem.W.mg_none_of X G n_tuple
  have z_zip : mg "zip" = none := PySem.W.mg_none_of X G n_zip
  have z_ValueError : mg "ValueError" = none := PySem.W.mg_none_of X G n_ValueError
  have u_NoPlace : mg "NoPlace" = some (.ref C_NoPlace) := PySem.W.mg_of X G e_NoPlace
  have u_OffSheet : mg "OffSheet" = some (.ref C_OffSheet) := PySem.W.mg_of X G e_OffSheet
  have u_NoChange : mg "NoChange" = some (.ref C_NoChange) := PySem.W.mg_of X G e_NoChange
  have u_NoDeed : mg "NoDeed" = some (.ref C_NoDeed) := PySem.W.mg_of X G e_NoDeed
  have u_NoDrawing : mg "NoDrawing" = some (.ref C_NoDrawing) := PySem.W.mg_of X G e_NoDrawing
  have u_NoForm : mg "NoForm" = some (.ref C_NoForm) := PySem.W.mg_of X G e_NoForm
  have u_NoName : mg "NoName" = some (.ref C_NoName) := PySem.W.mg_of X G e_NoName
  have u_NoNumber : mg "NoNumber" = some (.ref C_NoNumber) := PySem.W.mg_of X G e_NoNumber
  have u_NoRow : mg "NoRow" = some (.ref C_NoRow) := PySem.W.mg_of X G e_NoRow
  have u_NoSheet : mg "NoSheet" = some (.ref C_NoSheet) := PySem.W.mg_of X G e_NoSheet
  have u_NoText : mg "NoText" = some (.ref C_NoText) := PySem.W.mg_of X G e_NoText
  have u_NotKept : mg "NotKept" = some (.ref C_NotKept) := PySem.W.mg_of X G e_NotKept
  have u_NotLeast : mg "NotLeast" = some (.ref C_NotLeast) := PySem.W.mg_of X G e_NotLeast
  have u_NotWithin : mg "NotWithin" = some (.ref C_NotWithin) := PySem.W.mg_of X G e_NotWithin
  have u_TooMany : mg "TooMany" = some (.ref C_TooMany) := PySem.W.mg_of X G e_TooMany
  have u_CrystalError : mg "CrystalError" = some (.ref C_CrystalError) := PySem.W.mg_of X G e_CrystalError
  have x_NoPlace : ExcR K mg "NoPlace" C_NoPlace := ⟨ex_NoPlace, u_NoPlace, ek_NoPlace, eb_NoPlace, et_NoPlace⟩
  have kt_NoPlace_NoChange := kit_own ne_NoPlace_NoChange hd_NoChange et_NoChange sb_NoPlace_NoChange
  have kt_NoPlace_NoDeed := kit_own ne_NoPlace_NoDeed hd_NoDeed et_NoDeed sb_NoPlace_NoDeed
  have kt_NoPlace_NoDrawing := kit_own ne_NoPlace_NoDrawing hd_NoDrawing et_NoDrawing sb_NoPlace_NoDrawing
  have kt_NoPlace_NoForm := kit_own ne_NoPlace_NoForm hd_NoForm et_NoForm sb_NoPlace_NoForm
  have kt_NoPlace_NoName := kit_own ne_NoPlace_NoName hd_NoName et_NoName sb_NoPlace_NoName
  have kt_NoPlace_NoNumber := kit_own ne_NoPlace_NoNumber hd_NoNumber et_NoNumber sb_NoPlace_NoNumber
  have kt_NoPlace_NoPlace : PySem.W.kitOne K (.ref C_NoPlace) (.ref C_NoPlace) = some true := kit_self
  have kt_NoPlace_NoRow := kit_own ne_NoPlace_NoRow hd_NoRow et_NoRow sb_NoPlace_NoRow
  have kt_NoPlace_NoSheet := kit_own ne_NoPlace_NoSheet hd_NoSheet et_NoSheet sb_NoPlace_NoSheet
  have kt_NoPlace_NoText := kit_own ne_NoPlace_NoText hd_NoText et_NoText sb_NoPlace_NoText
  have kt_NoPlace_NotKept := kit_own ne_NoPlace_NotKept hd_NotKept et_NotKept sb_NoPlace_NotKept
  have kt_NoPlace_NotLeast := kit_own ne_NoPlace_NotLeast hd_NotLeast et_NotLeast sb_NoPlace_NotLeast
  have kt_NoPlace_NotWithin := kit_own ne_NoPlace_NotWithin hd_NotWithin et_NotWithin sb_NoPlace_NotWithin
  have kt_NoPlace_OffSheet := kit_own ne_NoPlace_OffSheet hd_OffSheet et_OffSheet sb_NoPlace_OffSheet
  have kt_NoPlace_TooMany := kit_own ne_NoPlace_TooMany hd_TooMany et_TooMany sb_NoPlace_TooMany
  have kt_NoPlace_ValueError := kit_ty sb_NoPlace_ValueError (by decide +kernel)
  have cx_NoPlace_CrystalError := PySem.W.exm_ref eb_CrystalError hd_CrystalError et_CrystalError sb_NoPlace_CrystalError
  have q_NoPlace : L2.ExcC K C_NoPlace := ⟨hg_NoPlace, hk_NoPlace, eb_NoPlace, hd_NoPlace, ha_NoPlace, hn_NoPlace, ht_NoPlace, hm_NoPlace⟩
  have x_OffSheet : ExcR K mg "OffSheet" C_OffSheet := ⟨ex_OffSheet, u_OffSheet, ek_OffSheet, eb_OffSheet, et_OffSheet⟩
  have kt_OffSheet_NoChange := kit_own ne_OffSheet_NoChange hd_NoChange et_NoChange sb_OffSheet_NoChange
  have kt_OffSheet_NoDeed := kit_own ne_OffSheet_NoDeed hd_NoDeed et_NoDeed sb_OffSheet_NoDeed
  have kt_OffSheet_NoDrawing := kit_own ne_OffSheet_NoDrawing hd_NoDrawing et_NoDrawing sb_OffSheet_NoDrawing
  have kt_OffSheet_NoForm := kit_own ne_OffSheet_NoForm hd_NoForm et_NoForm sb_OffSheet_NoForm
  have kt_OffSheet_NoName := kit_own ne_OffSheet_NoName hd_NoName et_NoName sb_OffSheet_NoName
  have kt_OffSheet_NoNumber := kit_own ne_OffSheet_NoNumber hd_NoNumber et_NoNumber sb_OffSheet_NoNumber
  have kt_OffSheet_NoPlace := kit_own ne_OffSheet_NoPlace hd_NoPlace et_NoPlace sb_OffSheet_NoPlace
  have kt_OffSheet_NoRow := kit_own ne_OffSheet_NoRow hd_NoRow et_NoRow sb_OffSheet_NoRow
  have kt_OffSheet_NoSheet := kit_own ne_OffSheet_NoSheet hd_NoSheet et_NoSheet sb_OffSheet_NoSheet
  have kt_OffSheet_NoText := kit_own ne_OffSheet_NoText hd_NoText et_NoText sb_OffSheet_NoText
  have kt_OffSheet_NotKept := kit_own ne_OffSheet_NotKept hd_NotKept et_NotKept sb_OffSheet_NotKept
  have kt_OffSheet_NotLeast := kit_own ne_OffSheet_NotLeast hd_NotLeast et_NotLeast sb_OffSheet_NotLeast
  have kt_OffSheet_NotWithin := kit_own ne_OffSheet_NotWithin hd_NotWithin et_NotWithin sb_OffSheet_NotWithin
  have kt_OffSheet_OffSheet : PySem.W.kitOne K (.ref C_OffSheet) (.ref C_OffSheet) = some true := kit_self
  have kt_OffSheet_TooMany := kit_own ne_OffSheet_TooMany hd_TooMany et_TooMany sb_OffSheet_TooMany
  have kt_OffSheet_ValueError := kit_ty sb_OffSheet_ValueError (by decide +kernel)
  have cx_OffSheet_CrystalError := PySem.W.exm_ref eb_CrystalError hd_CrystalError et_CrystalError sb_OffSheet_CrystalError
  have q_OffSheet : L2.ExcC K C_OffSheet := ⟨hg_OffSheet, hk_OffSheet, eb_OffSheet, hd_OffSheet, ha_OffSheet, hn_OffSheet, ht_OffSheet, hm_OffSheet⟩
  have TO : TabOk K mg tab := (tabOk_cons ⟨⟨C_NoPlace, .ref C_NoChange, .ref C_NoChange, u_NoPlace, .inl u_NoChange, .own _, rfl, kt_NoPlace_NoChange, q_NoPlace⟩⟩ (tabOk_cons ⟨⟨C_NoPlace, .ref C_NoDeed, .ref C_NoDeed, u_NoPlace, .inl u_NoDeed, .own _, rfl, kt_NoPlace_NoDeed, q_NoPlace⟩⟩ (tabOk_cons ⟨⟨C_NoPlace, .ref C_NoDrawing, .ref C_NoDrawing, u_NoPlace, .inl u_NoDrawing, .own _, rfl, kt_NoPlace_NoDrawing, q_NoPlace⟩⟩ (tabOk_cons ⟨⟨C_NoPlace, .ref C_NoForm, .ref C_NoForm, u_NoPlace, .inl u_NoForm, .own _, rfl, kt_NoPlace_NoForm, q_NoPlace⟩⟩ (tabOk_cons ⟨⟨C_NoPlace, .ref C_NoName, .ref C_NoName, u_NoPlace, .inl u_NoName, .own _, rfl, kt_NoPlace_NoName, q_NoPlace⟩⟩ (tabOk_cons ⟨⟨C_NoPlace, .ref C_NoNumber, .ref C_NoNumber, u_NoPlace, .inl u_NoNumber, .own _, rfl, kt_NoPlace_NoNumber, q_NoPlace⟩⟩ (tabOk_cons ⟨⟨C_NoPlace, .ref C_NoPlace, .ref C_NoPlace, u_NoPlace, .inl u_NoPlace, .own _, rfl, kt_NoPlace_NoPlace, q_NoPlace⟩⟩ (tabOk_cons ⟨⟨C_NoPlace, .ref C_NoRow, .ref C_NoRow, u_NoPlace, .inl u_NoRow, .own _, rfl, kt_NoPlace_NoRow, q_NoPlace⟩⟩ (tabOk_cons ⟨⟨C_NoPlace, .ref C_NoSheet, .ref C_NoSheet, u_NoPlace, .inl u_NoSheet, .own _, rfl, kt_NoPlace_NoSheet, q_NoPlace⟩⟩ (tabOk_cons ⟨⟨C_NoPlace, .ref C_NoText, .ref C_NoText, u_NoPlace, .inl u_NoText, .own _, rfl, kt_NoPlace_NoText, q_NoPlace⟩⟩ (tabOk_cons ⟨⟨C_NoPlace, .ref C_NotKept, .ref C_NotKept, u_NoPlace, .inl u_NotKept, .own _, rfl, kt_NoPlace_NotKept, q_NoPlace⟩⟩ (tabOk_cons ⟨⟨C_NoPlace, .ref C_NotLeast, .ref C_NotLeast, u_NoPlace, .inl u_NotLeast, .own _, rfl, kt_NoPlace_NotLeast, q_NoPlace⟩⟩ (tabOk_cons ⟨⟨C_NoPlace, .ref C_NotWithin, .ref C_NotWithin, u_NoPlace, .inl u_NotWithin, .own _, rfl, kt_NoPlace_NotWithin, q_NoPlace⟩⟩ (tabOk_cons ⟨⟨C_NoPlace, .ref C_OffSheet, .ref C_OffSheet, u_NoPlace, .inl u_OffSheet, .own _, rfl, kt_NoPlace_OffSheet, q_NoPlace⟩⟩ (tabOk_cons ⟨⟨C_NoPlace, .ref C_TooMany, .ref C_TooMany, u_NoPlace, .inl u_TooMany, .own _, rfl, kt_NoPlace_TooMany, q_NoPlace⟩⟩ (tabOk_cons ⟨⟨C_NoPlace, .ty "ValueError", .type "ValueError", u_NoPlace, .inr ⟨z_ValueError, by decide +kernel⟩, .ty _, rfl, kt_NoPlace_ValueError, q_NoPlace⟩⟩ (tabOk_cons ⟨⟨C_OffSheet, .ref C_NoChange, .ref C_NoChange, u_OffSheet, .inl u_NoChange, .own _, rfl, kt_OffSheet_NoChange, q_OffSheet⟩⟩ (tabOk_cons ⟨⟨C_OffSheet, .ref C_NoDeed, .ref C_NoDeed, u_OffSheet, .inl u_NoDeed, .own _, rfl, kt_OffSheet_NoDeed, q_OffSheet⟩⟩ (tabOk_cons ⟨⟨C_OffSheet, .ref C_NoDrawing, .ref C_NoDrawing, u_OffSheet, .inl u_NoDrawing, .own _, rfl, kt_OffSheet_NoDrawing, q_OffSheet⟩⟩ (tabOk_cons ⟨⟨C_OffSheet, .ref C_NoForm, .ref C_NoForm, u_OffSheet, .inl u_NoForm, .own _, rfl, kt_OffSheet_NoForm, q_OffSheet⟩⟩ (tabOk_cons ⟨⟨C_OffSheet, .ref C_NoName, .ref C_NoName, u_OffSheet, .inl u_NoName, .own _, rfl, kt_OffSheet_NoName, q_OffSheet⟩⟩ (tabOk_cons ⟨⟨C_OffSheet, .ref C_NoNumber, .ref C_NoNumber, u_OffSheet, .inl u_NoNumber, .own _, rfl, kt_OffSheet_NoNumber, q_OffSheet⟩⟩ (tabOk_cons ⟨⟨C_OffSheet, .ref C_NoPlace, .ref C_NoPlace, u_OffSheet, .inl u_NoPlace, .own _, rfl, kt_OffSheet_NoPlace, q_OffSheet⟩⟩ (tabOk_cons ⟨⟨C_OffSheet, .ref C_NoRow, .ref C_NoRow, u_OffSheet, .inl u_NoRow, .own _, rfl, kt_OffSheet_NoRow, q_OffSheet⟩⟩ (tabOk_cons ⟨⟨C_OffSheet, .ref C_NoSheet, .ref C_NoSheet, u_OffSheet, .inl u_NoSheet, .own _, rfl, kt_OffSheet_NoSheet, q_OffSheet⟩⟩ (tabOk_cons ⟨⟨C_OffSheet, .ref C_NoText, .ref C_NoText, u_OffSheet, .inl u_NoText, .own _, rfl, kt_OffSheet_NoText, q_OffSheet⟩⟩ (tabOk_cons ⟨⟨C_OffSheet, .ref C_NotKept, .ref C_NotKept, u_OffSheet, .inl u_NotKept, .own _, rfl, kt_OffSheet_NotKept, q_OffSheet⟩⟩ (tabOk_cons ⟨⟨C_OffSheet, .ref C_NotLeast, .ref C_NotLeast, u_OffSheet, .inl u_NotLeast, .own _, rfl, kt_OffSheet_NotLeast, q_OffSheet⟩⟩ (tabOk_cons ⟨⟨C_OffSheet, .ref C_NotWithin, .ref C_NotWithin, u_OffSheet, .inl u_NotWithin, .own _, rfl, kt_OffSheet_NotWithin, q_OffSheet⟩⟩ (tabOk_cons ⟨⟨C_OffSheet, .ref C_OffSheet, .ref C_OffSheet, u_OffSheet, .inl u_OffSheet, .own _, rfl, kt_OffSheet_OffSheet, q_OffSheet⟩⟩ (tabOk_cons ⟨⟨C_OffSheet, .ref C_TooMany, .ref C_TooMany, u_OffSheet, .inl u_TooMany, .own _, rfl, kt_OffSheet_TooMany, q_OffSheet⟩⟩ (tabOk_cons ⟨⟨C_OffSheet, .ty "ValueError", .type "ValueError", u_OffSheet, .inr ⟨z_ValueError, by decide +kernel⟩, .ty _, rfl, kt_OffSheet_ValueError, q_OffSheet⟩⟩ tabOk_nil))))))))))))))))))))))))))))))))
  have TC : CatOk K mg cat := (catOk_cons ⟨C_NoPlace, .ref C_CrystalError, u_NoPlace, u_CrystalError, cx_NoPlace_CrystalError⟩ (catOk_cons ⟨C_OffSheet, .ref C_CrystalError, u_OffSheet, u_CrystalError, cx_OffSheet_CrystalError⟩ catOk_nil))
  refine ⟨PySem.W.fnOf "law" "law" (defArgs s_law) (defBody s_law) (defScope s_law) .none kV20 dc20 pm20 an20 cd20 ct20, fun s v => .of_eq rfl, fun base hB hG => ?_⟩
  all_goals skip
  have c_divisor := (ok_divisor (P := P) (w := w) (base := base) (fun_mk (st := s_divisor) l1 c1 k1) (PySem.W.mg_of X G a1) z_abs).2
  have c_place := (ok_place (P := P) (w := w) (base := base) (fun_mk (st := s_place) l2 c2 k2) (PySem.W.mg_of X G a2) c_divisor z_abs z_len z_tuple x_NoPlace).2
  have c_rows_led := (ok_rows_led (P := P) (w := w) (base := base) (fun_mk (st := s_rows_led) l3 c3 k3) (PySem.W.mg_of X G a3) z_len z_range z_sum).2
  have c_moved := (ok_moved (P := P) (w := w) (base := base) (fun_mk (st := s_moved) l4 c4 k4) (PySem.W.mg_of X G a4) c_rows_led c_place z_len z_range).2
  have c_grid_spot := (ok_grid_spot (P := P) (w := w) (base := base) (fun_mk (st := s_grid_spot) l5 c5 k5) (PySem.W.mg_of X G a5) ).2
  have c_grid_reached := (ok_grid_reached (P := P) (w := w) (base := base) (fun_mk (st := s_grid_reached) l6 c6 k6) (PySem.W.mg_of X G a6) c_grid_spot c_moved c_place x_OffSheet).2
  have c_lays := (ok_lays (P := P) (w := w) (base := base) (fun_mk (st := s_lays) l7 c7 k7) (PySem.W.mg_of X G a7) c_grid_reached z_len z_range x_OffSheet).2
  have c_law_cell_at := (ok_law_cell_at (P := P) (w := w) (base := base) (fun_mk (st := s_law_cell_at) l8 c8 k8) (PySem.W.mg_of X G a8) z_len).2
  have c_law_whole := (ok_law_whole (P := P) (w := w) (base := base) (fun_mk (st := s_law_whole) l9 c9 k9) (PySem.W.mg_of X G a9) z_bool z_int z_isinstance).2
  have c_law_common := (ok_law_common (P := P) (w := w) (base := base) (fun_mk (st := s_law_common) l10 c10 k10) (PySem.W.mg_of X G a10) z_abs).2
  have c_law_drawing := (ok_law_drawing (P := P) (w := w) (base := base) (fun_mk (st := s_law_drawing) l11 c11 k11) (PySem.W.mg_of X G a11) z_range z_tuple).2
  have c_law_times := (ok_law_times (P := P) (w := w) (base := base) (fun_mk (st := s_law_times) l12 c12 k12) (PySem.W.mg_of X G a12) z_len z_range z_sum).2
  have c_law_rows := (ok_law_rows (P := P) (w := w) (base := base) (fun_mk (st := s_law_rows) l13 c13 k13) (PySem.W.mg_of X G a13) c_law_times z_range).2
  have c_law_deed := (ok_law_deed (P := P) (w := w) (base := base) (fun_mk (st := s_law_deed) l14 c14 k14) (PySem.W.mg_of X G a14) c_law_rows c_law_common z_len z_tuple).2
  have c_law_reached := (ok_law_reached (P := P) (w := w) (base := base) (fun_mk (st := s_law_reached) l15 c15 k15) (PySem.W.mg_of X G a15) z_zip).2
  have c_law_due := (ok_law_due (P := P) (w := w) (base := base) (fun_mk (st := s_law_due) l16 c16 k16) (PySem.W.mg_of X G a16) c_law_reached z_len z_range).2
  have h_law_others := (ok_law_others (P := P) (w := w) (base := base) (fun_mk (st := s_law_others) l17 c17 k17) (PySem.W.mg_of X G a17) z_isinstance TO).2
  have h_law_only := (ok_law_only (P := P) (w := w) (base := base) (fun_mk (st := s_law_only) l18 c18 k18) (PySem.W.mg_of X G a18) h_law_others z_isinstance TO).2
  have c_law_right := (ok_law_right (P := P) (w := w) (base := base) (fun_mk (st := s_law_right) l19 c19 k19) (PySem.W.mg_of X G a19) c_lays c_law_whole h_law_only z_isinstance z_len z_tuple u_CrystalError TC).2
  exact law_of (ok_law (P := P) (w := w) (base := base) (fun_mk (st := s_law) l20 c20 k20) (PySem.W.mg_of X G a20) c_law_cell_at c_law_drawing c_law_deed c_law_due c_law_right z_len z_max z_range z_tuple).1 hlaw
-- NAMES: G_crystalwords_k82_lays.dv_2, G_crystalwords_k82_lays.dv_3, G_crystalwords_k82_lays.dv_4, G_crystalwords_k82_lays.dv_6, G_crystalwords_k82_lays.dv_7, G_crystalwords_k82_lays.dv_16, G_crystalwords_k82_lays.dv_19, G_crystalwords_k82_lays.dv_36, G_crystalwords_k82_lays.dv_72, G_crystalwords_k82_lays.nz_2, G_crystalwords_k82_lays.nz_3, G_crystalwords_k82_lays.nz_4, G_crystalwords_k82_lays.nz_5, G_crystalwords_k82_lays.nz_6, G_crystalwords_k82_lays.nz_12, G_crystalwords_k82_lays.nz_19, G_crystalwords_k82_lays.pw_10_12, G_crystalwords_k82_lays.pw_10_20, G_crystalwords_k82_lays.t_NoPlace_NoChange, G_crystalwords_k82_lays.t_NoPlace_NoDeed, G_crystalwords_k82_lays.t_NoPlace_NoDrawing, G_crystalwords_k82_lays.t_NoPlace_NoForm, G_crystalwords_k82_lays.t_NoPlace_NoName, G_crystalwords_k82_lays.t_NoPlace_NoNumber, G_crystalwords_k82_lays.t_NoPlace_NoPlace, G_crystalwords_k82_lays.t_NoPlace_NoRow, G_crystalwords_k82_lays.t_NoPlace_NoSheet, G_crystalwords_k82_lays.t_NoPlace_NoText, G_crystalwords_k82_lays.t_NoPlace_NotKept, G_crystalwords_k82_lays.t_NoPlace_NotLeast, G_crystalwords_k82_lays.t_NoPlace_NotWithin, G_crystalwords_k82_lays.t_NoPlace_OffSheet, G_crystalwords_k82_lays.t_NoPlace_TooMany, G_crystalwords_k82_lays.t_NoPlace_ValueError, G_crystalwords_k82_lays.t_OffSheet_NoChange, G_crystalwords_k82_lays.t_OffSheet_NoDeed, G_crystalwords_k82_lays.t_OffSheet_NoDrawing, G_crystalwords_k82_lays.t_OffSheet_NoForm, G_crystalwords_k82_lays.t_OffSheet_NoName, G_crystalwords_k82_lays.t_OffSheet_NoNumber, G_crystalwords_k82_lays.t_OffSheet_NoPlace, G_crystalwords_k82_lays.t_OffSheet_NoRow, G_crystalwords_k82_lays.t_OffSheet_NoSheet, G_crystalwords_k82_lays.t_OffSheet_NoText, G_crystalwords_k82_lays.t_OffSheet_NotKept, G_crystalwords_k82_lays.t_OffSheet_NotLeast, G_crystalwords_k82_lays.t_OffSheet_NotWithin, G_crystalwords_k82_lays.t_OffSheet_OffSheet, G_crystalwords_k82_lays.t_OffSheet_TooMany, G_crystalwords_k82_lays.t_OffSheet_ValueError, G_crystalwords_k82_lays.t_NoPlace_CrystalError_c, G_crystalwords_k82_lays.t_OffSheet_CrystalError_c
end G_crystalwords_k82_lays

local macro_rules | `(tactic| walk_at "dl") => `(tactic| try simp -implicitDefEqProofs only [Bool.true_eq_false, DL.wipeE, DL.at0, DL.at1, DL.at2, DL.nc0, DL.nc1, DL.nc2, DL.nc3, DL.nc4, DL.nc5, not_true_eq_false, not_false_eq_true, eq_self, ne_eq,  DL.sz0, DL.sz1, DL.sz2, DL.sz3, DL.sz4, DL.sz5, DL.sz6, DL.a_seq, DL.a_listL, DL.a_listT, DL.a_tupleL, DL.a_tupleT, DL.a_sum, DL.a_isiT, DL.a_isiL, DL.a_isiS, DL.k_tt, DL.k_lt, DL.k_tl, DL.k_ll, DL.k_it, DL.k_il, DL.k_ss, DL.k_st, DL.k_ti, DL.k_li, DL.k_tb, DL.k_lb, DL.a_isE, DL.a_callE, DL.a_reok, DL.a_try, DL.a_tok, DL.a_texc, DL.a_cT, DL.a_cF, DL.a_unN, DL.a_unR, DL.a_slice, DL.a_oNone, DL.a_oSome, DL.a_dSlL, DL.a_dSlT, DL.a_ret, DL.a_stk, DL.a_bnd, DL.a_rok, DL.a_rexc, DL.a_rst, DL.a_rite, DL.a_var, DL.a_oval, DL.a_oown, DL.a_m2, DL.a_g2i, DL.a_add, DL.a_mAdd, DL.a_sub, DL.a_mul, DL.a_div, DL.a_mod, DL.a_pow, DL.a_shr, DL.a_cmp, DL.a_eq, DL.a_ne, DL.eqOk_ii, DL.deq_ii, DL.a_u1i, DL.a_mB, DL.a_truB, DL.a_truI, DL.a_truN, DL.a_truL, DL.a_truT, DL.a_bAnd, DL.a_bOr, DL.a_bNot, DL.a_vAnd, DL.a_vOr, DL.a_vNot, DL.a_if, DL.a_ite, DL.a_aNil, DL.a_aCons, DL.a_tup, DL.a_lst, DL.a_c1i, DL.a_c2i, DL.a_cIntI, DL.a_cIntB, DL.a_lenL, DL.a_lenT, DL.a_lenS, DL.a_nx, DL.a_sq, DL.a_snx, DL.a_srt, DL.a_sbk, DL.a_sct, DL.a_sexc, DL.a_sst, DL.a_site, DL.a_asg, DL.a_mRet, DL.a_drop, DL.a_aug, DL.a_oA, DL.a_gN, DL.a_gsNil, DL.a_gsCons, DL.a_gTpT, DL.a_gTpL, DL.a_asgT, DL.a_par, DL.a_again, DL.a_gnx, DL.a_gct, DL.a_gbk, DL.a_grt, DL.a_gexc, DL.a_gite, DL.a_rng1, DL.a_rng2, DL.a_raise, DL.a_call, DL.a_rsok, DL.a_rsexc, DL.a_rsst, DL.a_has, DL.a_hval, DL.a_hown, DL.a_onSl, DL.a_slD, DL.a_oDv, DL.a_oDo, DL.a_oDs, DL.a_ixN, DL.a_mIxI, DL.a_dIxL, DL.a_dIxT, DL.a_oM, DL.a_isiI, DL.a_isiB, DL.a_kM, DL.k_ii, DL.k_ib, DL.k_bi, DL.k_bb, DL.a_runF, DL.a_rFrt, DL.a_rFnx, DL.a_rFexc, DL.a_rFite, DL.envOf, List.map_cons, List.map_nil, List.length_cons, List.length_nil, List.cons_append, List.nil_append, List.getElem?_cons_zero, List.getElem?_cons_succ, List.set_cons_zero, List.set_cons_succ, List.replicate, if_true, if_false, Bool.false_eq_true, reduceIte, List.length_map, Nat.reduceAdd, Nat.reduceSub, Nat.zero_add, decide_eq_true_eq, Bool.not_eq_true', decide_eq_false_iff_not, Bool.not_true, Bool.not_false, DL.a_xStr, DL.a_dSplit, DL.a_dJoinL, DL.a_dJoinT, DL.a_dIn, DL.a_inF, DL.a_inT, DL.sgn_one, DL.a_mOwn, DL.a_mFl, DL.a_unL, DL.a_uLok, DL.a_ownAt, DL.a_oOw, DL.a_app, DL.a_aP, DL.a_kApp, DL.a_kA, DL.a_setI, DL.a_sI, DL.a_kSet, DL.a_kS, DL.a_kN, DL.a_frz1, DL.a_fZ, DL.a_rng3, DL.a_mAddS, DL.a_mAddL, DL.a_dIxS, DL.a_dSlS, DL.isN_n, DL.isN_t, DL.isN_l, DL.isN_i, DL.isN_s, DL.at3, DL.at4, DL.at5, DL.at6, DL.at7, G_crystalwords_k82_lays.dv_2, G_crystalwords_k82_lays.dv_3, G_crystalwords_k82_lays.dv_4, G_crystalwords_k82_lays.dv_6, G_crystalwords_k82_lays.dv_7, G_crystalwords_k82_lays.dv_16, G_crystalwords_k82_lays.dv_19, G_crystalwords_k82_lays.dv_36, G_crystalwords_k82_lays.dv_72, G_crystalwords_k82_lays.nz_2, G_crystalwords_k82_lays.nz_3, G_crystalwords_k82_lays.nz_4, G_crystalwords_k82_lays.nz_5, G_crystalwords_k82_lays.nz_6, G_crystalwords_k82_lays.nz_12, G_crystalwords_k82_lays.nz_19, G_crystalwords_k82_lays.pw_10_12, G_crystalwords_k82_lays.pw_10_20, G_crystalwords_k82_lays.t_NoPlace_NoChange, G_crystalwords_k82_lays.t_NoPlace_NoDeed, G_crystalwords_k82_lays.t_NoPlace_NoDrawing, G_crystalwords_k82_lays.t_NoPlace_NoForm, G_crystalwords_k82_lays.t_NoPlace_NoName, G_crystalwords_k82_lays.t_NoPlace_NoNumber, G_crystalwords_k82_lays.t_NoPlace_NoPlace, G_crystalwords_k82_lays.t_NoPlace_NoRow, G_crystalwords_k82_lays.t_NoPlace_NoSheet, G_crystalwords_k82_lays.t_NoPlace_NoText, G_crystalwords_k82_lays.t_NoPlace_NotKept, G_crystalwords_k82_lays.t_NoPlace_NotLeast, G_crystalwords_k82_lays.t_NoPlace_NotWithin, G_crystalwords_k82_lays.t_NoPlace_OffSheet, G_crystalwords_k82_lays.t_NoPlace_TooMany, G_crystalwords_k82_lays.t_NoPlace_ValueError, G_crystalwords_k82_lays.t_OffSheet_NoChange, G_crystalwords_k82_lays.t_OffSheet_NoDeed, G_crystalwords_k82_lays.t_OffSheet_NoDrawing, G_crystalwords_k82_lays.t_OffSheet_NoForm, G_crystalwords_k82_lays.t_OffSheet_NoName, G_crystalwords_k82_lays.t_OffSheet_NoNumber, G_crystalwords_k82_lays.t_OffSheet_NoPlace, G_crystalwords_k82_lays.t_OffSheet_NoRow, G_crystalwords_k82_lays.t_OffSheet_NoSheet, G_crystalwords_k82_lays.t_OffSheet_NoText, G_crystalwords_k82_lays.t_OffSheet_NotKept, G_crystalwords_k82_lays.t_OffSheet_NotLeast, G_crystalwords_k82_lays.t_OffSheet_NotWithin, G_crystalwords_k82_lays.t_OffSheet_OffSheet, G_crystalwords_k82_lays.t_OffSheet_TooMany, G_crystalwords_k82_lays.t_OffSheet_ValueError, G_crystalwords_k82_lays.t_NoPlace_CrystalError_c, G_crystalwords_k82_lays.t_OffSheet_CrystalError_c])
namespace G_crystalwords_k82_lays
open PySem PySem.Spec PyProof.Rows L2 DL
theorem e_divisor (a b : Int) : F_divisor [.int a, .int b] = .ok (.int (gd a b)) := e_gcd a b
theorem e_common (a b : Int) : F_law_common [.int a, .int b] = .ok (.int (gd a b)) := e_gcd a b
def PL (u : Int) (ns : List Int) : D := .tup [iT (pts u ns), .int (pun u ns)]
theorem place_loop : ∀ (ns : List Int) (x0 x1 x3 : Sl) (b : Int), x3.nown = true → ∃ x3', forL (gN 3) (mAsg 2 (mCall (aCons (mVar 2) (aCons (mVar 3) aNil)) F_divisor)) (ns.map .int) [x0, x1, .val (.int b), x3] = .ok .nx [x0, x1, .val (.int (gdl b ns)), x3'] ∧ x3'.nown = true
  | [], x0, x1, x3, b, h => ⟨x3, rfl, h⟩
  | n :: r, x0, x1, x3, b, h => by
    obtain ⟨x3', h1, h2⟩ := place_loop r x0 x1 (.val (.int n)) (gd b n) rfl
    refine ⟨x3', ?_, h2⟩
    rw [List.map_cons, forL_cons]
    walk_at "dl"
    rw [e_divisor]
    walk_at "dl"
    exact h1
theorem lc_div {d : D} {ns : List Int} (hd : d = iL ns ∨ d = iT ns) (x1 x3 : Sl) (B : Int) (h3 : x3.nown = true) (hB : DivOk B) (hl : ns.length ≤ 1000) : mLc [3] (mSeq (mVar 0)) (gN 3) (ret true) (m2 (mVar 3) (mVar 2) (g2i iDiv)) [.val d, x1, .val (.int B), x3] = .ok (iL (ns.map fun n => n.fdiv B)) [.val d, x1, .val (.int B), x3] := by
  refine mLc_ints (ns := ns) _ ?_ ?_ rfl (le_size (by omega)) fun n _ => ⟨_, _, rfl, by walk_at "dl"; rw [if_pos hB], by rfl⟩
  · rcases hd with rfl | rfl <;> walk_at "dl"
  · cases x3 <;> first | rfl | cases h3
theorem e_place {u : Int} {ns : List Int} {d : D} (hd : d = iL ns ∨ d = iT ns) (hu : u ≠ 0) (hn : ns ≠ []) (hl : ns.length ≤ 1000) (hb : ib u ≤ 8000) : F_place [d, .int u] = .ok (PL u ns) := by
  have hB : DivOk (pby u ns) := divOk_of (pby_ne hu) (ib_dvd pby_dvd.1 hu hb) (by decide)
  have hlen : ((ns.length : Nat) : Int) ≠ 0 := by
    intro h
    exact hn (List.length_eq_zero_iff.mp (by omega))
  obtain ⟨x3', h1, h2⟩ := place_loop ns (.val d) (.val (.int u)) .no u.natAbs rfl
  have h3 := lc_div hd (.val (.int u)) x3' (pby u ns) h2 hB hl
  unfold F_place b_place
  rcases hd with rfl | rfl
  all_goals
    walk_at "dl"
    rw [if_neg hu, if_neg hlen, iAbs_eq, h1]
    walk_at "dl"
    by_cases hs : u < 0
    · have e : pby u ns = -gdl u.natAbs ns := by unfold pby; rw [if_pos hs]
      rw [if_pos hs]
      rw [← e, h3]
      walk_at "dl"
      rw [if_pos hB]
      walk_at "dl"
      rfl
    · have e : pby u ns = gdl u.natAbs ns := by unfold pby; rw [if_neg hs]
      rw [if_neg hs]
      walk_at "dl"
      rw [← e, h3]
      walk_at "dl"
      rw [if_pos hB]
      walk_at "dl"
      rfl

/-! moved -/
theorem mi {a b : Int} {m n : Nat} (ha : ib a ≤ m) (hb : ib b ≤ n) (h : m + n ≤ 100000 := by decide) : IntMulOk a b := IntMulOk.of_le ha hb (Nat.le_trans h (by decide))
theorem led_in {a b p q : Int} (ha : ib a ≤ 200) (hb : ib b ≤ 200) (hp : ib p ≤ 1000) (hq : ib q ≤ 1000) (x0 x2 : Sl) (h2 : x2.nown = true) :
    (mLc [2] (mRng1 (aCons (has 1 (onSl 1 fun d => cLen [d])) aNil)) (gN 2) (ret true) (m2 (mIxN 3 (mVar 2)) (mIxN 1 (mVar 2)) (g2i iMul))) [x0, .val (iT [p, q]), x2, .val (iT [a, b])] = .ok (iL [a * p, b * q]) [x0, .val (iT [p, q]), x2, .val (iT [a, b])] := by
  have h := mLc_rng (vs := [2]) (fi := (mRng1 (aCons (has 1 (onSl 1 fun d => cLen [d])) aNil))) (g := gN 2) (el := (m2 (mIxN 3 (mVar 2)) (mIxN 1 (mVar 2)) (g2i iMul))) (e := [x0, .val (iT [p, q]), x2, .val (iT [a, b])]) (e0 := [x0, .val (iT [p, q]), x2, .val (iT [a, b])]) (m := 2) (fun k => ([a, b] : List Int).getD k 0 * ([p, q] : List Int).getD k 0) (by
    walk_at "dl"
    rw [if_pos (by decide)]
    rfl) (by cases x2 <;> first | rfl | cases h2) rfl (by decide) fun k hk => ⟨_, _, rfl, by
      have hab : IntMulOk (([a, b] : List Int).getD k 0) (([p, q] : List Int).getD k 0) := by
        have : k = 0 ∨ k = 1 := by omega
        rcases this with rfl | rfl
        · exact mi ha hp
        · exact mi hb hq
      have e1 : atI [D.int a, D.int b] (k : Int) = some (.int (([a, b] : List Int).getD k 0)) := atK (ns := [a, b]) hk
      have e2 : atI [D.int p, D.int q] (k : Int) = some (.int (([p, q] : List Int).getD k 0)) := atK (ns := [p, q]) hk
      walk_at "dl"
      rw [e1]
      walk_at "dl"
      rw [e2]
      walk_at "dl"
      rw [if_pos hab], by rfl⟩
  exact h
def ledF (p q : Int) (d : D) : D := match d with | .tup [.int a, .int b] => .int (a * p + b * q) | d => d
theorem e_led {a b c d p q : Int} (ha : ib a ≤ 200) (hb : ib b ≤ 200) (hc : ib c ≤ 200) (hd : ib d ≤ 200) (hp : ib p ≤ 1000) (hq : ib q ≤ 1000) : F_rows_led [.tup [iT [a, b], iT [c, d]], iT [p, q]] = .ok (iL [a * p + b * q, c * p + d * q]) := by
  have row : ∀ a b : Int, ib a ≤ 200 → ib b ≤ 200 → ∀ w : D, (bnd (aCons (mLc [2] (mRng1 (aCons (has 1 (onSl 1 fun d => cLen [d])) aNil)) (gN 2) (ret true) (m2 (mIxN 3 (mVar 2)) (mIxN 1 (mVar 2)) (g2i iMul))) aNil) cSum) [.val w, .val (iT [p, q]), .no, .val (iT [a, b])] = .ok (.int (a * p + b * q)) [.val w, .val (iT [p, q]), .no, .val (iT [a, b])] := fun a b ha hb w => by
    walk_at "dl"
    rw [led_in ha hb hp hq _ _ rfl]
    walk_at "dl"
    simp only [List.sum_cons, List.sum_nil, Int.add_zero]
  have h := mLc_map (vs := [3]) (fi := (mSeq (mVar 0))) (g := gN 3) (el := (bnd (aCons (mLc [2] (mRng1 (aCons (has 1 (onSl 1 fun d => cLen [d])) aNil)) (gN 2) (ret true) (m2 (mIxN 3 (mVar 2)) (mIxN 1 (mVar 2)) (g2i iMul))) aNil) cSum)) (e := [.val (.tup [iT [a, b], iT [c, d]]), .val (iT [p, q]), .no, .no]) (e0 := [.val (.tup [iT [a, b], iT [c, d]]), .val (iT [p, q]), .no, .no]) (ds := [iT [a, b], iT [c, d]]) (ledF p q) (by walk_at "dl") rfl rfl (le_size (n := 2) (by decide)) fun dd hdd => by
      rw [List.mem_cons, List.mem_singleton] at hdd
      rcases hdd with rfl | rfl
      · exact ⟨_, _, rfl, row a b ha hb _, rfl⟩
      · exact ⟨_, _, rfl, row c d hc hd _, rfl⟩
  unfold F_rows_led b_rows_led
  walk_at "dl"
  rw [h]
  walk_at "dl"
  rfl
/-- a deed of the plane -/
abbrev dd2 (a b c d t0 t1 u : Int) : D := .tup [.tup [iT [a, b], iT [c, d]], iT [t0, t1], .int u]
theorem e_moved {a b c d t0 t1 u p q w : Int} (ha : ib a ≤ 200) (hb : ib b ≤ 200) (hc : ib c ≤ 200) (hd : ib d ≤ 200) (hp : ib p ≤ 1000) (hq : ib q ≤ 1000) (h0 : ib t0 ≤ 500) (h1 : ib t1 ≤ 500) (hu : ib u ≤ 200) (hw : ib w ≤ 1000) (u0 : u ≠ 0) (w0 : w ≠ 0) :
    F_moved [dd2 a b c d t0 t1 u, .tup [iT [p, q], .int w]] = .ok (PL (u * w) [(a * p + b * q) * u + t0 * w, (c * p + d * q) * u + t1 * w]) := by
  have bf0 : ib (a * p + b * q) ≤ 1201 := intBits_add_le (intBits_mul_le ha hp) (intBits_mul_le hb hq)
  have bf1 : ib (c * p + d * q) ≤ 1201 := intBits_add_le (intBits_mul_le hc hp) (intBits_mul_le hd hq)
  have uw : u * w ≠ 0 := Int.mul_ne_zero u0 w0
  have buw : ib (u * w) ≤ 1200 := intBits_mul_le hu hw
  have h := mLc_rng (vs := [6]) (fi := (mRng1 (aCons (has 3 (onSl 3 fun d => cLen [d])) aNil))) (g := gN 6) (el := (m2 (m2 (mIxN 5 (mVar 6)) (mVar 4) (g2i iMul)) (m2 (mIxN 3 (mVar 6)) (mIxN 1 (ret (.int 1))) (g2i iMul)) mAdd)) (e := [.val (dd2 a b c d t0 t1 u), .val (.tup [iT [p, q], .int w]), .val (.tup [iT [a, b], iT [c, d]]), .val (iT [t0, t1]), .val (.int u), .val (iL [a * p + b * q, c * p + d * q]), .no]) (e0 := [.val (dd2 a b c d t0 t1 u), .val (.tup [iT [p, q], .int w]), .val (.tup [iT [a, b], iT [c, d]]), .val (iT [t0, t1]), .val (.int u), .val (iL [a * p + b * q, c * p + d * q]), .no]) (m := 2) (fun k => ([a * p + b * q, c * p + d * q] : List Int).getD k 0 * u + ([t0, t1] : List Int).getD k 0 * w) (by
    walk_at "dl"
    rw [if_pos (by decide)]
    rfl) rfl rfl (by decide) fun k hk => ⟨_, _, rfl, by
      have k01 : k = 0 ∨ k = 1 := by omega
      have m1 : IntMulOk (([a * p + b * q, c * p + d * q] : List Int).getD k 0) u := by
        rcases k01 with rfl | rfl
        · exact mi bf0 hu
        · exact mi bf1 hu
      have m2 : IntMulOk (([t0, t1] : List Int).getD k 0) w := by
        rcases k01 with rfl | rfl
        · exact mi h0 hw
        · exact mi h1 hw
      have e1 : atI [D.int (a * p + b * q), D.int (c * p + d * q)] (k : Int) = some (.int (([a * p + b * q, c * p + d * q] : List Int).getD k 0)) := atK (ns := [a * p + b * q, c * p + d * q]) hk
      have e2 : atI [D.int t0, D.int t1] (k : Int) = some (.int (([t0, t1] : List Int).getD k 0)) := atK (ns := [t0, t1]) hk
      walk_at "dl"
      rw [e1]
      walk_at "dl"
      rw [if_pos m1]
      walk_at "dl"
      rw [e2]
      walk_at "dl"
      rw [if_pos m2], by rfl⟩
  have h' : (mLc [6] (mRng1 (aCons (has 3 (onSl 3 fun d => cLen [d])) aNil)) (gN 6) (ret true) (m2 (m2 (mIxN 5 (mVar 6)) (mVar 4) (g2i iMul)) (m2 (mIxN 3 (mVar 6)) (mIxN 1 (ret (.int 1))) (g2i iMul)) mAdd)) [.val (dd2 a b c d t0 t1 u), .val (.tup [iT [p, q], .int w]), .val (.tup [iT [a, b], iT [c, d]]), .val (iT [t0, t1]), .val (.int u), .val (iL [a * p + b * q, c * p + d * q]), .no] = .ok (iL [(a * p + b * q) * u + t0 * w, (c * p + d * q) * u + t1 * w]) [.val (dd2 a b c d t0 t1 u), .val (.tup [iT [p, q], .int w]), .val (.tup [iT [a, b], iT [c, d]]), .val (iT [t0, t1]), .val (.int u), .val (iL [a * p + b * q, c * p + d * q]), .no] := h
  have pl := e_place (u := u * w) (ns := [(a * p + b * q) * u + t0 * w, (c * p + d * q) * u + t1 * w]) (d := iL [(a * p + b * q) * u + t0 * w, (c * p + d * q) * u + t1 * w]) (.inl rfl) uw (fun z => by cases z) (by simp) (Nat.le_trans buw (by decide))
  unfold F_moved b_moved
  walk_at "dl"
  rw [e_led ha hb hc hd hp hq]
  walk_at "dl"
  rw [h']
  walk_at "dl"
  rw [if_pos (mi hu hw)]
  walk_at "dl"
  rw [pl]
  walk_at "dl"
theorem spot_mul {x0 n un H A0 U g S u m : Int} (hx : H * x0 = A0) (hu : H * un = U) (hg : g * U = u * n * m) (hs : g * A0 = S) (hH : H ≠ 0) (hg0 : g ≠ 0) (hn : n ≠ 0) (q : Int) : x0 * n = un * q ↔ S = (m * u) * q := by
  constructor
  · intro h
    refine Int.eq_of_mul_eq_mul_right hn ?_
    grind
  · intro h
    refine Int.eq_of_mul_eq_mul_left hH (Int.eq_of_mul_eq_mul_left hg0 ?_)
    grind
theorem fdiv_mul {k q : Int} (hk : k ≠ 0) : (k * q).fdiv k = q := by rw [Int.mul_comm]; exact Int.mul_fdiv_cancel q hk
theorem fmod_iff {a k : Int} (hk : 0 < k) : a.fmod k = 0 ↔ ∃ q, a = k * q := by
  rw [Int.fmod_eq_emod_of_nonneg _ (by omega)]
  exact Int.dvd_iff_emod_eq_zero.symm
/-- what both come to -/
def spotR (S0 S1 n m u : Int) : Option (Int × Int) := if S0.fmod (m * u) = 0 ∧ S1.fmod (n * u) = 0 then some ((S0.fdiv (m * u)).fmod n, (S1.fdiv (n * u)).fmod m) else none
def spD (o : Option (Int × Int)) : D := match o with | some (r, c) => iT [r, c] | none => .non
theorem e_grid {x0 x1 n m un H A0 A1 U g S0 S1 u : Int} (hx : H * x0 = A0) (hy : H * x1 = A1) (hu : H * un = U) (hg : g * U = u * n * m) (hs : g * A0 = S0) (hs1 : g * A1 = S1) (hH : H ≠ 0) (hg0 : g ≠ 0) (hn : 0 < n) (hm : 0 < m) (h0 : 0 < un) (u0 : 0 < u)
    (bx : ib x0 ≤ 3000) (by_ : ib x1 ≤ 3000) (bn : ib n ≤ 10) (bm : ib m ≤ 10) (bu : ib un ≤ 1200) : F_grid_spot [.tup [iT [x0, x1], .int un], .int n, .int m] = .ok (spD (spotR S0 S1 n m u)) := by
  have k0 := spot_mul (n := n) (m := m) (u := u) hx hu hg hs hH hg0 (by omega)
  have k1 := spot_mul (n := m) (m := n) (u := u) hy hu (by rw [hg]; grind) hs1 hH hg0 (by omega)
  have p0 : 0 < m * u := Int.mul_pos hm u0
  have p1 : 0 < n * u := Int.mul_pos hn u0
  have c0 : (x0 * n).fmod un = 0 ↔ S0.fmod (m * u) = 0 := by
    rw [fmod_iff h0, fmod_iff p0]
    exact ⟨fun ⟨q, h⟩ => ⟨q, (k0 q).mp h⟩, fun ⟨q, h⟩ => ⟨q, (k0 q).mpr h⟩⟩
  have c1 : (x1 * m).fmod un = 0 ↔ S1.fmod (n * u) = 0 := by
    rw [fmod_iff h0, fmod_iff p1]
    exact ⟨fun ⟨q, h⟩ => ⟨q, (k1 q).mp h⟩, fun ⟨q, h⟩ => ⟨q, (k1 q).mpr h⟩⟩
  have m0 : IntMulOk x0 n := mi bx bn
  have m1 : IntMulOk x1 m := mi by_ bm
  have du : DivOk un := divOk_of (by omega) bu (by decide)
  have un0 : ¬ un = 0 := by omega
  have n0 : ¬ n = 0 := by omega
  have m00 : ¬ m = 0 := by omega
  unfold F_grid_spot b_grid_spot spotR
  walk_at "dl"
  rw [if_pos m0]
  walk_at "dl"
  rw [if_pos un0]
  walk_at "dl"
  by_cases q0 : (x0 * n).fmod un = 0
  · rw [if_neg (fun z => z q0), if_pos m1]
    walk_at "dl"
    rw [if_pos un0]
    walk_at "dl"
    by_cases q1 : (x1 * m).fmod un = 0
    · rw [if_neg (fun z => z q1)]
      iterate 9 ((first | rw [if_pos m0] | rw [if_pos m1] | rw [if_pos du] | rw [if_pos n0] | rw [if_pos m00] | rw [if_pos un0] | skip); walk_at "dl")
      rw [if_pos ⟨c0.mp q0, c1.mp q1⟩]
      obtain ⟨a, ha⟩ := (fmod_iff h0).mp q0
      obtain ⟨b, hb⟩ := (fmod_iff h0).mp q1
      rw [ha, hb, (k0 a).mp ha, (k1 b).mp hb, fdiv_mul (by omega), fdiv_mul (by omega), fdiv_mul (by omega), fdiv_mul (by omega)]
      rfl
    · rw [if_pos q1, if_neg (fun z => q1 (c1.mpr z.2))]
      rfl
  · rw [if_pos q0, if_neg (fun z => q0 (c0.mpr z.1))]
    rfl
def S0 (a b t0 u i j n m : Int) : Int := (a * i * m + b * j * n) * u + t0 * n * m
def rch (a b c d t0 t1 u n m i j : Int) : Option (Int × Int) := spotR (S0 a b t0 u i j n m) (S0 c d t1 u i j n m) n m u
theorem e_reached {a b c d t0 t1 u n m i j : Int} (ha : ib a ≤ 200) (hb : ib b ≤ 200) (hc : ib c ≤ 200) (hd : ib d ≤ 200) (h0 : ib t0 ≤ 500) (h1 : ib t1 ≤ 500) (hu : ib u ≤ 200) (u0 : 0 < u) (hn : 0 < n) (hm : 0 < m) (bn : ib n ≤ 10) (bm : ib m ≤ 10) (bi : ib i ≤ 10) (bj : ib j ≤ 10) :
    F_grid_reached [dd2 a b c d t0 t1 u, .int i, .int j, .int n, .int m] = match rch a b c d t0 t1 u n m i j with | some (r, k) => .ok (iT [r, k]) | none => .exc "OffSheet" none := by
  have nm0 : n * m ≠ 0 := Int.mul_ne_zero (by omega) (by omega)
  have nmp : 0 < n * m := Int.mul_pos hn hm
  have bnm : ib (n * m) ≤ 20 := intBits_mul_le bn bm
  have p1 := e_place (u := n * m) (ns := [i * m, j * n]) (d := iT [i * m, j * n]) (.inr rfl) nm0 (fun z => by cases z) (by simp) (Nat.le_trans bnm (by decide))
  have gp : pby (n * m) [i * m, j * n] ≠ 0 := pby_ne nm0
  have g0 := mul_div_of gp (pby_dvd.2 (i * m) (by simp))
  have g1 := mul_div_of gp (pby_dvd.2 (j * n) (by simp))
  have gw := pun_mul (u := n * m) (ns := [i * m, j * n]) nm0
  have wp := pun_pos (u := n * m) (ns := [i * m, j * n]) nm0
  have bw : ib (pun (n * m) [i * m, j * n]) ≤ 1000 := Nat.le_trans (intBits_fdiv_le bnm) (by decide)
  have bp : ib ((i * m).fdiv (pby (n * m) [i * m, j * n])) ≤ 1000 := Nat.le_trans (intBits_fdiv_le (intBits_mul_le bi bm)) (by decide)
  have bq : ib ((j * n).fdiv (pby (n * m) [i * m, j * n])) ≤ 1000 := Nat.le_trans (intBits_fdiv_le (intBits_mul_le bj bn)) (by decide)
  have pl : PL (n * m) [i * m, j * n] = .tup [iT [(i * m).fdiv (pby (n * m) [i * m, j * n]), (j * n).fdiv (pby (n * m) [i * m, j * n])], .int (pun (n * m) [i * m, j * n])] := rfl
  generalize (i * m).fdiv (pby (n * m) [i * m, j * n]) = p at *
  generalize (j * n).fdiv (pby (n * m) [i * m, j * n]) = q at *
  generalize pun (n * m) [i * m, j * n] = w at *
  generalize pby (n * m) [i * m, j * n] = g at *
  have mv := e_moved ha hb hc hd bp bq h0 h1 hu bw (by omega) (by omega)
  have uw : u * w ≠ 0 := Int.mul_ne_zero (by omega) (by omega)
  have buw : ib (u * w) ≤ 1200 := intBits_mul_le hu bw
  have bf0 : ib ((a * p + b * q) * u + t0 * w) ≤ 3000 := Nat.le_trans (intBits_add_le (intBits_mul_le (intBits_add_le (intBits_mul_le ha bp) (intBits_mul_le hb bq)) hu) (intBits_mul_le h0 bw)) (by decide)
  have bf1 : ib ((c * p + d * q) * u + t1 * w) ≤ 3000 := Nat.le_trans (intBits_add_le (intBits_mul_le (intBits_add_le (intBits_mul_le hc bp) (intBits_mul_le hd bq)) hu) (intBits_mul_le h1 bw)) (by decide)
  have Hp : pby (u * w) [(a * p + b * q) * u + t0 * w, (c * p + d * q) * u + t1 * w] ≠ 0 := pby_ne uw
  have H0 := mul_div_of Hp (pby_dvd.2 ((a * p + b * q) * u + t0 * w) (by simp))
  have H1 := mul_div_of Hp (pby_dvd.2 ((c * p + d * q) * u + t1 * w) (by simp))
  have Hw := pun_mul (u := u * w) (ns := [(a * p + b * q) * u + t0 * w, (c * p + d * q) * u + t1 * w]) uw
  have gr := e_grid (n := n) (m := m) (g := g) (S0 := S0 a b t0 u i j n m) (S1 := S0 c d t1 u i j n m) (u := u) H0 H1 Hw (by grind) (by unfold S0; grind) (by unfold S0; grind) Hp gp hn hm (pun_pos uw) u0 (intBits_fdiv_le bf0) (intBits_fdiv_le bf1) bn bm (intBits_fdiv_le buw)
  have gr : F_grid_spot [PL (u * w) [(a * p + b * q) * u + t0 * w, (c * p + d * q) * u + t1 * w], .int n, .int m] = _ := gr
  rw [pl] at p1
  unfold F_grid_reached b_grid_reached rch
  walk_at "dl"
  rw [if_pos (mi bi bm)]
  walk_at "dl"
  rw [if_pos (mi bj bn)]
  walk_at "dl"
  rw [if_pos (mi bn bm)]
  walk_at "dl"
  rw [show F_place [.tup [.int (i * m), .int (j * n)], .int (n * m)] = _ from p1]
  walk_at "dl"
  rw [mv]
  walk_at "dl"
  rw [gr]
  walk_at "dl"
  generalize spotR (S0 a b t0 u i j n m) (S0 c d t1 u i j n m) n m u = o
  cases o with
  | none =>
    unfold spD
    walk_at "dl"
  | some rc =>
    obtain ⟨r, k⟩ := rc
    unfold spD
    walk_at "dl"
/-! the law's own reckoning -/
theorem reach_step {x y t u i j n m : Int} (hx : ib x ≤ 200) (hy : ib y ≤ 200) (ht : ib t ≤ 500) (hu : ib u ≤ 200) (bn : ib n ≤ 10) (bm : ib m ≤ 10) (bi : ib i ≤ 10) (bj : ib j ≤ 10) (l : List Int) (hl : l.length ≤ 5) (x0 x5 x6 x11 : Sl) :
    (sq (mAsg 11 (m2 (m2 (m2 (mIxN 9 (ret (.int 0))) (mVar 1) (g2i iMul)) (mVar 4) (g2i iMul)) (m2 (m2 (mIxN 9 (ret (.int 1))) (mVar 2) (g2i iMul)) (mVar 3) (g2i iMul)) mAdd))
  (mApp 8 (m2 (m2 (mVar 11) (mVar 7) (g2i iMul)) (m2 (m2 (mVar 10) (mVar 3) (g2i iMul)) (mVar 4) (g2i iMul)) mAdd))) [x0, .val (.int i), .val (.int j), .val (.int n), .val (.int m), x5, x6, .val (.int u), .own none (.lst (l.map .int)), .val (iT [x, y]), .val (.int t), x11] = .ok .nx [x0, .val (.int i), .val (.int j), .val (.int n), .val (.int m), x5, x6, .val (.int u), .own none (.lst ((l ++ [S0 x y t u i j n m]).map .int)), .val (iT [x, y]), .val (.int t), .val (.int (x * i * m + y * j * n))] := by
  have b1 : ib (x * i) ≤ 210 := intBits_mul_le hx bi
  have b2 : ib (x * i * m) ≤ 220 := intBits_mul_le b1 bm
  have b3 : ib (y * j) ≤ 210 := intBits_mul_le hy bj
  have b4 : ib (y * j * n) ≤ 220 := intBits_mul_le b3 bn
  have b5 : ib (x * i * m + y * j * n) ≤ 221 := intBits_add_le b2 b4
  have b6 : ib (t * n) ≤ 510 := intBits_mul_le ht bn
  have q1 := mi hx bi
  have q2 := mi b1 bm
  have q3 := mi hy bj
  have q4 := mi b3 bn
  have q5 := mi b5 hu
  have q6 := mi ht bn
  have q7 := mi b6 bm
  have ll : l.length < sizeLine := Nat.lt_of_lt_of_le (show l.length < 10 by omega) (by decide)
  walk_at "dl"
  iterate 9 ((first | rw [if_pos q1] | rw [if_pos q2] | rw [if_pos q3] | rw [if_pos q4] | rw [if_pos q5] | rw [if_pos q6] | rw [if_pos q7] | rw [if_pos ll] | skip); walk_at "dl")
  rw [List.map_append]
  rfl
theorem e_lreached {a b c d t0 t1 u n m i j : Int} (ha : ib a ≤ 200) (hb : ib b ≤ 200) (hc : ib c ≤ 200) (hd : ib d ≤ 200) (h0 : ib t0 ≤ 500) (h1 : ib t1 ≤ 500) (hu : ib u ≤ 200) (u0 : 0 < u) (hn : 0 < n) (hm : 0 < m) (bn : ib n ≤ 10) (bm : ib m ≤ 10) (bi : ib i ≤ 10) (bj : ib j ≤ 10) :
    F_law_reached [dd2 a b c d t0 t1 u, .int i, .int j, .int n, .int m] = .ok (spD (rch a b c d t0 t1 u n m i j)) := by
  have s1 := fun l hl x0 x5 x6 x11 => reach_step ha hb h0 hu bn bm bi bj l hl x0 x5 x6 x11
  have s2 := fun l hl x0 x5 x6 x11 => reach_step hc hd h1 hu bn bm bi bj l hl x0 x5 x6 x11
  have zz : zipD [iT [a, b], iT [c, d]] [.int t0, .int t1] = [.tup [iT [a, b], .int t0], .tup [iT [c, d], .int t1]] := rfl
  have lp : forL (gTp 2 (gsCons (gN 9) (gsCons (gN 10) gsNil))) (sq (mAsg 11 (m2 (m2 (m2 (mIxN 9 (ret (.int 0))) (mVar 1) (g2i iMul)) (mVar 4) (g2i iMul)) (m2 (m2 (mIxN 9 (ret (.int 1))) (mVar 2) (g2i iMul)) (mVar 3) (g2i iMul)) mAdd))
  (mApp 8 (m2 (m2 (mVar 11) (mVar 7) (g2i iMul)) (m2 (m2 (mVar 10) (mVar 3) (g2i iMul)) (mVar 4) (g2i iMul)) mAdd))) [.tup [iT [a, b], .int t0], .tup [iT [c, d], .int t1]] [.val (dd2 a b c d t0 t1 u), .val (.int i), .val (.int j), .val (.int n), .val (.int m), .val (.tup [iT [a, b], iT [c, d]]), .val (iT [t0, t1]), .val (.int u), .own none (.lst []), .no, .no, .no] = .ok .nx [.val (dd2 a b c d t0 t1 u), .val (.int i), .val (.int j), .val (.int n), .val (.int m), .val (.tup [iT [a, b], iT [c, d]]), .val (iT [t0, t1]), .val (.int u), .own none (.lst [.int (S0 a b t0 u i j n m), .int (S0 c d t1 u i j n m)]), .val (iT [c, d]), .val (.int t1), .val (.int (c * i * m + d * j * n))] := by
    have g1 : gTp 2 (gsCons (gN 9) (gsCons (gN 10) gsNil)) (.tup [iT [a, b], .int t0]) [.val (dd2 a b c d t0 t1 u), .val (.int i), .val (.int j), .val (.int n), .val (.int m), .val (.tup [iT [a, b], iT [c, d]]), .val (iT [t0, t1]), .val (.int u), .own none (.lst []), .no, .no, .no] = .ok () [.val (dd2 a b c d t0 t1 u), .val (.int i), .val (.int j), .val (.int n), .val (.int m), .val (.tup [iT [a, b], iT [c, d]]), .val (iT [t0, t1]), .val (.int u), .own none (.lst []), .val (iT [a, b]), .val (.int t0), .no] := by walk_at "dl"
    have g2 : gTp 2 (gsCons (gN 9) (gsCons (gN 10) gsNil)) (.tup [iT [c, d], .int t1]) [.val (dd2 a b c d t0 t1 u), .val (.int i), .val (.int j), .val (.int n), .val (.int m), .val (.tup [iT [a, b], iT [c, d]]), .val (iT [t0, t1]), .val (.int u), .own none (.lst [.int (S0 a b t0 u i j n m)]), .val (iT [a, b]), .val (.int t0), .val (.int (a * i * m + b * j * n))] = .ok () [.val (dd2 a b c d t0 t1 u), .val (.int i), .val (.int j), .val (.int n), .val (.int m), .val (.tup [iT [a, b], iT [c, d]]), .val (iT [t0, t1]), .val (.int u), .own none (.lst [.int (S0 a b t0 u i j n m)]), .val (iT [c, d]), .val (.int t1), .val (.int (a * i * m + b * j * n))] := by walk_at "dl"
    rw [forL_cons, bnd_ok g1, a_again]
    refine (congrArg (fun r => aG r _) (s1 [] (by decide) _ _ _ _)).trans ?_
    show forL _ _ [.tup [iT [c, d], .int t1]] [.val (dd2 a b c d t0 t1 u), .val (.int i), .val (.int j), .val (.int n), .val (.int m), .val (.tup [iT [a, b], iT [c, d]]), .val (iT [t0, t1]), .val (.int u), .own none (.lst [.int (S0 a b t0 u i j n m)]), .val (iT [a, b]), .val (.int t0), .val (.int (a * i * m + b * j * n))] = _
    rw [forL_cons, bnd_ok g2, a_again]
    exact (congrArg (fun r => aG r _) (s2 [S0 a b t0 u i j n m] (by simp) _ _ _ _)).trans rfl
  have p0 : 0 < m * u := Int.mul_pos hm u0
  have p1 : 0 < n * u := Int.mul_pos hn u0
  have q1 := mi bm hu
  have q2 := mi bn hu
  have n1 : ¬ m * u = 0 := by omega
  have n2 : ¬ n * u = 0 := by omega
  have n3 : ¬ n = 0 := by omega
  have n4 : ¬ m = 0 := by omega
  have d1 : DivOk (m * u) := divOk_of n1 (intBits_mul_le bm hu) (by decide)
  have d2 : DivOk (n * u) := divOk_of n2 (intBits_mul_le bn hu) (by decide)
  unfold F_law_reached b_law_reached rch spotR
  walk_at "dl"
  unfold mZip
  walk_at "dl"
  rw [zz, lp]
  walk_at "dl"
  generalize S0 a b t0 u i j n m = s at *
  generalize S0 c d t1 u i j n m = r at *
  by_cases k0 : s.fmod (m * u) = 0
  · have z0 : ¬ ¬ s.fmod (m * u) = 0 := fun z => z k0
    by_cases k1 : r.fmod (n * u) = 0
    · have z1 : ¬ ¬ r.fmod (n * u) = 0 := fun z => z k1
      iterate 16 ((first | rw [if_pos q1] | rw [if_pos q2] | rw [if_pos n1] | rw [if_pos n2] | rw [if_pos n3] | rw [if_pos n4] | rw [if_pos d1] | rw [if_pos d2] | rw [if_neg z0] | rw [if_neg z1] | skip); walk_at "dl")
      rw [if_pos ⟨k0, k1⟩]
      rfl
    · iterate 16 ((first | rw [if_pos q1] | rw [if_pos q2] | rw [if_pos n1] | rw [if_pos n2] | rw [if_neg z0] | rw [if_pos k1] | skip); walk_at "dl")
      rw [if_neg (fun z => k1 z.2)]
      rfl
  · iterate 16 ((first | rw [if_pos q1] | rw [if_pos n1] | rw [if_pos k0] | skip); walk_at "dl")
    rw [if_neg (fun z => k0 z.1)]
    rfl
/-! texts -/
def okT (m : Nat) (z : Str) : Prop := PyData.strOk z = true ∧ z.length ≤ m
theorem strOk_iff {z : Str} : PyData.strOk z = true ↔ ∀ c ∈ z.cps.toList, c < 0x110000 := by
  unfold PyData.strOk
  rw [Array.all_eq_true_iff_forall_mem]
  simp
theorem cps_app (a b : Str) : (a ++ b).cps.toList = a.cps.toList ++ b.cps.toList := by
  show (a.cps ++ b.cps).toList = _
  rw [Array.toList_append]
theorem mem_join {sep : Str} : ∀ (ys : List Str) (y : Str), y ∈ ys → ∀ c ∈ y.cps.toList, c ∈ (Str.join sep ys).cps.toList
  | [], y, h, c, _ => by cases h
  | [x], y, h, c, hc => by
    rcases List.mem_cons.mp h with rfl | h
    · exact hc
    · cases h
  | x :: x2 :: r, y, h, c, hc => by
    have e : Str.join sep (x :: x2 :: r) = x ++ sep ++ Str.join sep (x2 :: r) := rfl
    rw [e, cps_app, cps_app]
    rcases List.mem_cons.mp h with rfl | h
    · exact List.mem_append_left _ (List.mem_append_left _ hc)
    · exact List.mem_append_right _ (mem_join (x2 :: r) y h c hc)
theorem okT_app {m n : Nat} {a b : Str} (h : okT m a) (k : okT n b) : okT (m + n) (a ++ b) := by
  refine ⟨?_, by rw [Str.length_append]; exact Nat.add_le_add h.2 k.2⟩
  rw [strOk_iff]
  intro c hc
  rw [cps_app] at hc
  rcases List.mem_append.mp hc with hc | hc
  · exact strOk_iff.mp h.1 c hc
  · exact strOk_iff.mp k.1 c hc
theorem okT_one {m : Nat} {z : Str} (h : okT m z) {c : Nat} (hc : c ∈ z.cps.toList) : okT 1 ⟨#[c]⟩ := by
  refine ⟨?_, Nat.le_refl _⟩
  rw [strOk_iff]
  intro d hd
  have : d = c := by simpa using hd
  subst this
  exact strOk_iff.mp h.1 d hc
theorem okT_cut {m : Nat} {z : Str} (h : okT m z) (lo hi : Option Int) : okT m (cutS z lo hi) := by
  refine ⟨?_, ?_⟩
  · rw [strOk_iff]
    intro c hc
    unfold cutS at hc
    simp only [] at hc
    exact strOk_iff.mp h.1 c (List.mem_of_mem_drop (List.mem_of_mem_take (by simpa using hc)))
  · refine Nat.le_trans ?_ h.2
    unfold cutS Str.length
    simp only [List.size_toArray, List.length_take, List.length_drop]
    have : z.cps.toList.length = z.cps.size := rfl
    omega
theorem okT_mono {m n : Nat} {z : Str} (h : okT m z) (k : m ≤ n) : okT n z := ⟨h.1, Nat.le_trans h.2 k⟩
theorem strs_at {ys : List Str} {q : Int} (h : 0 ≤ q ∧ q < ys.length) : ∃ y, atI (ys.map D.str) q = some (.str y) ∧ y ∈ ys := by
  obtain ⟨n, rfl⟩ := Int.eq_ofNat_of_zero_le h.1
  have hn : n < ys.length := by omega
  exact ⟨ys[n], atI_map h.1 (by rw [show ((n : Nat) : Int).toNat = n by omega]; exact List.getElem?_eq_getElem hn), List.getElem_mem hn⟩
theorem sign_at {z : Str} {q : Int} (h : 0 ≤ q ∧ q < z.length) : ∃ c, atI z.cps.toList q = some c ∧ c ∈ z.cps.toList := by
  obtain ⟨n, rfl⟩ := Int.eq_ofNat_of_zero_le h.1
  have hn : n < z.cps.toList.length := by
    have : z.cps.toList.length = z.length := rfl
    omega
  exact ⟨_, atI_nat (List.getElem?_eq_getElem hn), List.getElem_mem hn⟩

def sgnAt (ys : List Str) (r k : Int) : D := match atI (ys.map D.str) r with
  | some (.str z) => (match atI z.cps.toList k with | some ch => .str ⟨#[ch]⟩ | none => .non)
  | _ => .non
structure Drw (ys : List Str) (n m : Nat) : Prop where
  len : ys.length = n
  row : ∀ y ∈ ys, okT 10 y ∧ y.length = m
  n1 : 1 ≤ n
  n6 : n ≤ 6
  m1 : 1 ≤ m
  m6 : m ≤ 6
theorem at_ok {ys : List Str} {n m : Nat} (h : Drw ys n m) {r k : Int} (hr : 0 ≤ r ∧ r < n) (hk : 0 ≤ k ∧ k < m) : ∃ z ch, atI (ys.map D.str) r = some (.str z) ∧ z.length ≤ sizeLine ∧ atI z.cps.toList k = some ch ∧ sgnAt ys r k = .str ⟨#[ch]⟩ ∧ D.pl 0 (.str ⟨#[ch]⟩) = true := by
  obtain ⟨z, z1, z2⟩ := strs_at (ys := ys) (q := r) (by rw [h.len]; exact hr)
  obtain ⟨o, l⟩ := h.row z z2
  obtain ⟨c, c1, c2⟩ := sign_at (z := z) (q := k) (by rw [l]; exact hk)
  refine ⟨z, c, z1, Nat.le_trans o.2 (by decide), c1, ?_, (okT_one o c2).1⟩
  unfold sgnAt
  rw [z1]
  dsimp only
  rw [c1]
def stepI (ys : List Str) (R : Int → Int → Option (Int × Int)) (i : Int) (f d : D) : Option D := match d with
  | .int j => (match R i j with
    | none => none
    | some (r, k) => some (if isNon f = true then (if deq (sgnAt ys r k) (sgnAt ys i j) = true then f else .tup [.int i, .int j]) else f))
  | _ => none
def stepO (ys : List Str) (R : Int → Int → Option (Int × Int)) (m : Nat) (f d : D) : Option D := match d with
  | .int i => foldO (stepI ys R i) (rngD 0 m) f
  | _ => none
/-- the first that is other, or none where a place has no sign -/
def resO (ys : List Str) (R : Int → Int → Option (Int × Int)) (n m : Nat) : Option D := foldO (stepO ys R m) (rngD 0 n) .non
structure Dd (a b c d t0 t1 u : Int) : Prop where
  ha : ib a ≤ 200
  hb : ib b ≤ 200
  hc : ib c ≤ 200
  hd : ib d ≤ 200
  h0 : ib t0 ≤ 500
  h1 : ib t1 ≤ 500
  hu : ib u ≤ 200
  u0 : 0 < u
theorem rch_rng {a b c d t0 t1 u : Int} {n m : Nat} (hn : 1 ≤ n) (hm : 1 ≤ m) {i j r k : Int} (h : rch a b c d t0 t1 u n m i j = some (r, k)) : (0 ≤ r ∧ r < n) ∧ (0 ≤ k ∧ k < m) := by
  unfold rch spotR at h
  split at h
  · cases h
    exact ⟨fmod_rng (by omega), fmod_rng (by omega)⟩
  · cases h
theorem nb {n : Nat} (h : n ≤ 6) : ib (n : Int) ≤ 10 := ib_of (by omega)
abbrev badO : Res Fl → Prop := fun r => ∃ e, r = .exc "OffSheet" none e
abbrev badF : Res Fl → Prop := fun r => ∃ e, r = .ok (.rt (.str "off")) e
theorem badO_ok : ∀ r k, badO r → aG r k = r := by rintro _ k ⟨e, rfl⟩; rfl
theorem badF_ok : ∀ r k, badF r → aG r k = r := by rintro _ k ⟨e, rfl⟩; rfl
theorem lays_in {a b c d t0 t1 u : Int} (Q : Dd a b c d t0 t1 u) {ys : List Str} {n m : Nat} (W : Drw ys n m) (i : Nat) (hi : i < n) (f : D) (x6 x7 x8 : Sl) :
    (∃ s', foldO (stepI ys (rch a b c d t0 t1 u n m) i) (rngD 0 m) f = some s' ∧ ∃ e', forL (gN 6) (sq (mAsgT (mCall (aCons (mVar 1) (aCons (mVar 5) (aCons (mVar 6) (aCons (mVar 2) (aCons (mVar 3) aNil))))) F_grid_reached) (gTp 2 (gsCons (gN 7) (gsCons (gN 8) gsNil))))
  (mIf (bAnd (bnd (mVar 4) fun x => ret (isNon x)) (bnd (m2 (m2 (mIxN 0 (mVar 7)) (mVar 8) mIx) (m2 (mIxN 0 (mVar 5)) (mVar 6) mIx) mNe) mB)) (mAsg 4 (mTup (aCons (mVar 5) (aCons (mVar 6) aNil)))) nx)) (rngD 0 m) [.val (.tup (ys.map .str)), .val (dd2 a b c d t0 t1 u), .val (.int n), .val (.int m), .val f, .val (.int i), x6, x7, x8] = .ok .nx e' ∧ ∃ x6 x7 x8, e' = [.val (.tup (ys.map .str)), .val (dd2 a b c d t0 t1 u), .val (.int n), .val (.int m), .val s', .val (.int i), x6, x7, x8]) ∨
    (foldO (stepI ys (rch a b c d t0 t1 u n m) i) (rngD 0 m) f = none ∧ badO (forL (gN 6) (sq (mAsgT (mCall (aCons (mVar 1) (aCons (mVar 5) (aCons (mVar 6) (aCons (mVar 2) (aCons (mVar 3) aNil))))) F_grid_reached) (gTp 2 (gsCons (gN 7) (gsCons (gN 8) gsNil))))
  (mIf (bAnd (bnd (mVar 4) fun x => ret (isNon x)) (bnd (m2 (m2 (mIxN 0 (mVar 7)) (mVar 8) mIx) (m2 (mIxN 0 (mVar 5)) (mVar 6) mIx) mNe) mB)) (mAsg 4 (mTup (aCons (mVar 5) (aCons (mVar 6) aNil)))) nx)) (rngD 0 m) [.val (.tup (ys.map .str)), .val (dd2 a b c d t0 t1 u), .val (.int n), .val (.int m), .val f, .val (.int i), x6, x7, x8])) := by
  refine forL_opt (fun s e => ∃ x6 x7 x8, e = [.val (.tup (ys.map .str)), .val (dd2 a b c d t0 t1 u), .val (.int n), .val (.int m), .val s, .val (.int i), x6, x7, x8]) _ badO badO_ok _ _ _ ⟨x6, x7, x8, rfl⟩ ?_
  rintro d0 hd s e ⟨x6, x7, x8, rfl⟩
  obtain ⟨j, hj, rfl⟩ := mem_rngD hd
  rw [Int.zero_add]
  have W1 := W.n1; have W2 := W.n6; have W3 := W.m1; have W4 := W.m6
  have er := e_reached (n := n) (m := m) (i := i) (j := j) Q.ha Q.hb Q.hc Q.hd Q.h0 Q.h1 Q.hu Q.u0 (by omega) (by omega) (nb W2) (nb W4) (nb (by omega)) (nb (by omega))
  refine ⟨_, rfl, ?_⟩
  unfold stepI
  dsimp only
  cases q : rch a b c d t0 t1 u n m i j with
  | none =>
    refine .inr ⟨rfl, ?_⟩
    rw [q] at er
    walk_at "dl"
    rw [er]
    skip
    walk_at "dl"
    exact ⟨_, rfl⟩
  | some rk =>
    obtain ⟨r, k⟩ := rk
    rw [q] at er
    have rr := rch_rng W1 W3 q
    obtain ⟨z1, c1, p1, p2, p3, p4, p5⟩ := at_ok W rr.1 rr.2
    obtain ⟨z2, c2, q1, q2, q3, q4, q5⟩ := at_ok W (r := i) (k := j) ⟨by omega, by omega⟩ ⟨by omega, by omega⟩
    refine .inl ⟨_, rfl, ?_⟩
    rw [p4, q4]
    by_cases hs : isNon s = true
    · rw [if_pos hs]
      by_cases he : deq (.str ⟨#[c1]⟩) (.str ⟨#[c2]⟩) = true
      · rw [if_pos he]
        refine ⟨[.val (.tup (ys.map .str)), .val (dd2 a b c d t0 t1 u), .val (.int n), .val (.int m), .val s, .val (.int i), .val (.int j), .val (.int r), .val (.int k)], .inl ?_, _, _, _, rfl⟩
        walk_at "dl"
        rw [er]
        skip
        walk_at "dl"
        rw [if_pos hs, p1]
        walk_at "dl"
        rw [if_pos p2, p3, Option.map_some]
        walk_at "dl"
        rw [q1]
        walk_at "dl"
        rw [if_pos q2, q3, Option.map_some]
        walk_at "dl"
        rw [if_pos (eqOk_pl p5 q5)]
        walk_at "dl"
        rw [he]
        walk_at "dl"
      · have he := Bool.eq_false_iff.mpr he
        rw [if_neg (by rw [he]; simp)]
        refine ⟨[.val (.tup (ys.map .str)), .val (dd2 a b c d t0 t1 u), .val (.int n), .val (.int m), .val (.tup [.int i, .int j]), .val (.int i), .val (.int j), .val (.int r), .val (.int k)], .inl ?_, _, _, _, rfl⟩
        walk_at "dl"
        rw [er]
        skip
        walk_at "dl"
        rw [if_pos hs, p1]
        walk_at "dl"
        rw [if_pos p2, p3, Option.map_some]
        walk_at "dl"
        rw [q1]
        walk_at "dl"
        rw [if_pos q2, q3, Option.map_some]
        walk_at "dl"
        rw [if_pos (eqOk_pl p5 q5)]
        walk_at "dl"
        rw [he]
        walk_at "dl"
    · rw [if_neg hs]
      refine ⟨[.val (.tup (ys.map .str)), .val (dd2 a b c d t0 t1 u), .val (.int n), .val (.int m), .val s, .val (.int i), .val (.int j), .val (.int r), .val (.int k)], .inl ?_, _, _, _, rfl⟩
      walk_at "dl"
      rw [er]
      skip
      walk_at "dl"
      rw [if_neg hs]
theorem due_in {a b c d t0 t1 u : Int} (Q : Dd a b c d t0 t1 u) {ys : List Str} {n m : Nat} (W : Drw ys n m) (i : Nat) (hi : i < n) (f : D) (x6 x7 : Sl) :
    (∃ s', foldO (stepI ys (rch a b c d t0 t1 u n m) i) (rngD 0 m) f = some s' ∧ ∃ e', forL (gN 6) (sq (mAsg 7 (mCall (aCons (mVar 1) (aCons (mVar 5) (aCons (mVar 6) (aCons (mVar 3) (aCons (mVar 4) aNil))))) F_law_reached))
  (sq (mIf (bnd (mVar 7) fun x => ret (isNon x)) (mRet (ret (.str "off"))) nx)
  (mIf (bAnd (bnd (mVar 2) fun x => ret (isNon x)) (bnd (m2 (m2 (mIxN 0 (mIxN 7 (ret (.int 0)))) (mIxN 7 (ret (.int 1))) mIx) (m2 (mIxN 0 (mVar 5)) (mVar 6) mIx) mNe) mB)) (mAsg 2 (mTup (aCons (mVar 5) (aCons (mVar 6) aNil)))) nx))) (rngD 0 m) [.val (.tup (ys.map .str)), .val (dd2 a b c d t0 t1 u), .val f, .val (.int n), .val (.int m), .val (.int i), x6, x7] = .ok .nx e' ∧ ∃ x6 x7, e' = [.val (.tup (ys.map .str)), .val (dd2 a b c d t0 t1 u), .val s', .val (.int n), .val (.int m), .val (.int i), x6, x7]) ∨
    (foldO (stepI ys (rch a b c d t0 t1 u n m) i) (rngD 0 m) f = none ∧ badF (forL (gN 6) (sq (mAsg 7 (mCall (aCons (mVar 1) (aCons (mVar 5) (aCons (mVar 6) (aCons (mVar 3) (aCons (mVar 4) aNil))))) F_law_reached))
  (sq (mIf (bnd (mVar 7) fun x => ret (isNon x)) (mRet (ret (.str "off"))) nx)
  (mIf (bAnd (bnd (mVar 2) fun x => ret (isNon x)) (bnd (m2 (m2 (mIxN 0 (mIxN 7 (ret (.int 0)))) (mIxN 7 (ret (.int 1))) mIx) (m2 (mIxN 0 (mVar 5)) (mVar 6) mIx) mNe) mB)) (mAsg 2 (mTup (aCons (mVar 5) (aCons (mVar 6) aNil)))) nx))) (rngD 0 m) [.val (.tup (ys.map .str)), .val (dd2 a b c d t0 t1 u), .val f, .val (.int n), .val (.int m), .val (.int i), x6, x7])) := by
  refine forL_opt (fun s e => ∃ x6 x7, e = [.val (.tup (ys.map .str)), .val (dd2 a b c d t0 t1 u), .val s, .val (.int n), .val (.int m), .val (.int i), x6, x7]) _ badF badF_ok _ _ _ ⟨x6, x7, rfl⟩ ?_
  rintro d0 hd s e ⟨x6, x7, rfl⟩
  obtain ⟨j, hj, rfl⟩ := mem_rngD hd
  rw [Int.zero_add]
  have W1 := W.n1; have W2 := W.n6; have W3 := W.m1; have W4 := W.m6
  have er := e_lreached (n := n) (m := m) (i := i) (j := j) Q.ha Q.hb Q.hc Q.hd Q.h0 Q.h1 Q.hu Q.u0 (by omega) (by omega) (nb W2) (nb W4) (nb (by omega)) (nb (by omega))
  refine ⟨_, rfl, ?_⟩
  unfold stepI
  dsimp only
  cases q : rch a b c d t0 t1 u n m i j with
  | none =>
    refine .inr ⟨rfl, ?_⟩
    rw [q] at er
    walk_at "dl"
    rw [er]
    unfold spD
    walk_at "dl"
    exact ⟨_, rfl⟩
  | some rk =>
    obtain ⟨r, k⟩ := rk
    rw [q] at er
    have rr := rch_rng W1 W3 q
    obtain ⟨z1, c1, p1, p2, p3, p4, p5⟩ := at_ok W rr.1 rr.2
    obtain ⟨z2, c2, q1, q2, q3, q4, q5⟩ := at_ok W (r := i) (k := j) ⟨by omega, by omega⟩ ⟨by omega, by omega⟩
    refine .inl ⟨_, rfl, ?_⟩
    rw [p4, q4]
    by_cases hs : isNon s = true
    · rw [if_pos hs]
      by_cases he : deq (.str ⟨#[c1]⟩) (.str ⟨#[c2]⟩) = true
      · rw [if_pos he]
        refine ⟨[.val (.tup (ys.map .str)), .val (dd2 a b c d t0 t1 u), .val s, .val (.int n), .val (.int m), .val (.int i), .val (.int j), .val (iT [r, k])], .inl ?_, _, _, rfl⟩
        walk_at "dl"
        rw [er]
        unfold spD
        walk_at "dl"
        rw [if_pos hs, p1]
        walk_at "dl"
        rw [if_pos p2, p3, Option.map_some]
        walk_at "dl"
        rw [q1]
        walk_at "dl"
        rw [if_pos q2, q3, Option.map_some]
        walk_at "dl"
        rw [if_pos (eqOk_pl p5 q5)]
        walk_at "dl"
        rw [he]
        walk_at "dl"
      · have he := Bool.eq_false_iff.mpr he
        rw [if_neg (by rw [he]; simp)]
        refine ⟨[.val (.tup (ys.map .str)), .val (dd2 a b c d t0 t1 u), .val (.tup [.int i, .int j]), .val (.int n), .val (.int m), .val (.int i), .val (.int j), .val (iT [r, k])], .inl ?_, _, _, rfl⟩
        walk_at "dl"
        rw [er]
        unfold spD
        walk_at "dl"
        rw [if_pos hs, p1]
        walk_at "dl"
        rw [if_pos p2, p3, Option.map_some]
        walk_at "dl"
        rw [q1]
        walk_at "dl"
        rw [if_pos q2, q3, Option.map_some]
        walk_at "dl"
        rw [if_pos (eqOk_pl p5 q5)]
        walk_at "dl"
        rw [he]
        walk_at "dl"
    · rw [if_neg hs]
      refine ⟨[.val (.tup (ys.map .str)), .val (dd2 a b c d t0 t1 u), .val s, .val (.int n), .val (.int m), .val (.int i), .val (.int j), .val (iT [r, k])], .inl ?_, _, _, rfl⟩
      walk_at "dl"
      rw [er]
      unfold spD
      walk_at "dl"
      rw [if_neg hs]
theorem lays_out {a b c d t0 t1 u : Int} (Q : Dd a b c d t0 t1 u) {ys : List Str} {n m : Nat} (W : Drw ys n m) (f : D) (x5 x6 x7 x8 : Sl) :
    (∃ s', foldO (stepO ys (rch a b c d t0 t1 u n m) m) (rngD 0 n) f = some s' ∧ ∃ e', forL (gN 5) (bnd (mRng1 (aCons (mVar 3) aNil)) (forL (gN 6) (sq (mAsgT (mCall (aCons (mVar 1) (aCons (mVar 5) (aCons (mVar 6) (aCons (mVar 2) (aCons (mVar 3) aNil))))) F_grid_reached) (gTp 2 (gsCons (gN 7) (gsCons (gN 8) gsNil))))
  (mIf (bAnd (bnd (mVar 4) fun x => ret (isNon x)) (bnd (m2 (m2 (mIxN 0 (mVar 7)) (mVar 8) mIx) (m2 (mIxN 0 (mVar 5)) (mVar 6) mIx) mNe) mB)) (mAsg 4 (mTup (aCons (mVar 5) (aCons (mVar 6) aNil)))) nx)))) (rngD 0 n) [.val (.tup (ys.map .str)), .val (dd2 a b c d t0 t1 u), .val (.int n), .val (.int m), .val f, x5, x6, x7, x8] = .ok .nx e' ∧ ∃ x5 x6 x7 x8, e' = [.val (.tup (ys.map .str)), .val (dd2 a b c d t0 t1 u), .val (.int n), .val (.int m), .val s', x5, x6, x7, x8]) ∨
    (foldO (stepO ys (rch a b c d t0 t1 u n m) m) (rngD 0 n) f = none ∧ badO (forL (gN 5) (bnd (mRng1 (aCons (mVar 3) aNil)) (forL (gN 6) (sq (mAsgT (mCall (aCons (mVar 1) (aCons (mVar 5) (aCons (mVar 6) (aCons (mVar 2) (aCons (mVar 3) aNil))))) F_grid_reached) (gTp 2 (gsCons (gN 7) (gsCons (gN 8) gsNil))))
  (mIf (bAnd (bnd (mVar 4) fun x => ret (isNon x)) (bnd (m2 (m2 (mIxN 0 (mVar 7)) (mVar 8) mIx) (m2 (mIxN 0 (mVar 5)) (mVar 6) mIx) mNe) mB)) (mAsg 4 (mTup (aCons (mVar 5) (aCons (mVar 6) aNil)))) nx)))) (rngD 0 n) [.val (.tup (ys.map .str)), .val (dd2 a b c d t0 t1 u), .val (.int n), .val (.int m), .val f, x5, x6, x7, x8])) := by
  refine forL_opt (fun s e => ∃ x5 x6 x7 x8, e = [.val (.tup (ys.map .str)), .val (dd2 a b c d t0 t1 u), .val (.int n), .val (.int m), .val s, x5, x6, x7, x8]) _ badO badO_ok _ _ _ ⟨x5, x6, x7, x8, rfl⟩ ?_
  rintro d0 hd s e ⟨x5, x6, x7, x8, rfl⟩
  obtain ⟨i, hi, rfl⟩ := mem_rngD hd
  rw [Int.zero_add]
  have W4 := W.m6
  refine ⟨_, rfl, ?_⟩
  unfold stepO
  dsimp only
  have ev : (bnd (mRng1 (aCons (mVar 3) aNil)) (forL (gN 6) (sq (mAsgT (mCall (aCons (mVar 1) (aCons (mVar 5) (aCons (mVar 6) (aCons (mVar 2) (aCons (mVar 3) aNil))))) F_grid_reached) (gTp 2 (gsCons (gN 7) (gsCons (gN 8) gsNil))))
  (mIf (bAnd (bnd (mVar 4) fun x => ret (isNon x)) (bnd (m2 (m2 (mIxN 0 (mVar 7)) (mVar 8) mIx) (m2 (mIxN 0 (mVar 5)) (mVar 6) mIx) mNe) mB)) (mAsg 4 (mTup (aCons (mVar 5) (aCons (mVar 6) aNil)))) nx)))) [.val (.tup (ys.map .str)), .val (dd2 a b c d t0 t1 u), .val (.int n), .val (.int m), .val s, .val (.int i), x6, x7, x8] = forL (gN 6) (sq (mAsgT (mCall (aCons (mVar 1) (aCons (mVar 5) (aCons (mVar 6) (aCons (mVar 2) (aCons (mVar 3) aNil))))) F_grid_reached) (gTp 2 (gsCons (gN 7) (gsCons (gN 8) gsNil))))
  (mIf (bAnd (bnd (mVar 4) fun x => ret (isNon x)) (bnd (m2 (m2 (mIxN 0 (mVar 7)) (mVar 8) mIx) (m2 (mIxN 0 (mVar 5)) (mVar 6) mIx) mNe) mB)) (mAsg 4 (mTup (aCons (mVar 5) (aCons (mVar 6) aNil)))) nx)) (rngD 0 m) [.val (.tup (ys.map .str)), .val (dd2 a b c d t0 t1 u), .val (.int n), .val (.int m), .val s, .val (.int i), x6, x7, x8] := by
    walk_at "dl"
    rw [if_pos (by unfold rOk; omega)]
    walk_at "dl"
    rw [show ((m : Nat) : Int).toNat = m by omega]
  rcases lays_in Q W i hi s x6 x7 x8 with ⟨s', k1, e', k2, y6, y7, y8, rfl⟩ | ⟨k1, k2⟩
  · exact .inl ⟨s', k1, _, .inl (ev.trans k2), _, _, _, _, rfl⟩
  · exact .inr ⟨k1, by rw [← ev] at k2; exact k2⟩
theorem due_out {a b c d t0 t1 u : Int} (Q : Dd a b c d t0 t1 u) {ys : List Str} {n m : Nat} (W : Drw ys n m) (f : D) (x5 x6 x7 : Sl) :
    (∃ s', foldO (stepO ys (rch a b c d t0 t1 u n m) m) (rngD 0 n) f = some s' ∧ ∃ e', forL (gN 5) (bnd (mRng1 (aCons (mVar 4) aNil)) (forL (gN 6) (sq (mAsg 7 (mCall (aCons (mVar 1) (aCons (mVar 5) (aCons (mVar 6) (aCons (mVar 3) (aCons (mVar 4) aNil))))) F_law_reached))
  (sq (mIf (bnd (mVar 7) fun x => ret (isNon x)) (mRet (ret (.str "off"))) nx)
  (mIf (bAnd (bnd (mVar 2) fun x => ret (isNon x)) (bnd (m2 (m2 (mIxN 0 (mIxN 7 (ret (.int 0)))) (mIxN 7 (ret (.int 1))) mIx) (m2 (mIxN 0 (mVar 5)) (mVar 6) mIx) mNe) mB)) (mAsg 2 (mTup (aCons (mVar 5) (aCons (mVar 6) aNil)))) nx))))) (rngD 0 n) [.val (.tup (ys.map .str)), .val (dd2 a b c d t0 t1 u), .val f, .val (.int n), .val (.int m), x5, x6, x7] = .ok .nx e' ∧ ∃ x5 x6 x7, e' = [.val (.tup (ys.map .str)), .val (dd2 a b c d t0 t1 u), .val s', .val (.int n), .val (.int m), x5, x6, x7]) ∨
    (foldO (stepO ys (rch a b c d t0 t1 u n m) m) (rngD 0 n) f = none ∧ badF (forL (gN 5) (bnd (mRng1 (aCons (mVar 4) aNil)) (forL (gN 6) (sq (mAsg 7 (mCall (aCons (mVar 1) (aCons (mVar 5) (aCons (mVar 6) (aCons (mVar 3) (aCons (mVar 4) aNil))))) F_law_reached))
  (sq (mIf (bnd (mVar 7) fun x => ret (isNon x)) (mRet (ret (.str "off"))) nx)
  (mIf (bAnd (bnd (mVar 2) fun x => ret (isNon x)) (bnd (m2 (m2 (mIxN 0 (mIxN 7 (ret (.int 0)))) (mIxN 7 (ret (.int 1))) mIx) (m2 (mIxN 0 (mVar 5)) (mVar 6) mIx) mNe) mB)) (mAsg 2 (mTup (aCons (mVar 5) (aCons (mVar 6) aNil)))) nx))))) (rngD 0 n) [.val (.tup (ys.map .str)), .val (dd2 a b c d t0 t1 u), .val f, .val (.int n), .val (.int m), x5, x6, x7])) := by
  refine forL_opt (fun s e => ∃ x5 x6 x7, e = [.val (.tup (ys.map .str)), .val (dd2 a b c d t0 t1 u), .val s, .val (.int n), .val (.int m), x5, x6, x7]) _ badF badF_ok _ _ _ ⟨x5, x6, x7, rfl⟩ ?_
  rintro d0 hd s e ⟨x5, x6, x7, rfl⟩
  obtain ⟨i, hi, rfl⟩ := mem_rngD hd
  rw [Int.zero_add]
  have W4 := W.m6
  refine ⟨_, rfl, ?_⟩
  unfold stepO
  dsimp only
  have ev : (bnd (mRng1 (aCons (mVar 4) aNil)) (forL (gN 6) (sq (mAsg 7 (mCall (aCons (mVar 1) (aCons (mVar 5) (aCons (mVar 6) (aCons (mVar 3) (aCons (mVar 4) aNil))))) F_law_reached))
  (sq (mIf (bnd (mVar 7) fun x => ret (isNon x)) (mRet (ret (.str "off"))) nx)
  (mIf (bAnd (bnd (mVar 2) fun x => ret (isNon x)) (bnd (m2 (m2 (mIxN 0 (mIxN 7 (ret (.int 0)))) (mIxN 7 (ret (.int 1))) mIx) (m2 (mIxN 0 (mVar 5)) (mVar 6) mIx) mNe) mB)) (mAsg 2 (mTup (aCons (mVar 5) (aCons (mVar 6) aNil)))) nx))))) [.val (.tup (ys.map .str)), .val (dd2 a b c d t0 t1 u), .val s, .val (.int n), .val (.int m), .val (.int i), x6, x7] = forL (gN 6) (sq (mAsg 7 (mCall (aCons (mVar 1) (aCons (mVar 5) (aCons (mVar 6) (aCons (mVar 3) (aCons (mVar 4) aNil))))) F_law_reached))
  (sq (mIf (bnd (mVar 7) fun x => ret (isNon x)) (mRet (ret (.str "off"))) nx)
  (mIf (bAnd (bnd (mVar 2) fun x => ret (isNon x)) (bnd (m2 (m2 (mIxN 0 (mIxN 7 (ret (.int 0)))) (mIxN 7 (ret (.int 1))) mIx) (m2 (mIxN 0 (mVar 5)) (mVar 6) mIx) mNe) mB)) (mAsg 2 (mTup (aCons (mVar 5) (aCons (mVar 6) aNil)))) nx))) (rngD 0 m) [.val (.tup (ys.map .str)), .val (dd2 a b c d t0 t1 u), .val s, .val (.int n), .val (.int m), .val (.int i), x6, x7] := by
    walk_at "dl"
    rw [if_pos (by unfold rOk; omega)]
    walk_at "dl"
    rw [show ((m : Nat) : Int).toNat = m by omega]
  rcases due_in Q W i hi s x6 x7 with ⟨s', k1, e', k2, y6, y7, rfl⟩ | ⟨k1, k2⟩
  · exact .inl ⟨s', k1, _, .inl (ev.trans k2), _, _, _, rfl⟩
  · exact .inr ⟨k1, by rw [← ev] at k2; exact k2⟩
def layR (r : Option D) : Rs := match r with | some f => .ok f | none => .exc "OffSheet" none
theorem e_lays {a b c d t0 t1 u : Int} (Q : Dd a b c d t0 t1 u) {ys : List Str} {n m : Nat} (W : Drw ys n m) : F_lays [.tup (ys.map .str), dd2 a b c d t0 t1 u] = layR (resO ys (rch a b c d t0 t1 u n m) n m) := by
  have W1 := W.n1; have W2 := W.n6; have W3 := W.m1; have W4 := W.m6
  obtain ⟨z, ch, p1, p2, _⟩ := at_ok W (r := 0) (k := 0) ⟨by omega, by omega⟩ ⟨by omega, by omega⟩
  have zl : z.length = m := by
    obtain ⟨y, y1, y2⟩ := strs_at (ys := ys) (q := 0) (by rw [W.len]; omega)
    rw [p1] at y1
    cases y1
    exact (W.row _ y2).2
  have lo := lays_out Q W .non .no .no .no .no
  unfold F_lays b_lays resO layR
  walk_at "dl"
  rw [W.len, p1]
  walk_at "dl"
  rw [if_pos p2, zl]
  walk_at "dl"
  rw [if_pos (by unfold rOk; omega)]
  walk_at "dl"
  rw [show ((n : Nat) : Int).toNat = n by omega]
  rcases lo with ⟨s', k1, e', k2, x5, x6, x7, x8, rfl⟩ | ⟨k1, e', k2⟩
  · rw [k1, k2]
    walk_at "dl"
  · rw [k1, k2]
    walk_at "dl"
theorem e_due {a b c d t0 t1 u : Int} (Q : Dd a b c d t0 t1 u) {ys : List Str} {n m : Nat} (W : Drw ys n m) : F_law_due [.tup (ys.map .str), dd2 a b c d t0 t1 u] = match resO ys (rch a b c d t0 t1 u n m) n m with | some f => .ok f | none => .ok (.str "off") := by
  have W1 := W.n1; have W2 := W.n6; have W3 := W.m1; have W4 := W.m6
  obtain ⟨z, ch, p1, p2, _⟩ := at_ok W (r := 0) (k := 0) ⟨by omega, by omega⟩ ⟨by omega, by omega⟩
  have zl : z.length = m := by
    obtain ⟨y, y1, y2⟩ := strs_at (ys := ys) (q := 0) (by rw [W.len]; omega)
    rw [p1] at y1
    cases y1
    exact (W.row _ y2).2
  have lo := due_out Q W .non .no .no .no
  unfold F_law_due b_law_due resO
  walk_at "dl"
  rw [W.len, p1]
  walk_at "dl"
  rw [if_pos p2, zl]
  walk_at "dl"
  rw [if_neg (by decide)]
  rw [if_pos (by unfold rOk; omega)]
  walk_at "dl"
  rw [show ((n : Nat) : Int).toNat = n by omega]
  rcases lo with ⟨s', k1, e', k2, x5, x6, x7, rfl⟩ | ⟨k1, e', k2⟩
  · rw [k1, k2]
    walk_at "dl"
  · rw [k1, k2]
    walk_at "dl"
/-! right -/
theorem foldO_inv {σ : Type} {step : σ → D → Option σ} (P : σ → Prop) (h : ∀ s d s', P s → step s d = some s' → P s') : ∀ (ds : List D) (s s' : σ), P s → foldO step ds s = some s' → P s'
  | [], s, s', p, e => by cases e; exact p
  | d :: r, s, s', p, e => by
    unfold foldO at e
    cases q : step s d with
    | none => rw [q] at e; cases e
    | some s1 => rw [q] at e; exact foldO_inv P h r s1 s' (h s d s1 p q) e
def shp2 (f : D) : Prop := f = .non ∨ ∃ i j : Int, f = .tup [.int i, .int j]
theorem res_shape {ys : List Str} {R : Int → Int → Option (Int × Int)} {n m : Nat} {f : D} (h : resO ys R n m = some f) : shp2 f := by
  refine foldO_inv shp2 (fun s d s' p e => ?_) _ _ _ (.inl rfl) h
  unfold stepO at e
  split at e
  · refine foldO_inv shp2 (fun s d s' p e => ?_) _ _ _ p e
    unfold stepI at e
    split at e
    · split at e
      · cases e
      · cases e
        split
        · split
          · exact p
          · exact .inr ⟨_, _, rfl⟩
        · exact p
    · cases e
  · cases e
def dueD (r : Option D) : D := match r with | some f => f | none => .str "off"
theorem e_others (a : Addr) : F_law_others a "OffSheet" [.opq a] = .ok (.bl false) := by
  unfold F_law_others b_law_others
  walk_at "dl"
theorem e_only (a : Addr) : F_law_only a "OffSheet" [.opq a] = .ok (.bl true) := by
  unfold F_law_only b_law_only
  walk_at "dl"
  rw [e_others]
  walk_at "dl"
theorem e_whole (a : Int) : F_law_whole [.int a] = .ok (.bl true) := by
  unfold F_law_whole b_law_whole
  walk_at "dl"
theorem e_right {drw one : D} (r : Option D) (hr : ∀ f, r = some f → shp2 f) (hl : F_lays [drw, one] = layR r) : F_law_right [drw, one, dueD r] = .ok (.bl true) := by
  have po : D.pl 1 (.str "off") = true := by decide +kernel
  have pn : D.pl 1 D.non = true := rfl
  unfold layR at hl
  unfold F_law_right b_law_right
  walk_at "dl"
  rw [hl]
  cases r with
  | none =>
    unfold dueD
    walk_at "dl"
    refine (congrArg (fun r => rF (sQ r _)) (mCatch_eq (r := .ok .nx [.val drw, .val one, .val (.str "off"), .val (.bl true), .val (.bl true), .val .non, .no]) fun a => ?_)).trans ?_
    · walk_at "dl"
      rw [e_only]
      walk_at "dl"
    · walk_at "dl"
      rw [if_pos (eqOk_pl po po), deq_self po]
      walk_at "dl"
  | some f =>
    unfold dueD
    rcases hr f rfl with rfl | ⟨i, j, rfl⟩
    · walk_at "dl"
      rw [if_pos (eqOk_pl pn po), deq_ne pn po (fun z => by cases z)]
      walk_at "dl"
    · have pt : D.pl 1 (.tup [.int i, .int j]) = true := rfl
      walk_at "dl"
      rw [if_pos (eqOk_pl pt po), deq_ne pt po (fun z => by cases z)]
      walk_at "dl"
      rw [e_whole]
      walk_at "dl"
      rw [e_whole]
      walk_at "dl"
      rw [if_pos (eqOk_pl pt pt), deq_self pt]
theorem spot_rest {a b t u i j n m : Int} : S0 a b t u i j n m - S0 a b (t.fmod u) u i j n m = u * (t.fdiv u * n * m) := by
  have h := Int.fmod_add_mul_fdiv t u
  have e : t = t.fmod u + u * t.fdiv u := h.symm
  unfold S0
  generalize t.fmod u = x at *
  generalize t.fdiv u = y at *
  subst e
  grind
theorem rch_rest {a b c d t0 t1 u n m : Int} (u0 : 0 < u) (hn : 0 < n) (hm : 0 < m) : rch a b c d (t0.fmod u) (t1.fmod u) u n m = rch a b c d t0 t1 u n m := by
  funext i j
  have e0 := spot_rest (a := a) (b := b) (t := t0) (u := u) (i := i) (j := j) (n := n) (m := m)
  have e1 := spot_rest (a := c) (b := d) (t := t1) (u := u) (i := i) (j := j) (n := n) (m := m)
  unfold rch
  generalize S0 a b t0 u i j n m = s at *
  generalize S0 c d t1 u i j n m = r at *
  generalize S0 a b (t0.fmod u) u i j n m = s' at *
  generalize S0 c d (t1.fmod u) u i j n m = r' at *
  have p0 : 0 < m * u := Int.mul_pos hm u0
  have p1 : 0 < n * u := Int.mul_pos hn u0
  have f0 : s.fmod (m * u) = s'.fmod (m * u) := fmod_congr p0 ⟨t0.fdiv u * n, by rw [e0]; grind⟩
  have f1 : r.fmod (n * u) = r'.fmod (n * u) := fmod_congr p1 ⟨t1.fdiv u * m, by rw [e1]; grind⟩
  unfold spotR
  rw [f0, f1]
  by_cases k0 : s'.fmod (m * u) = 0
  · by_cases k1 : r'.fmod (n * u) = 0
    · rw [if_pos ⟨k0, k1⟩, if_pos ⟨k0, k1⟩]
      obtain ⟨q0, h0⟩ := (fmod_iff p0).mp k0
      obtain ⟨q1, h1⟩ := (fmod_iff p1).mp k1
      have s0 : s = m * u * (q0 + t0.fdiv u * n) := by grind
      have s1 : r = n * u * (q1 + t1.fdiv u * m) := by grind
      rw [h0, h1, s0, s1, fdiv_mul (by omega), fdiv_mul (by omega), fdiv_mul (by omega), fdiv_mul (by omega)]
      rw [fmod_congr (a := q0 + t0.fdiv u * n) (b := q0) hn ⟨t0.fdiv u, by grind⟩, fmod_congr (a := q1 + t1.fdiv u * m) (b := q1) hm ⟨t1.fdiv u, by grind⟩]
    · rw [if_neg (fun z => k1 z.2), if_neg (fun z => k1 z.2)]
  · rw [if_neg (fun z => k0 z.1), if_neg (fun z => k0 z.1)]
/-! rows -/
def LL (X : List (List Int)) : D := .lst (X.map iL)
def g2 (X : List (List Int)) (i j : Nat) : Int := (X.getD i []).getD j 0
structure Sq (X : List (List Int)) : Prop where
  ex : ∃ a b c d, X = [[a, b], [c, d]]
def Bd (N : Nat) (X : List (List Int)) : Prop := ∀ i j, i < 2 → j < 2 → ib (g2 X i j) ≤ N
theorem Bd.mono {N M : Nat} {X : List (List Int)} (h : Bd N X) (k : N ≤ M) : Bd M X := fun i j hi hj => Nat.le_trans (h i j hi hj) k
theorem bd4 {N : Nat} {a b c d : Int} (ha : ib a ≤ N) (hb : ib b ≤ N) (hc : ib c ≤ N) (hd : ib d ≤ N) : Bd N [[a, b], [c, d]] := fun i j hi hj => by
  have : i = 0 ∨ i = 1 := by omega
  have : j = 0 ∨ j = 1 := by omega
  rcases ‹i = 0 ∨ i = 1› with rfl | rfl <;> rcases ‹j = 0 ∨ j = 1› with rfl | rfl <;> assumption
theorem at2_ {X : List (List Int)} (h : Sq X) {i : Nat} (hi : i < 2) : ∃ x, atI (X.map iL) (i : Int) = some (iL x) ∧ ∀ j : Nat, j < 2 → atI (x.map D.int) (j : Int) = some (.int (g2 X i j)) := by
  obtain ⟨a, b, c, d, rfl⟩ := h.ex
  have : i = 0 ∨ i = 1 := by omega
  rcases this with rfl | rfl
  · exact ⟨[a, b], atI_nat (j := 0) rfl, fun j hj => atK (ns := [a, b]) hj⟩
  · exact ⟨[c, d], atI_nat (j := 1) rfl, fun j hj => atK (ns := [c, d]) hj⟩
def pr (X Y : List (List Int)) (i k : Nat) : Int := g2 X i 0 * g2 Y 0 k + g2 X i 1 * g2 Y 1 k
def mul2 (X Y : List (List Int)) : List (List Int) := [[pr X Y 0 0, pr X Y 0 1], [pr X Y 1 0, pr X Y 1 1]]
theorem times_in {X Y : List (List Int)} {N M : Nat} (hX : Sq X) (hY : Sq Y) (bX : Bd N X) (bY : Bd M Y) (hs : N + M ≤ 100000) {i k : Nat} (hi : i < 2) (hk : k < 2) (x3 : Sl) :
    (mLc [5] (mRng1 (aCons (mVar 2) aNil)) (gN 5) (ret true) (m2 (m2 (mIxN 0 (mVar 4)) (mVar 5) mIx) (m2 (mIxN 1 (mVar 5)) (mVar 6) mIx) (g2i iMul))) [.val (LL X), .val (LL Y), .val (.int 2), x3, .val (.int i), .no, .val (.int k)] = .ok (iL [g2 X i 0 * g2 Y 0 k, g2 X i 1 * g2 Y 1 k]) [.val (LL X), .val (LL Y), .val (.int 2), x3, .val (.int i), .no, .val (.int k)] := by
  have h := mLc_rng (vs := [5]) (fi := (mRng1 (aCons (mVar 2) aNil))) (g := gN 5) (el := (m2 (m2 (mIxN 0 (mVar 4)) (mVar 5) mIx) (m2 (mIxN 1 (mVar 5)) (mVar 6) mIx) (g2i iMul))) (e := [.val (LL X), .val (LL Y), .val (.int 2), x3, .val (.int i), .no, .val (.int k)]) (e0 := [.val (LL X), .val (LL Y), .val (.int 2), x3, .val (.int i), .no, .val (.int k)]) (m := 2) (fun j => g2 X i j * g2 Y j k) (by
    walk_at "dl"
    rw [if_pos (by decide)]
    rfl) rfl rfl (by decide) fun j hj => ⟨_, _, rfl, by
      obtain ⟨x, x1, x2⟩ := at2_ hX hi
      obtain ⟨y, y1, y2⟩ := at2_ hY hj
      unfold LL
      walk_at "dl"
      rw [x1]
      walk_at "dl"
      rw [x2 j hj]
      walk_at "dl"
      rw [y1]
      walk_at "dl"
      rw [y2 k hk]
      walk_at "dl"
      rw [if_pos (mi (bX i j hi hj) (bY j k hj hk) hs)], by rfl⟩
  exact h
theorem times_mid {X Y : List (List Int)} {N M : Nat} (hX : Sq X) (hY : Sq Y) (bX : Bd N X) (bY : Bd M Y) (hs : N + M ≤ 100000) {i : Nat} (hi : i < 2) (l : List D) :
    (mLc [6] (mRng1 (aCons (mVar 2) aNil)) (gN 6) (ret true) (bnd (aCons (mLc [5] (mRng1 (aCons (mVar 2) aNil)) (gN 5) (ret true) (m2 (m2 (mIxN 0 (mVar 4)) (mVar 5) mIx) (m2 (mIxN 1 (mVar 5)) (mVar 6) mIx) (g2i iMul))) aNil) cSum)) [.val (LL X), .val (LL Y), .val (.int 2), .own none (.lst l), .val (.int i), .no, .no] = .ok (iL [pr X Y i 0, pr X Y i 1]) [.val (LL X), .val (LL Y), .val (.int 2), .own none (.lst l), .val (.int i), .no, .no] := by
  have h := mLc_rng (vs := [6]) (fi := (mRng1 (aCons (mVar 2) aNil))) (g := gN 6) (el := (bnd (aCons (mLc [5] (mRng1 (aCons (mVar 2) aNil)) (gN 5) (ret true) (m2 (m2 (mIxN 0 (mVar 4)) (mVar 5) mIx) (m2 (mIxN 1 (mVar 5)) (mVar 6) mIx) (g2i iMul))) aNil) cSum)) (e := [.val (LL X), .val (LL Y), .val (.int 2), .own none (.lst l), .val (.int i), .no, .no]) (e0 := [.val (LL X), .val (LL Y), .val (.int 2), .own none (.lst l), .val (.int i), .no, .no]) (m := 2) (fun k => pr X Y i k) (by
    walk_at "dl"
    rw [if_pos (by decide)]
    rfl) rfl rfl (by decide) fun k hk => ⟨_, _, rfl, by
      walk_at "dl"
      rw [times_in hX hY bX bY hs hi hk]
      walk_at "dl"
      simp only [List.sum_cons, List.sum_nil, Int.add_zero]
      rfl, by rfl⟩
  exact h
theorem e_times {X Y : List (List Int)} {N M : Nat} (hX : Sq X) (hY : Sq Y) (bX : Bd N X) (bY : Bd M Y) (hs : N + M ≤ 100000) : F_law_times [LL X, LL Y] = .ok (LL (mul2 X Y)) := by
  have t0 := times_mid hX hY bX bY hs (i := 0) (by decide) []
  have t1 := times_mid hX hY bX bY hs (i := 1) (by decide) [iL [pr X Y 0 0, pr X Y 0 1]]
  have rg : rngD 0 2 = [.int 0, .int 1] := rfl
  have lX : LL X = .lst (X.map iL) := rfl
  have XL : X.length = 2 := by obtain ⟨a, b, c, d, rfl⟩ := hX.ex; rfl
  have b0 : (mApp 3 (mLc [6] (mRng1 (aCons (mVar 2) aNil)) (gN 6) (ret true) (bnd (aCons (mLc [5] (mRng1 (aCons (mVar 2) aNil)) (gN 5) (ret true) (m2 (m2 (mIxN 0 (mVar 4)) (mVar 5) mIx) (m2 (mIxN 1 (mVar 5)) (mVar 6) mIx) (g2i iMul))) aNil) cSum))) [.val (LL X), .val (LL Y), .val (.int 2), .own none (.lst []), .val (.int 0), .no, .no] = .ok .nx [.val (LL X), .val (LL Y), .val (.int 2), .own none (.lst [iL [pr X Y 0 0, pr X Y 0 1]]), .val (.int 0), .no, .no] := by
    walk_at "dl"
    rw [show (0 : Int) = ((0 : Nat) : Int) from rfl, t0]
    walk_at "dl"
    rw [if_pos (by decide)]
  have b1 : (mApp 3 (mLc [6] (mRng1 (aCons (mVar 2) aNil)) (gN 6) (ret true) (bnd (aCons (mLc [5] (mRng1 (aCons (mVar 2) aNil)) (gN 5) (ret true) (m2 (m2 (mIxN 0 (mVar 4)) (mVar 5) mIx) (m2 (mIxN 1 (mVar 5)) (mVar 6) mIx) (g2i iMul))) aNil) cSum))) [.val (LL X), .val (LL Y), .val (.int 2), .own none (.lst [iL [pr X Y 0 0, pr X Y 0 1]]), .val (.int 1), .no, .no] = .ok .nx [.val (LL X), .val (LL Y), .val (.int 2), .own none (.lst [iL [pr X Y 0 0, pr X Y 0 1], iL [pr X Y 1 0, pr X Y 1 1]]), .val (.int 1), .no, .no] := by
    walk_at "dl"
    rw [show (1 : Int) = ((1 : Nat) : Int) from rfl, t1]
    walk_at "dl"
    rw [if_pos (by decide)]
  have lp : forL (gN 4) (mApp 3 (mLc [6] (mRng1 (aCons (mVar 2) aNil)) (gN 6) (ret true) (bnd (aCons (mLc [5] (mRng1 (aCons (mVar 2) aNil)) (gN 5) (ret true) (m2 (m2 (mIxN 0 (mVar 4)) (mVar 5) mIx) (m2 (mIxN 1 (mVar 5)) (mVar 6) mIx) (g2i iMul))) aNil) cSum))) (rngD 0 2) [.val (LL X), .val (LL Y), .val (.int 2), .own none (.lst []), .no, .no, .no] = .ok .nx [.val (LL X), .val (LL Y), .val (.int 2), .own none (.lst [iL [pr X Y 0 0, pr X Y 0 1], iL [pr X Y 1 0, pr X Y 1 1]]), .val (.int 1), .no, .no] := by
    rw [rg, forL_cons, bnd_ok (show gN 4 (.int 0) [.val (LL X), .val (LL Y), .val (.int 2), .own none (.lst []), .no, .no, .no] = .ok () [.val (LL X), .val (LL Y), .val (.int 2), .own none (.lst []), .val (.int 0), .no, .no] from rfl), a_again, b0, a_gnx, forL_cons,
      bnd_ok (show gN 4 (.int 1) [.val (LL X), .val (LL Y), .val (.int 2), .own none (.lst [iL [pr X Y 0 0, pr X Y 0 1]]), .val (.int 0), .no, .no] = .ok () [.val (LL X), .val (LL Y), .val (.int 2), .own none (.lst [iL [pr X Y 0 0, pr X Y 0 1]]), .val (.int 1), .no, .no] from rfl), a_again, b1, a_gnx]
    rfl
  unfold F_law_times b_law_times
  walk_at "dl"
  rw [lX]
  walk_at "dl"
  rw [XL]
  walk_at "dl"
  rw [if_pos (by decide)]
  walk_at "dl"
  rw [show Int.toNat 2 = 2 from rfl, ← lX, lp]
  walk_at "dl"
  rfl
theorem sq_mul (X Y : List (List Int)) : Sq (mul2 X Y) := ⟨⟨_, _, _, _, rfl⟩⟩
theorem bd_mul {X Y : List (List Int)} {N M : Nat} (bX : Bd N X) (bY : Bd M Y) : Bd (N + M + 1) (mul2 X Y) := by
  have h : ∀ i k, i < 2 → k < 2 → ib (pr X Y i k) ≤ N + M + 1 := fun i k hi hk => Nat.le_trans (intBits_add_le (intBits_mul_le (bX i 0 hi (by decide)) (bY 0 k (by decide) hk)) (intBits_mul_le (bX i 1 hi (by decide)) (bY 1 k (by decide) hk))) (by omega)
  exact bd4 (h 0 0 (by decide) (by decide)) (h 0 1 (by decide) (by decide)) (h 1 0 (by decide) (by decide)) (h 1 1 (by decide) (by decide))
def RowsOk (d : D) : Prop := (∃ X, d = LL X ∧ Sq X ∧ Bd 200 X) ∨ (∃ x, d = .lst [iL [0, 1, 0], iL [1, 0, 0], iL [0, 0, x]])
theorem rows1 (q : Int) (x1 x3 x4 : Sl) (x0 : Sl) : ∃ e', forL (gN 3) (mAsg 2 (mCall (aCons (mLst (aCons (mLst (aCons (ret (.int 1)) (aCons (bnd (ret (.int 1)) (u1i fun i => ret (.int (-i)))) aNil))) (aCons (mLst (aCons (ret (.int 1)) (aCons (ret (.int 0)) aNil))) aNil))) (aCons (mVar 2) aNil)) F_law_times)) (rngD 0 (q.fmod 6).toNat) [x0, x1, .val (LL [[1, 0], [0, 1]]), x3, x4] = .ok .nx e' ∧ ∃ X x3, e' = [x0, x1, .val (LL X), x3, x4] ∧ Sq X ∧ Bd 100 X := by
  have h6 := fmod_rng (a := q) (v := 6) (by decide)
  obtain ⟨e', h1, X, y3, h2, h3, h4⟩ := forL_rng0 (m := (q.fmod 6).toNat) (g := gN 3) (b := (mAsg 2 (mCall (aCons (mLst (aCons (mLst (aCons (ret (.int 1)) (aCons (bnd (ret (.int 1)) (u1i fun i => ret (.int (-i)))) aNil))) (aCons (mLst (aCons (ret (.int 1)) (aCons (ret (.int 0)) aNil))) aNil))) (aCons (mVar 2) aNil)) F_law_times))) (R := fun k e => ∃ X x3, e = [x0, x1, .val (LL X), x3, x4] ∧ Sq X ∧ Bd (1 + 3 * k) X) ⟨[[1, 0], [0, 1]], x3, rfl, ⟨_, _, _, _, rfl⟩, bd4 (by decide) (by decide) (by decide) (by decide)⟩ (fun k hk e he => by
    obtain ⟨X, y3, rfl, sX, bX⟩ := he
    have bM : Bd 1 [[1, -1], [1, 0]] := bd4 (by decide) (by decide) (by decide) (by decide)
    have et := e_times (X := [[1, -1], [1, 0]]) (Y := X) ⟨⟨_, _, _, _, rfl⟩⟩ sX bM bX (by omega)
    refine ⟨_, [x0, x1, .val (LL (mul2 [[1, -1], [1, 0]] X)), .val (.int k), x4], rfl, .inl ?_, _, _, rfl, sq_mul _ _, (bd_mul bM bX).mono (by omega)⟩
    walk_at "dl"
    rw [show F_law_times [.lst [.lst [.int 1, .int (-1)], .lst [.int 1, .int 0]], LL X] = _ from et]
    walk_at "dl")
  exact ⟨e', h1, X, y3, h2, h3, h4.mono (by omega)⟩
theorem p12 : ib ((10 : Int) ^ Int.toNat 12) ≤ 49 := intBits_pow_le (m := 4) (by decide) 12
theorem rows2 (q : Int) (hq : ib q ≤ 1048576) (x1 x3 x4 : Sl) : ∃ e', forL (gN 3) (sq (mAsg 4 (m2 (m2 (m2 (m2 (mVar 0) (ret (.int 3)) (g2i iDiv)) (ret (.int 2)) mAdd) (ret (.int 5)) (g2i iMod)) (ret (.int 2)) (g2i iSub)))
  (sq (mIf (bnd (m2 (m2 (mVar 0) (ret (.int 3)) (g2i iMod)) (ret (.int 2)) mEq) mB) (mAsg 4 (m2 (m2 (m2 (mVar 0) (ret (.int 3)) (g2i iDiv)) (m2 (m2 (ret (.int 2)) (m2 (ret (.int 10)) (ret (.int 12)) (g2i iPow)) (g2i iMul)) (ret (.int 1)) mAdd) (g2i iMod)) (m2 (ret (.int 10)) (ret (.int 12)) (g2i iPow)) (g2i iSub))) nx)
  (sq (mAsg 2 (mCall (aCons (m2 (mLst (aCons (mLst (aCons (mLst (aCons (ret (.int 1)) (aCons (mVar 4) aNil))) (aCons (mLst (aCons (ret (.int 0)) (aCons (ret (.int 1)) aNil))) aNil))) (aCons (mLst (aCons (mLst (aCons (ret (.int 1)) (aCons (ret (.int 0)) aNil))) (aCons (mLst (aCons (mVar 4) (aCons (ret (.int 1)) aNil))) aNil))) aNil))) (m2 (mVar 3) (ret (.int 2)) (g2i iMod)) mIx) (aCons (mVar 2) aNil)) F_law_times))
  (mAsg 0 (m2 (mVar 0) (ret (.int 16)) (g2i iDiv)))))) (rngD 0 3) [.val (.int q), x1, .val (LL [[1, 0], [0, 1]]), x3, x4] = .ok .nx e' ∧ ∃ q' X x3 x4, e' = [.val (.int q'), x1, .val (LL X), x3, x4] ∧ Sq X ∧ Bd 200 X := by
  obtain ⟨e', h1, q', X, y3, y4, h2, hq', h3, h4⟩ := forL_rng0 (m := 3) (g := gN 3) (b := (sq (mAsg 4 (m2 (m2 (m2 (m2 (mVar 0) (ret (.int 3)) (g2i iDiv)) (ret (.int 2)) mAdd) (ret (.int 5)) (g2i iMod)) (ret (.int 2)) (g2i iSub)))
  (sq (mIf (bnd (m2 (m2 (mVar 0) (ret (.int 3)) (g2i iMod)) (ret (.int 2)) mEq) mB) (mAsg 4 (m2 (m2 (m2 (mVar 0) (ret (.int 3)) (g2i iDiv)) (m2 (m2 (ret (.int 2)) (m2 (ret (.int 10)) (ret (.int 12)) (g2i iPow)) (g2i iMul)) (ret (.int 1)) mAdd) (g2i iMod)) (m2 (ret (.int 10)) (ret (.int 12)) (g2i iPow)) (g2i iSub))) nx)
  (sq (mAsg 2 (mCall (aCons (m2 (mLst (aCons (mLst (aCons (mLst (aCons (ret (.int 1)) (aCons (mVar 4) aNil))) (aCons (mLst (aCons (ret (.int 0)) (aCons (ret (.int 1)) aNil))) aNil))) (aCons (mLst (aCons (mLst (aCons (ret (.int 1)) (aCons (ret (.int 0)) aNil))) (aCons (mLst (aCons (mVar 4) (aCons (ret (.int 1)) aNil))) aNil))) aNil))) (m2 (mVar 3) (ret (.int 2)) (g2i iMod)) mIx) (aCons (mVar 2) aNil)) F_law_times))
  (mAsg 0 (m2 (mVar 0) (ret (.int 16)) (g2i iDiv))))))) (R := fun k e => ∃ q' X x3 x4, e = [.val (.int q'), x1, .val (LL X), x3, x4] ∧ ib q' ≤ 1048576 ∧ Sq X ∧ Bd (1 + 60 * k) X) ⟨q, [[1, 0], [0, 1]], x3, x4, rfl, hq, ⟨_, _, _, _, rfl⟩, bd4 (by decide) (by decide) (by decide) (by decide)⟩ (fun k hk e he => by
    obtain ⟨q', X, y3, y4, rfl, hq', sX, bX⟩ := he
    have fin : ∀ v : Int, ib v ≤ 55 → ∃ d, atI [D.lst [.lst [.int 1, .int v], .lst [.int 0, .int 1]], .lst [.lst [.int 1, .int 0], .lst [.int v, .int 1]]] ((k : Int).fmod 2) = some d ∧ ∃ Y, F_law_times [d, LL X] = .ok (LL Y) ∧ Sq Y ∧ Bd (1 + 60 * (k + 1)) Y := fun v hv => by
      have h2 := fmod_rng (a := (k : Int)) (v := 2) (by decide)
      generalize (k : Int).fmod 2 = r at h2
      have : r = 0 ∨ r = 1 := by omega
      have b1 : Bd 55 [[1, v], [0, 1]] := bd4 (by decide) hv (by decide) (by decide)
      have b2 : Bd 55 [[1, 0], [v, 1]] := bd4 (by decide) (by decide) hv (by decide)
      rcases this with rfl | rfl
      · exact ⟨_, at0, _, e_times (X := [[1, v], [0, 1]]) (Y := X) ⟨⟨_, _, _, _, rfl⟩⟩ sX b1 bX (by omega), sq_mul _ _, (bd_mul b1 bX).mono (by omega)⟩
      · exact ⟨_, at1, _, e_times (X := [[1, 0], [v, 1]]) (Y := X) ⟨⟨_, _, _, _, rfl⟩⟩ sX b2 bX (by omega), sq_mul _ _, (bd_mul b2 bX).mono (by omega)⟩
    have v1 : ib (((q'.fdiv 3) + 2).fmod 5 - 2) ≤ 55 := Nat.le_trans (intBits_sub_le (bits_fmod_by (n := 3) (by decide) (by decide)) (n := 2) (by decide)) (by decide)
    have p2 : ib (2 * (10 : Int) ^ Int.toNat 12 + 1) ≤ 53 := Nat.le_trans (intBits_add_le (intBits_mul_le (m := 2) (by decide) p12) (n := 1) (by decide)) (by decide)
    have n2 : ¬ 2 * (10 : Int) ^ Int.toNat 12 + 1 = 0 := by decide
    have v2 : ib ((q'.fdiv 3).fmod (2 * (10 : Int) ^ Int.toNat 12 + 1) - 10 ^ Int.toNat 12) ≤ 55 := Nat.le_trans (intBits_sub_le (bits_fmod_by n2 p2) p12) (by decide)
    have m0 : IntMulOk 2 ((10 : Int) ^ Int.toNat 12) := mi (m := 2) (by decide) p12
    by_cases h3 : q'.fmod 3 = 2
    · obtain ⟨d, d1, Y, d2, d3, d4⟩ := fin _ v2
      refine ⟨_, [.val (.int (q'.fdiv 16)), x1, .val (LL Y), .val (.int k), .val (.int ((q'.fdiv 3).fmod (2 * (10 : Int) ^ Int.toNat 12 + 1) - 10 ^ Int.toNat 12))], rfl, .inl ?_, _, _, _, _, rfl, intBits_fdiv_le hq', d3, d4⟩
      walk_at "dl"
      rw [if_pos h3, if_pos m0]
      walk_at "dl"
      rw [if_pos n2]
      walk_at "dl"
      rw [d1]
      walk_at "dl"
      rw [d2]
      walk_at "dl"
    · obtain ⟨d, d1, Y, d2, d3, d4⟩ := fin _ v1
      refine ⟨_, [.val (.int (q'.fdiv 16)), x1, .val (LL Y), .val (.int k), .val (.int (((q'.fdiv 3) + 2).fmod 5 - 2))], rfl, .inl ?_, _, _, _, _, rfl, intBits_fdiv_le hq', d3, d4⟩
      walk_at "dl"
      rw [if_neg h3]
      walk_at "dl"
      rw [d1]
      walk_at "dl"
      rw [d2]
      walk_at "dl")
  exact ⟨e', h1, q', X, y3, y4, h2, h3, h4.mono (by decide)⟩
theorem sw2 {X : List (List Int)} {N : Nat} (h : Sq X) (b : Bd N X) : ∃ x y, atI (X.map iL) 0 = some (iL x) ∧ atI (X.map iL) 1 = some (iL y) ∧ Sq [y, x] ∧ Bd N [y, x] := by
  obtain ⟨p, q, r, t, rfl⟩ := h.ex
  exact ⟨[p, q], [r, t], atI_nat (j := 0) rfl, atI_nat (j := 1) rfl, ⟨_, _, _, _, rfl⟩, bd4 (b 1 0 (by decide) (by decide)) (b 1 1 (by decide) (by decide)) (b 0 0 (by decide) (by decide)) (b 0 1 (by decide) (by decide))⟩
theorem sgb (q : Int) : ib (1 - 2 * q.fmod 2) ≤ 200 := Nat.le_trans (intBits_sub_le (m := 1) (by decide) (intBits_mul_le (m := 2) (by decide) (bits_fmod_by (n := 2) (by decide) (by decide)))) (by decide)
theorem sgm (q : Int) : IntMulOk 2 (q.fmod 2) := mi (m := 2) (by decide) (bits_fmod_by (n := 2) (by decide) (by decide))
theorem e_rows (c : Int) (hc : ib c ≤ 1048576) : ∃ d, F_law_rows [.int c] = .ok d ∧ RowsOk d := by
  have h4 := fmod_rng (a := c) (v := 4) (by decide)
  have hq : ib (c.fdiv 4) ≤ 1048576 := intBits_fdiv_le hc
  have l0 : D.lst [.lst [.int 1, .int 0], .lst [.int 0, .int 1]] = LL [[1, 0], [0, 1]] := rfl
  unfold F_law_rows b_law_rows
  walk_at "dl"
  generalize c.fdiv 4 = q at hq
  generalize c.fmod 4 = r at h4
  have : r = 0 ∨ r = 1 ∨ r = 2 ∨ r = 3 := by omega
  rcases this with rfl | rfl | rfl | rfl
  · rw [if_pos rfl, if_pos (sgm _)]
    walk_at "dl"
    rw [if_pos (sgm _)]
    walk_at "dl"
    by_cases hs : (q.fdiv 4).fmod 2 = 1
    · rw [if_pos hs]
      walk_at "dl"
      rw [if_neg (by decide), if_neg (by decide), if_neg (by decide)]
      exact ⟨_, rfl, .inl ⟨[[0, 1 - 2 * (q.fdiv 2).fmod 2], [1 - 2 * q.fmod 2, 0]], rfl, ⟨_, _, _, _, rfl⟩, bd4 (by decide) (sgb _) (sgb _) (by decide)⟩⟩
    · rw [if_neg hs]
      walk_at "dl"
      rw [if_neg (by decide), if_neg (by decide), if_neg (by decide)]
      exact ⟨_, rfl, .inl ⟨[[1 - 2 * q.fmod 2, 0], [0, 1 - 2 * (q.fdiv 2).fmod 2]], rfl, ⟨_, _, _, _, rfl⟩, bd4 (sgb _) (by decide) (by decide) (sgb _)⟩⟩
  · have h6 := fmod_rng (a := q) (v := 6) (by decide)
    obtain ⟨e', k1, X, x3, rfl, sX, bX⟩ := rows1 q (.val (.int 1)) .no .no (.val (.int q))
    obtain ⟨x, y, a0, a1, sY, bY⟩ := sw2 sX bX
    rw [if_neg (by decide), if_pos rfl, if_pos (by unfold rOk; omega), l0, k1]
    walk_at "dl"
    by_cases hs : (q.fdiv 6).fmod 2 = 1
    · rw [if_pos hs]
      unfold LL
      walk_at "dl"
      rw [a1]
      walk_at "dl"
      rw [a0]
      walk_at "dl"
      rw [if_neg (by decide), if_neg (by decide)]
      exact ⟨_, rfl, .inl ⟨[y, x], rfl, sY, bY.mono (by decide)⟩⟩
    · rw [if_neg hs]
      walk_at "dl"
      rw [if_neg (by decide), if_neg (by decide)]
      exact ⟨_, rfl, .inl ⟨X, rfl, sX, bX.mono (by decide)⟩⟩
  · obtain ⟨e', k1, q', X, x3, x4, rfl, sX, bX⟩ := rows2 q hq (.val (.int 2)) .no .no
    rw [if_neg (by decide), if_neg (by decide), if_pos rfl, if_pos (by decide), l0, show Int.toNat 3 = 3 from rfl, k1]
    walk_at "dl"
    rw [if_neg (by decide)]
    exact ⟨_, rfl, .inl ⟨X, rfl, sX, bX⟩⟩
  · rw [if_neg (by decide), if_neg (by decide), if_neg (by decide)]
    by_cases hs : q.fmod 3 = 0
    · rw [if_pos hs, if_pos (sgm _)]
      walk_at "dl"
      exact ⟨_, rfl, .inr ⟨_, rfl⟩⟩
    · rw [if_neg hs]
      walk_at "dl"
      exact ⟨_, rfl, .inl ⟨[[1, 0], [0, 1]], rfl, ⟨_, _, _, _, rfl⟩, bd4 (by decide) (by decide) (by decide) (by decide)⟩⟩
/-! the deed -/
abbrev cl (c0 c1 c2 c3 c4 c5 c6 c7 : Int) : D := .lst [.int c0, .int c1, .int c2, .int c3, .int c4, .int c5, .int c6, .int c7]
def DeedOk (d : D) : Prop := (∃ a b c e t0 t1 u, d = dd2 a b c e t0 t1 u ∧ Dd a b c e t0 t1 u) ∨ (∃ X t0 t1 u, d = .tup [X, iT [t0, t1, 0], .int u] ∧ 0 < u)
noncomputable def DT : M Fl := (sq (mAsg 6 (mCall (aCons (mCall (aCons (mIxN 4 (ret (.int 0))) (aCons (mIxN 4 (ret (.int 1))) aNil)) F_law_common) (aCons (mVar 5) aNil)) F_law_common))
  (sq (mOwn 4 (unL (mLc [7] (mSeq (mVar 4)) (gN 7) (ret true) (m2 (mVar 7) (mVar 6) (g2i iDiv)))))
  (sq (mIf (bnd (m2 (has 3 (onSl 3 fun d => cLen [d])) (ret (.int 3)) mEq) mB) (mApp 4 (ret (.int 0))) nx)
  (mRet (mTup (aCons (bnd (aCons (mLc [8] (mSeq (mVar 3)) (gN 8) (ret true) (bnd (aCons (mVar 8) aNil) cTuple)) aNil) cTuple) (aCons (bnd (aCons (mVar 4) aNil) cTuple) (aCons (m2 (mVar 5) (mVar 6) (g2i iDiv)) aNil))))))))
theorem lc7 {t0 t1 k : Int} (hk : DivOk k) (x0 x1 x2 x3 x5 : Sl) : (mLc [7] (mSeq (mVar 4)) (gN 7) (ret true) (m2 (mVar 7) (mVar 6) (g2i iDiv))) [x0, x1, x2, x3, .own none (.lst [.int t0, .int t1]), x5, .val (.int k), .no, .no] = .ok (iL [t0.fdiv k, t1.fdiv k]) [x0, x1, x2, x3, .val (.lst [.int t0, .int t1]), x5, .val (.int k), .no, .no] := by
  exact mLc_ints (ns := [t0, t1]) (fun t => t.fdiv k) (e0 := [x0, x1, x2, x3, .val (.lst [.int t0, .int t1]), x5, .val (.int k), .no, .no]) (by walk_at "dl") rfl rfl (by simp [sizeLine]) fun n _ => ⟨_, _, rfl, by walk_at "dl"; rw [if_pos hk], by rfl⟩
def tupF (d : D) : D := match d with | .lst l => .tup l | d => d
theorem lc8 {rs : List (List D)} (hl : rs.length ≤ 10) (x0 x1 x2 x4 x5 x6 : Sl) : (mLc [8] (mSeq (mVar 3)) (gN 8) (ret true) (bnd (aCons (mVar 8) aNil) cTuple)) [x0, x1, x2, .val (.lst (rs.map .lst)), x4, x5, x6, .no, .no] = .ok (.lst (rs.map .tup)) [x0, x1, x2, .val (.lst (rs.map .lst)), x4, x5, x6, .no, .no] := by
  have h := mLc_map (vs := [8]) (fi := mSeq (mVar 3)) (g := gN 8) (el := (bnd (aCons (mVar 8) aNil) cTuple)) (e := [x0, x1, x2, .val (.lst (rs.map .lst)), x4, x5, x6, .no, .no]) (e0 := [x0, x1, x2, .val (.lst (rs.map .lst)), x4, x5, x6, .no, .no]) (ds := rs.map .lst) tupF (by walk_at "dl") rfl rfl (by rw [List.length_map]; exact le_size (by omega)) fun d hd => by
    obtain ⟨l, _, rfl⟩ := List.mem_map.mp hd
    exact ⟨_, _, rfl, by walk_at "dl"; rfl, by rfl⟩
  rw [h, List.map_map]; rfl
theorem gd_ne {a b : Int} (h : b ≠ 0) : gd a b ≠ 0 := fun z => h (gd_zero z).2
theorem deed_tail {rd : D} (hr : RowsOk rd) {t0 t1 un : Int} (h0 : ib t0 ≤ 300) (h1 : ib t1 ≤ 300) (hu : ib un ≤ 100) (u0 : 0 < un) (x0 x1 x2 : Sl) : ∃ d e, DT [x0, x1, x2, .val rd, .own none (.lst [.int t0, .int t1]), .val (.int un), .no, .no, .no] = .ok (.rt d) e ∧ DeedOk d := by
  have kn := gd_ne (a := gd t0 t1) (b := un) (by omega)
  have kd := gd_r (gd t0 t1) un
  have kp := gd_nonneg (gd t0 t1) un
  have kb : ib (gd (gd t0 t1) un) ≤ 300 := gd_bits (gd_bits h0 h1) (Nat.le_trans hu (by decide))
  have e1 := mul_div_of kn kd
  generalize hk : gd (gd t0 t1) un = k at *
  have dk : DivOk k := divOk_of kn kb (by decide)
  have up : 0 < un.fdiv k := by
    refine Int.not_le.mp fun z => ?_
    have := Int.mul_nonpos_of_nonneg_of_nonpos kp z
    omega
  have ub : ib (un.fdiv k) ≤ 200 := Nat.le_trans (intBits_fdiv_le hu) (by decide)
  have b0 : ib (t0.fdiv k) ≤ 500 := Nat.le_trans (intBits_fdiv_le h0) (by decide)
  have b1 : ib (t1.fdiv k) ≤ 500 := Nat.le_trans (intBits_fdiv_le h1) (by decide)
  unfold DT
  walk_at "dl"
  rw [e_common]
  walk_at "dl"
  rw [e_common, hk]
  walk_at "dl"
  rw [lc7 dk]
  walk_at "dl"
  rcases hr with ⟨X, rfl, sX, bX⟩ | ⟨x, rfl⟩
  · obtain ⟨a, b, c, d, rfl⟩ := sX.ex
    have l8 : (mLc [8] (mSeq (mVar 3)) (gN 8) (ret true) (bnd (aCons (mVar 8) aNil) cTuple)) [x0, x1, x2, .val (.lst [iL [a, b], iL [c, d]]), .own none (.lst [.int (t0.fdiv k), .int (t1.fdiv k)]), .val (.int un), .val (.int k), .no, .no] = .ok (.lst [iT [a, b], iT [c, d]]) [x0, x1, x2, .val (.lst [iL [a, b], iL [c, d]]), .own none (.lst [.int (t0.fdiv k), .int (t1.fdiv k)]), .val (.int un), .val (.int k), .no, .no] := lc8 (rs := [[.int a, .int b], [.int c, .int d]]) (by simp) x0 x1 x2 (.own none (.lst [.int (t0.fdiv k), .int (t1.fdiv k)])) (.val (.int un)) (.val (.int k))
    unfold LL
    walk_at "dl"
    rw [if_neg (by decide)]
    walk_at "dl"
    rw [l8]
    walk_at "dl"
    rw [if_pos dk]
    walk_at "dl"
    exact ⟨_, _, rfl, .inl ⟨a, b, c, d, _, _, _, rfl, bX 0 0 (by decide) (by decide), bX 0 1 (by decide) (by decide), bX 1 0 (by decide) (by decide), bX 1 1 (by decide) (by decide), b0, b1, ub, up⟩⟩
  · have l8 : (mLc [8] (mSeq (mVar 3)) (gN 8) (ret true) (bnd (aCons (mVar 8) aNil) cTuple)) [x0, x1, x2, .val (.lst [iL [0, 1, 0], iL [1, 0, 0], iL [0, 0, x]]), .own none (.lst [.int (t0.fdiv k), .int (t1.fdiv k), .int 0]), .val (.int un), .val (.int k), .no, .no] = .ok (.lst [iT [0, 1, 0], iT [1, 0, 0], iT [0, 0, x]]) [x0, x1, x2, .val (.lst [iL [0, 1, 0], iL [1, 0, 0], iL [0, 0, x]]), .own none (.lst [.int (t0.fdiv k), .int (t1.fdiv k), .int 0]), .val (.int un), .val (.int k), .no, .no] := lc8 (rs := [[.int 0, .int 1, .int 0], [.int 1, .int 0, .int 0], [.int 0, .int 0, .int x]]) (by simp) x0 x1 x2 (.own none (.lst [.int (t0.fdiv k), .int (t1.fdiv k), .int 0])) (.val (.int un)) (.val (.int k))
    walk_at "dl"
    rw [if_pos (by decide)]
    walk_at "dl"
    rw [l8]
    walk_at "dl"
    rw [if_pos dk]
    walk_at "dl"
    exact ⟨_, _, rfl, .inr ⟨_, _, _, _, rfl, up⟩⟩
theorem p20 : ib ((10 : Int) ^ Int.toNat 20) ≤ 81 := intBits_pow_le (m := 4) (by decide) 20
theorem e_deed {c0 c1 c2 c3 c4 c5 c6 c7 : Int} (h3 : ib c3 ≤ 1048576) {n m : Nat} (hn : 1 ≤ n) (n6 : n ≤ 6) (hm : 1 ≤ m) (m6 : m ≤ 6) : ∃ d, F_law_deed [cl c0 c1 c2 c3 c4 c5 c6 c7, .int n, .int m] = .ok d ∧ DeedOk d := by
  obtain ⟨rd, r1, r2⟩ := e_rows c3 h3
  have bn := nb n6
  have bm := nb m6
  have a1 : ib (c4.fmod 19) ≤ 5 := bits_fmod_by (n := 5) (by decide) (by decide)
  have a2 : ib ((c4.fdiv 19).fmod 19) ≤ 5 := bits_fmod_by (n := 5) (by decide) (by decide)
  have q1 := mi a1 bm
  have q2 := mi a2 bn
  have q3 := mi bn bm
  have b1 : ib (c4.fmod 19 * m) ≤ 15 := intBits_mul_le a1 bm
  have b2 : ib ((c4.fdiv 19).fmod 19 * n) ≤ 15 := intBits_mul_le a2 bn
  have b3 : ib ((n : Int) * m) ≤ 20 := intBits_mul_le bn bm
  have nm0 : 0 < (n : Int) * m := Int.mul_pos (by omega) (by omega)
  have n20 : ¬ (10 : Int) ^ Int.toNat 20 = 0 := by decide
  have g1 : ib (c6.fmod ((10 : Int) ^ Int.toNat 20)) ≤ 81 := bits_fmod_by n20 p20
  have g2 : ib ((c6.fdiv 7).fmod ((10 : Int) ^ Int.toNat 20)) ≤ 81 := bits_fmod_by n20 p20
  have q4 := mi b3 g1
  have q5 := mi b3 g2
  have b4 : ib (c4.fmod 19 * m + (n : Int) * m * c6.fmod ((10 : Int) ^ Int.toNat 20)) ≤ 300 := Nat.le_trans (intBits_add_le b1 (intBits_mul_le b3 g1)) (by decide)
  have b5 : ib ((c4.fdiv 19).fmod 19 * n - (n : Int) * m * (c6.fdiv 7).fmod ((10 : Int) ^ Int.toNat 20)) ≤ 300 := Nat.le_trans (intBits_sub_le b2 (intBits_mul_le b3 g2)) (by decide)
  have b6 : ib (1 + c6.fmod 12) ≤ 6 := Nat.le_trans (intBits_add_le (m := 1) (by decide) (bits_fmod_by (n := 4) (by decide) (by decide))) (by decide)
  have f12 := fmod_rng (a := c6) (v := 12) (by decide)
  have q6 := mi b3 b6
  have b7 : ib ((n : Int) * m * (1 + c6.fmod 12)) ≤ 100 := Nat.le_trans (intBits_mul_le b3 b6) (by decide)
  have p7 : 0 < (n : Int) * m * (1 + c6.fmod 12) := Int.mul_pos nm0 (by omega)
  have fin : ∀ (t0 t1 un : Int), ib t0 ≤ 300 → ib t1 ≤ 300 → ib un ≤ 100 → 0 < un → ∃ d, rF (DT [.val (cl c0 c1 c2 c3 c4 c5 c6 c7), .val (.int n), .val (.int m), .val rd, .own none (.lst [.int t0, .int t1]), .val (.int un), .no, .no, .no]) = .ok d ∧ DeedOk d := fun t0 t1 un h0 h1 hu u0 => by
    obtain ⟨d, e, k1, k2⟩ := deed_tail r2 h0 h1 hu u0 (.val (cl c0 c1 c2 c3 c4 c5 c6 c7)) (.val (.int n)) (.val (.int m))
    exact ⟨d, by rw [k1]; rfl, k2⟩
  have eb : b_law_deed = (sq (mAsg 3 (mCall (aCons (mIxN 0 (ret (.int 3))) aNil) F_law_rows))
  (sq (mOwn 4 (mFl (aCons (m2 (m2 (mIxN 0 (ret (.int 4))) (ret (.int 19)) (g2i iMod)) (mVar 2) (g2i iMul)) (aCons (m2 (m2 (m2 (mIxN 0 (ret (.int 4))) (ret (.int 19)) (g2i iDiv)) (ret (.int 19)) (g2i iMod)) (mVar 1) (g2i iMul)) aNil))))
  (sq (mAsg 5 (m2 (mVar 1) (mVar 2) (g2i iMul)))
  (sq (mIf (bnd (m2 (m2 (mIxN 0 (ret (.int 5))) (ret (.int 4)) (g2i iMod)) (ret (.int 1)) mEq) mB) (mOwn 4 (mFl (aCons (m2 (mIxN 4 (ret (.int 0))) (m2 (mVar 5) (m2 (mIxN 0 (ret (.int 6))) (m2 (ret (.int 10)) (ret (.int 20)) (g2i iPow)) (g2i iMod)) (g2i iMul)) mAdd) (aCons (m2 (mIxN 4 (ret (.int 1))) (m2 (mVar 5) (m2 (m2 (mIxN 0 (ret (.int 6))) (ret (.int 7)) (g2i iDiv)) (m2 (ret (.int 10)) (ret (.int 20)) (g2i iPow)) (g2i iMod)) (g2i iMul)) (g2i iSub)) aNil)))) nx)
  (sq (mIf (bnd (m2 (m2 (mIxN 0 (ret (.int 5))) (ret (.int 4)) (g2i iMod)) (ret (.int 3)) mEq) mB) (mAsg 5 (m2 (mVar 5) (m2 (ret (.int 1)) (m2 (mIxN 0 (ret (.int 6))) (ret (.int 12)) (g2i iMod)) mAdd) (g2i iMul))) nx)
  DT))))) := rfl
  unfold F_law_deed
  rw [eb]
  walk_at "dl"
  rw [r1]
  walk_at "dl"
  rw [if_pos q1]
  walk_at "dl"
  rw [if_pos q2]
  walk_at "dl"
  rw [if_pos q3]
  walk_at "dl"
  by_cases k1 : c5.fmod 4 = 1
  · rw [if_pos k1, if_pos n20, if_pos q4]
    walk_at "dl"
    rw [if_pos n20]
    walk_at "dl"
    rw [if_pos q5]
    walk_at "dl"
    rw [if_neg (by omega)]
    exact fin _ _ _ b4 b5 (Nat.le_trans b3 (by decide)) nm0
  · rw [if_neg k1]
    by_cases k3 : c5.fmod 4 = 3
    · rw [if_pos k3, if_pos q6]
      walk_at "dl"
      exact fin _ _ _ (Nat.le_trans b1 (by decide)) (Nat.le_trans b2 (by decide)) b7 p7
    · rw [if_neg k3]
      exact fin _ _ _ (Nat.le_trans b1 (by decide)) (Nat.le_trans b2 (by decide)) (Nat.le_trans b3 (by decide)) nm0
/-! the drawing -/
theorem small {k : Nat} (h : k ≤ 6) : ib (k : Int) ≤ 3 := ib_of (by omega)
theorem sz_of {n : Nat} (h : n ≤ 100000) : szOk n := le_size h
theorem way5 {w a b c d e : Int} (h : 0 ≤ w ∧ w < 5) : ∃ v, atI [D.int a, .int b, .int c, .int d, .int e] w = some (.int v) ∧ (v = a ∨ v = b ∨ v = c ∨ v = d ∨ v = e) := by
  have : w = 0 ∨ w = 1 ∨ w = 2 ∨ w = 3 ∨ w = 4 := by omega
  rcases this with rfl | rfl | rfl | rfl | rfl
  · exact ⟨_, at0, .inl rfl⟩
  · exact ⟨_, at1, .inr (.inl rfl)⟩
  · exact ⟨_, at2, .inr (.inr (.inl rfl))⟩
  · exact ⟨_, at3, .inr (.inr (.inr (.inl rfl)))⟩
  · exact ⟨_, at4, .inr (.inr (.inr (.inr rfl)))⟩
theorem draw_in {c0 c1 c2 c3 c4 c5 c6 c7 w : Int} (h1 : ib c1 ≤ 1048576) (h2 : ib c2 ≤ 1048576) (hw : 0 ≤ w ∧ w < 5) {i : Nat} (hi : i < 6) (m : Nat) (m6 : m ≤ 6) (x1 x4 x7 x8 : Sl) :
    ∃ e', forL (gN 7) (sq (mAsg 8 (m2 (mLst (aCons (ret (.int 0)) (aCons (mVar 5) (aCons (mVar 7) (aCons (m2 (mVar 5) (mVar 7) mAdd) (aCons (m2 (m2 (mIxN 0 (ret (.int 2))) (m2 (m2 (ret (.int 1)) (mVar 5) mAdd) (m2 (ret (.int 6)) (mVar 7) (g2i iMul)) mAdd) (g2i iDiv)) (m2 (m2 (mIxN 0 (ret (.int 1))) (mVar 5) (g2i iMul)) (mVar 7) (g2i iMul)) mAdd) aNil)))))) (mVar 3) mIx))
  (mAsg 6 (m2 (mVar 6) (m2 (ret (.str "az.bq")) (m2 (m2 (m2 (mVar 8) (m2 (ret (.int 1)) (m2 (mIxN 0 (ret (.int 1))) (ret (.int 2)) (g2i iMod)) mAdd) (g2i iMul)) (mIxN 0 (ret (.int 1))) mAdd) (m2 (ret (.int 2)) (m2 (mIxN 0 (ret (.int 2))) (ret (.int 4)) (g2i iMod)) mAdd) (g2i iMod)) mIx) mAdd))) (rngD 0 m) [.val (cl c0 c1 c2 c3 c4 c5 c6 c7), x1, .val (.int m), .val (.int w), x4, .val (.int i), .val (.str ""), x7, x8] = .ok .nx e' ∧ ∃ z x7 x8, e' = [.val (cl c0 c1 c2 c3 c4 c5 c6 c7), x1, .val (.int m), .val (.int w), x4, .val (.int i), .val (.str z), x7, x8] ∧ PyData.strOk z = true ∧ z.length = m := by
  refine forL_rng0 (R := fun j e => ∃ z x7 x8, e = [.val (cl c0 c1 c2 c3 c4 c5 c6 c7), x1, .val (.int m), .val (.int w), x4, .val (.int i), .val (.str z), x7, x8] ∧ PyData.strOk z = true ∧ z.length = j) ⟨"", x7, x8, rfl, by decide +kernel, rfl⟩ ?_
  rintro j hj e ⟨z, x7, x8, rfl, hz, zl⟩
  have bi := small (k := i) (by omega)
  have bj := small (k := j) (by omega)
  have q1 : IntMulOk 6 (j : Int) := mi (m := 3) (by decide) bj
  have dd : DivOk (1 + (i : Int) + 6 * j) := divOk_of (m := 10) (by omega) (Nat.le_trans (intBits_add_le (intBits_add_le (m := 1) (by decide) bi) (intBits_mul_le (m := 3) (by decide) bj)) (by decide)) (by decide)
  have q2 : IntMulOk c1 (i : Int) := IntMulOk.of_le h1 bi (by decide)
  have b2 : ib (c1 * i) ≤ 1048579 := intBits_mul_le h1 bi
  have q3 : IntMulOk (c1 * i) (j : Int) := IntMulOk.of_le b2 bj (by decide)
  have b3 : ib (c2.fdiv (1 + (i : Int) + 6 * j) + c1 * i * j) ≤ 1048590 := Nat.le_trans (intBits_add_le (intBits_fdiv_le h2) (intBits_mul_le b2 bj)) (by decide)
  obtain ⟨v, v1, v2⟩ := way5 (a := 0) (b := i) (c := j) (d := (i : Int) + j) (e := c2.fdiv (1 + (i : Int) + 6 * j) + c1 * i * j) hw
  have bv : ib v ≤ 1048590 := by
    rcases v2 with rfl | rfl | rfl | rfl | rfl
    · exact (by decide : ib 0 ≤ 1048590)
    · exact Nat.le_trans bi (by decide)
    · exact Nat.le_trans bj (by decide)
    · exact Nat.le_trans (intBits_add_le bi bj) (by decide)
    · exact b3
  have b4 : ib (1 + c1.fmod 2) ≤ 4 := Nat.le_trans (intBits_add_le (m := 1) (by decide) (bits_fmod_by (n := 2) (by decide) (by decide))) (by decide)
  have q4 : IntMulOk v (1 + c1.fmod 2) := IntMulOk.of_le bv b4 (by decide)
  have f4 := fmod_rng (a := c2) (v := 4) (by decide)
  have n4 : ¬ 2 + c2.fmod 4 = 0 := by omega
  have fi := fmod_rng (a := v * (1 + c1.fmod 2) + c1) (v := 2 + c2.fmod 4) (by omega)
  obtain ⟨ch, k1, k2⟩ := sign_at (z := "az.bq") (q := (v * (1 + c1.fmod 2) + c1).fmod (2 + c2.fmod 4)) ⟨fi.1, by have : ("az.bq" : Str).length = 5 := rfl; omega⟩
  have o1 := okT_one (m := 5) (z := "az.bq") ⟨by decide +kernel, by decide⟩ k2
  have o2 := okT_app (m := j) (n := 1) (a := z) ⟨hz, by omega⟩ o1
  have l1 : (⟨#[ch]⟩ : Str).length = 1 := rfl
  refine ⟨_, [.val (cl c0 c1 c2 c3 c4 c5 c6 c7), x1, .val (.int m), .val (.int w), x4, .val (.int i), .val (.str (z ++ ⟨#[ch]⟩)), .val (.int j), .val (.int v)], rfl, .inl ?_, _, _, _, rfl, o2.1, by rw [Str.length_append, zl, l1]⟩
  walk_at "dl"
  iterate 6 ((first | rw [if_pos q1] | rw [if_pos dd] | rw [if_pos q2] | rw [if_pos q3] | skip); walk_at "dl")
  rw [v1]
  walk_at "dl"
  rw [if_pos q4]
  walk_at "dl"
  rw [if_pos n4]
  walk_at "dl"
  rw [if_pos (by decide), k1, Option.map_some]
  walk_at "dl"
  rw [l1, if_pos (sz_of (by omega))]
  walk_at "dl"
theorem draw_out {c0 c1 c2 c3 c4 c5 c6 c7 w : Int} (h1 : ib c1 ≤ 1048576) (h2 : ib c2 ≤ 1048576) (hw : 0 ≤ w ∧ w < 5) (n m : Nat) (n6 : n ≤ 6) (m6 : m ≤ 6) (x5 x6 x7 x8 : Sl) :
    ∃ e', forL (gN 5) (sq (mAsg 6 (ret (.str "")))
  (sq (bnd (mRng1 (aCons (mVar 2) aNil)) (forL (gN 7) (sq (mAsg 8 (m2 (mLst (aCons (ret (.int 0)) (aCons (mVar 5) (aCons (mVar 7) (aCons (m2 (mVar 5) (mVar 7) mAdd) (aCons (m2 (m2 (mIxN 0 (ret (.int 2))) (m2 (m2 (ret (.int 1)) (mVar 5) mAdd) (m2 (ret (.int 6)) (mVar 7) (g2i iMul)) mAdd) (g2i iDiv)) (m2 (m2 (mIxN 0 (ret (.int 1))) (mVar 5) (g2i iMul)) (mVar 7) (g2i iMul)) mAdd) aNil)))))) (mVar 3) mIx))
  (mAsg 6 (m2 (mVar 6) (m2 (ret (.str "az.bq")) (m2 (m2 (m2 (mVar 8) (m2 (ret (.int 1)) (m2 (mIxN 0 (ret (.int 1))) (ret (.int 2)) (g2i iMod)) mAdd) (g2i iMul)) (mIxN 0 (ret (.int 1))) mAdd) (m2 (ret (.int 2)) (m2 (mIxN 0 (ret (.int 2))) (ret (.int 4)) (g2i iMod)) mAdd) (g2i iMod)) mIx) mAdd)))))
  (mApp 4 (mVar 6)))) (rngD 0 n) [.val (cl c0 c1 c2 c3 c4 c5 c6 c7), .val (.int n), .val (.int m), .val (.int w), .own none (.lst []), x5, x6, x7, x8] = .ok .nx e' ∧ ∃ (ys : List Str) (x5 x6 x7 x8 : Sl), e' = [.val (cl c0 c1 c2 c3 c4 c5 c6 c7), .val (.int n), .val (.int m), .val (.int w), .own none (.lst (ys.map .str)), x5, x6, x7, x8] ∧ ys.length = n ∧ ∀ y ∈ ys, okT 10 y ∧ y.length = m := by
  refine forL_rng0 (R := fun i e => ∃ (ys : List Str) (x5 x6 x7 x8 : Sl), e = [.val (cl c0 c1 c2 c3 c4 c5 c6 c7), .val (.int n), .val (.int m), .val (.int w), .own none (.lst (ys.map .str)), x5, x6, x7, x8] ∧ ys.length = i ∧ ∀ y ∈ ys, okT 10 y ∧ y.length = m) ⟨[], x5, x6, x7, x8, rfl, rfl, fun y h => by cases h⟩ ?_
  rintro i hi e ⟨ys, x5, x6, x7, x8, rfl, hy, hok⟩
  obtain ⟨e', k1, z, y7, y8, rfl, z1, z2⟩ := draw_in (c0 := c0) (c3 := c3) (c4 := c4) (c5 := c5) (c6 := c6) (c7 := c7) h1 h2 hw (i := i) (by omega) m m6 (.val (.int n)) (.own none (.lst (ys.map .str))) x7 x8
  refine ⟨_, [.val (cl c0 c1 c2 c3 c4 c5 c6 c7), .val (.int n), .val (.int m), .val (.int w), .own none (.lst ((ys ++ [z]).map .str)), .val (.int i), .val (.str z), y7, y8], rfl, .inl ?_, ys ++ [z], _, _, _, _, rfl, by rw [List.length_append, hy]; rfl, fun y h => ?_⟩
  · walk_at "dl"
    rw [if_pos (by unfold rOk; omega)]
    walk_at "dl"
    rw [show ((m : Nat) : Int).toNat = m by omega, k1]
    walk_at "dl"
    rw [if_pos (Nat.lt_of_lt_of_le (show ys.length < 100 by omega) (by decide)), List.map_append]
    rfl
  · rcases List.mem_append.mp h with h | h
    · exact hok y h
    · rw [List.mem_singleton] at h
      subst h
      exact ⟨⟨z1, by omega⟩, z2⟩
noncomputable def DTL : M Fl := (sq (mAsg 3 (m2 (m2 (mIxN 0 (ret (.int 0))) (ret (.int 72)) (g2i iDiv)) (ret (.int 5)) (g2i iMod)))
  (sq (mOwn 4 (mFl aNil))
  (sq (bnd (mRng1 (aCons (mVar 1) aNil)) (forL (gN 5) (sq (mAsg 6 (ret (.str "")))
  (sq (bnd (mRng1 (aCons (mVar 2) aNil)) (forL (gN 7) (sq (mAsg 8 (m2 (mLst (aCons (ret (.int 0)) (aCons (mVar 5) (aCons (mVar 7) (aCons (m2 (mVar 5) (mVar 7) mAdd) (aCons (m2 (m2 (mIxN 0 (ret (.int 2))) (m2 (m2 (ret (.int 1)) (mVar 5) mAdd) (m2 (ret (.int 6)) (mVar 7) (g2i iMul)) mAdd) (g2i iDiv)) (m2 (m2 (mIxN 0 (ret (.int 1))) (mVar 5) (g2i iMul)) (mVar 7) (g2i iMul)) mAdd) aNil)))))) (mVar 3) mIx))
  (mAsg 6 (m2 (mVar 6) (m2 (ret (.str "az.bq")) (m2 (m2 (m2 (mVar 8) (m2 (ret (.int 1)) (m2 (mIxN 0 (ret (.int 1))) (ret (.int 2)) (g2i iMod)) mAdd) (g2i iMul)) (mIxN 0 (ret (.int 1))) mAdd) (m2 (ret (.int 2)) (m2 (mIxN 0 (ret (.int 2))) (ret (.int 4)) (g2i iMod)) mAdd) (g2i iMod)) mIx) mAdd)))))
  (mApp 4 (mVar 6))))))
  (mRet (bnd (aCons (mVar 4) aNil) cTuple)))))
theorem draw_tail {c0 c1 c2 c3 c4 c5 c6 c7 : Int} (h1 : ib c1 ≤ 1048576) (h2 : ib c2 ≤ 1048576) (n m : Nat) (n1 : 1 ≤ n) (n6 : n ≤ 6) (m1 : 1 ≤ m) (m6 : m ≤ 6) : ∃ ys : List Str, rF (DTL [.val (cl c0 c1 c2 c3 c4 c5 c6 c7), .val (.int n), .val (.int m), .no, .no, .no, .no, .no, .no]) = .ok (.tup (ys.map .str)) ∧ Drw ys n m := by
  obtain ⟨e', k1, ys, x5, x6, x7, x8, rfl, hl, hy⟩ := draw_out (c0 := c0) (c3 := c3) (c4 := c4) (c5 := c5) (c6 := c6) (c7 := c7) h1 h2 (fmod_rng (a := c0.fdiv 72) (v := 5) (by decide)) n m n6 m6 .no .no .no .no
  refine ⟨ys, ?_, ⟨hl, hy, n1, n6, m1, m6⟩⟩
  unfold DTL
  walk_at "dl"
  rw [if_pos (by unfold rOk; omega)]
  walk_at "dl"
  rw [show ((n : Nat) : Int).toNat = n by omega, k1]
  walk_at "dl"
theorem e_drawing {c0 c1 c2 c3 c4 c5 c6 c7 : Int} (h1 : ib c1 ≤ 1048576) (h2 : ib c2 ≤ 1048576) : ∃ (ys : List Str) (n m : Nat), F_law_drawing [(cl c0 c1 c2 c3 c4 c5 c6 c7)] = .ok (.tup (ys.map .str)) ∧ Drw ys n m := by
  have r1 := fmod_rng (a := c0) (v := 6) (by decide)
  have r2 := fmod_rng (a := c0.fdiv 6) (v := 6) (by decide)
  obtain ⟨n, hn⟩ := Int.eq_ofNat_of_zero_le (show 0 ≤ 1 + c0.fmod 6 by omega)
  obtain ⟨m, hm⟩ := Int.eq_ofNat_of_zero_le (show 0 ≤ 1 + (c0.fdiv 6).fmod 6 by omega)
  have eb : b_law_drawing = (sq (mAsg 1 (m2 (ret (.int 1)) (m2 (mIxN 0 (ret (.int 0))) (ret (.int 6)) (g2i iMod)) mAdd))
  (sq (mAsg 2 (m2 (ret (.int 1)) (m2 (m2 (mIxN 0 (ret (.int 0))) (ret (.int 6)) (g2i iDiv)) (ret (.int 6)) (g2i iMod)) mAdd))
  (sq (mIf (bnd (m2 (m2 (m2 (mIxN 0 (ret (.int 0))) (ret (.int 36)) (g2i iDiv)) (ret (.int 2)) (g2i iMod)) (ret (.int 1)) mEq) mB) (mAsg 2 (mVar 1)) nx)
  DTL))) := rfl
  unfold F_law_drawing
  rw [eb]
  walk_at "dl"
  rw [hn, hm]
  by_cases k : (c0.fdiv 36).fmod 2 = 1
  · obtain ⟨ys, y1, y2⟩ := draw_tail (c0 := c0) (c3 := c3) (c4 := c4) (c5 := c5) (c6 := c6) (c7 := c7) h1 h2 n n (by omega) (by omega) (by omega) (by omega)
    rw [if_pos k]
    exact ⟨ys, n, n, y1, y2⟩
  · obtain ⟨ys, y1, y2⟩ := draw_tail (c0 := c0) (c3 := c3) (c4 := c4) (c5 := c5) (c6 := c6) (c7 := c7) h1 h2 n m (by omega) (by omega) (by omega) (by omega)
    rw [if_neg k]
    exact ⟨ys, n, m, y1, y2⟩
/-! all -/
def cellOf (ns : List Int) (k : Int) : Int := if k < ns.length then ns.getD k.toNat 0 else 0
theorem e_cell (ns : List Int) (k : Int) (h : 0 ≤ k) : F_law_cell_at [.lst (ns.map .int), .int k] = .ok (.int (cellOf ns k)) := by
  unfold F_law_cell_at b_law_cell_at cellOf
  walk_at "dl"
  split
  · rename_i h1
    rw [atI_ints h h1]
    walk_at "dl"
  · rfl
theorem cell_bits {ns : List Int} (hb : ∀ z ∈ ns, Builtin.Int.intBits z ≤ 1048576) (k : Int) : ib (cellOf ns k) ≤ 1048576 := by
  unfold cellOf
  split
  · rw [List.getD_eq_getElem?_getD]
    cases q : ns[k.toNat]? with
    | none => exact (by decide : ib 0 ≤ 1048576)
    | some z => exact hb z (List.mem_of_getElem? q)
  · exact (by decide : ib 0 ≤ 1048576)
theorem e_cell' (ns : List Int) (k : Int) (h : 0 ≤ k) : F_law_cell_at [iL ns, .int k] = .ok (.int (cellOf ns k)) := e_cell ns k h
theorem lc_cells {ns : List Int} {at_ : Int} (h0 : 0 ≤ at_) (x2 x4 x5 x6 x7 x9 : Sl) : (mLc [3] (mRng1 (aCons (ret (.int 8)) aNil)) (gN 3) (ret true) (mCall (aCons (mVar 0) (aCons (m2 (mVar 1) (mVar 3) mAdd) aNil)) F_law_cell_at)) [.val (iL ns), .val (.int at_), x2, .no, x4, x5, x6, x7, .no, x9] = .ok (cl (cellOf ns (at_ + 0)) (cellOf ns (at_ + 1)) (cellOf ns (at_ + 2)) (cellOf ns (at_ + 3)) (cellOf ns (at_ + 4)) (cellOf ns (at_ + 5)) (cellOf ns (at_ + 6)) (cellOf ns (at_ + 7))) [.val (iL ns), .val (.int at_), x2, .no, x4, x5, x6, x7, .no, x9] := by
  have h := mLc_rng (vs := [3]) (fi := (mRng1 (aCons (ret (.int 8)) aNil))) (g := gN 3) (el := (mCall (aCons (mVar 0) (aCons (m2 (mVar 1) (mVar 3) mAdd) aNil)) F_law_cell_at)) (e := [.val (iL ns), .val (.int at_), x2, .no, x4, x5, x6, x7, .no, x9]) (e0 := [.val (iL ns), .val (.int at_), x2, .no, x4, x5, x6, x7, .no, x9]) (m := 8) (fun k => cellOf ns (at_ + (k : Nat))) (by
    walk_at "dl"
    rw [if_pos (by decide)]
    rfl) rfl rfl (by decide) fun k hk => ⟨_, _, rfl, by
      walk_at "dl"
      rw [show F_law_cell_at [iL ns, .int (at_ + (k : Int))] = _ from e_cell ns _ (by omega)]
      walk_at "dl"
      rfl, by rfl⟩
  exact h
theorem rg_ok : ∀ j : Fin 64, RgC 0 ((j : Nat) : Int) 8 (Builtin.Range.rangeSize 0 ((j : Nat) : Int) 8).toNat := by decide +kernel
theorem mem_rng3 {d : D} {n : Nat} (h : d ∈ rng3D 0 8 n) : ∃ at_ : Int, 0 ≤ at_ ∧ d = .int at_ := by
  unfold rng3D at h
  obtain ⟨k, _, rfl⟩ := List.mem_map.mp h
  exact ⟨_, by omega, rfl⟩
/-- the rest's tops -/
theorem lc_rest {ts : List Int} {X : D} {u : Int} (u0 : 0 < u) (hl : ts.length ≤ 10) (x0 x1 x2 x4 x6 x7 x9 : Sl) : (mLc [8] (mSeq (mIxN 5 (ret (.int 1)))) (gN 8) (ret true) (m2 (mVar 8) (mIxN 5 (ret (.int 2))) (g2i iMod))) [x0, x1, x2, .no, x4, .val (.tup [X, iT ts, .int u]), x6, x7, .no, x9] = .ok (iL (ts.map fun t => t.fmod u)) [x0, x1, x2, .no, x4, .val (.tup [X, iT ts, .int u]), x6, x7, .no, x9] := by
  exact mLc_ints (ns := ts) (fun t => t.fmod u) (by walk_at "dl") rfl rfl (le_size (by omega)) fun n _ => ⟨_, _, rfl, by walk_at "dl"; rw [if_pos (by omega : ¬ u = 0)], by rfl⟩
theorem three {drw a b r : D} (ha : F_law_right [drw, a, r] = .ok (.bl true)) (hb : F_law_right [drw, b, r] = .ok (.bl true)) (x0 x1 x2 x3 x5 x7 x8 x9 : Sl) : ∃ x9', forL (gN 9) (mIf (bNot (bnd (mCall (aCons (mVar 4) (aCons (mVar 9) (aCons (mVar 6) aNil))) F_law_right) mTru)) (mRet (ret (.bl false))) nx) [a, b, a] [x0, x1, x2, x3, .val drw, x5, .val r, x7, x8, x9] = .ok .nx [x0, x1, x2, x3, .val drw, x5, .val r, x7, x8, x9'] := by
  obtain ⟨e', h1, x9', h2⟩ := forL_list (g := gN 9) (b := (mIf (bNot (bnd (mCall (aCons (mVar 4) (aCons (mVar 9) (aCons (mVar 6) aNil))) F_law_right) mTru)) (mRet (ret (.bl false))) nx)) (ds := [a, b, a]) (R := fun _ e => ∃ x9, e = [x0, x1, x2, x3, .val drw, x5, .val r, x7, x8, x9]) (e := [x0, x1, x2, x3, .val drw, x5, .val r, x7, x8, x9]) ⟨x9, rfl⟩ (fun k d hd e he => by
    obtain ⟨y, rfl⟩ := he
    have hd : d ∈ [a, b, a] := List.mem_of_getElem? hd
    have hr : F_law_right [drw, d, r] = .ok (.bl true) := by
      simp only [List.mem_cons, List.not_mem_nil, or_false] at hd
      rcases hd with rfl | rfl | rfl
      · exact ha
      · exact hb
      · exact ha
    refine ⟨_, [x0, x1, x2, x3, .val drw, x5, .val r, x7, x8, .val d], rfl, .inl ?_, _, rfl⟩
    walk_at "dl"
    rw [hr]
    walk_at "dl")
  exact ⟨x9', h1.trans (by rw [h2])⟩
theorem e_lays3 {ys : List Str} {X : D} {ts : List Int} {u : Int} (h : ts.length = 3) : F_lays [.tup (ys.map .str), .tup [X, iT ts, .int u]] = .exc "OffSheet" none := by
  unfold F_lays b_lays
  walk_at "dl"
  rw [h]
  walk_at "dl"
  rw [if_pos (by decide)]
theorem e_due3 {ys : List Str} {n m : Nat} (W : Drw ys n m) {X : D} {ts : List Int} {u : Int} (h : ts.length = 3) : F_law_due [.tup (ys.map .str), .tup [X, iT ts, .int u]] = .ok (.str "off") := by
  have W1 := W.n1; have W3 := W.m1
  obtain ⟨z, ch, p1, p2, _⟩ := at_ok W (r := 0) (k := 0) ⟨by omega, by omega⟩ ⟨by omega, by omega⟩
  unfold F_law_due b_law_due
  walk_at "dl"
  rw [p1]
  walk_at "dl"
  rw [if_pos p2, h]
  walk_at "dl"
theorem fmod_bits {t u : Int} {k : Nat} (u0 : 0 < u) (hu : ib u ≤ k) : ib (t.fmod u) ≤ k := bits_fmod_by (by omega) hu
/-- what the deed's due is, and that the deed and its rest are answered so -/
theorem deed_all {ys : List Str} {n m : Nat} (W : Drw ys n m) {d : D} (h : DeedOk d) : ∃ X ts u r, d = .tup [X, iT ts, .int u] ∧ 0 < u ∧ ts.length ≤ 10 ∧ F_law_due [.tup (ys.map .str), d] = .ok r ∧ F_law_right [.tup (ys.map .str), d, r] = .ok (.bl true) ∧ F_law_right [.tup (ys.map .str), .tup [X, iT (ts.map fun t => t.fmod u), .int u], r] = .ok (.bl true) := by
  have W1 := W.n1; have W3 := W.m1
  rcases h with ⟨a, b, c, e, t0, t1, u, rfl, Q⟩ | ⟨X, t0, t1, u, rfl, u0⟩
  · have Q' : Dd a b c e (t0.fmod u) (t1.fmod u) u := ⟨Q.ha, Q.hb, Q.hc, Q.hd, Nat.le_trans (fmod_bits Q.u0 Q.hu) (by decide), Nat.le_trans (fmod_bits Q.u0 Q.hu) (by decide), Q.hu, Q.u0⟩
    have l1 := e_lays Q W
    have l2 := e_lays Q' W
    have d1 := e_due Q W
    rw [rch_rest Q.u0 (by omega) (by omega)] at l2
    have sh : ∀ f, resO ys (rch a b c e t0 t1 u n m) n m = some f → shp2 f := fun f => res_shape
    generalize resO ys (rch a b c e t0 t1 u n m) n m = r at *
    refine ⟨_, [t0, t1], u, dueD r, rfl, Q.u0, by simp, ?_, e_right r sh l1, e_right r sh l2⟩
    rw [d1]
    cases r <;> rfl
  · have l1 := e_lays3 (ys := ys) (X := X) (ts := [t0, t1, 0]) (u := u) rfl
    have l2 := e_lays3 (ys := ys) (X := X) (ts := [t0, t1, 0].map fun t => t.fmod u) (u := u) rfl
    have d1 := e_due3 W (X := X) (ts := [t0, t1, 0]) (u := u) rfl
    exact ⟨X, [t0, t1, 0], u, .str "off", rfl, u0, by simp, d1, e_right none (fun f z => by cases z) l1, e_right none (fun f z => by cases z) l2⟩
theorem law_true (ns : List Int) (hl : ns.length ≤ 63) (hb : ∀ z ∈ ns, Builtin.Int.intBits z ≤ 1048576) : F_law [.lst (ns.map .int)] = .ok (.bl true) := by
  obtain ⟨j, hj, ej⟩ : ∃ j : Nat, j < 64 ∧ (if (ns.length : Int) > 1 then (ns.length : Int) else 1) = (j : Int) := by
    by_cases h : (ns.length : Int) > 1
    · exact ⟨ns.length, by omega, if_pos h⟩
    · exact ⟨1, by omega, if_neg h⟩
  have H : ∀ d ∈ rng3D 0 8 (Builtin.Range.rangeSize 0 (j : Int) 8).toNat, ∀ e, (∃ x1 x2 x4 x5 x6 x7 x9, e = [Sl.val (iL ns), x1, x2, .no, x4, x5, x6, x7, .no, x9]) → ∃ e1 e2, gN 1 d e = .ok () e1 ∧ ((sq (mAsg 2 (mLc [3] (mRng1 (aCons (ret (.int 8)) aNil)) (gN 3) (ret true) (mCall (aCons (mVar 0) (aCons (m2 (mVar 1) (mVar 3) mAdd) aNil)) F_law_cell_at)))
  (sq (mAsg 4 (mCall (aCons (mVar 2) aNil) F_law_drawing))
  (sq (mAsg 5 (mCall (aCons (mVar 2) (aCons (has 4 (onSl 4 fun d => cLen [d])) (aCons (bnd (aCons (mIxN 4 (ret (.int 0))) aNil) cLen) aNil))) F_law_deed))
  (sq (mAsg 6 (mCall (aCons (mVar 4) (aCons (mVar 5) aNil)) F_law_due))
  (sq (mAsg 7 (mTup (aCons (mIxN 5 (ret (.int 0))) (aCons (bnd (aCons (mLc [8] (mSeq (mIxN 5 (ret (.int 1)))) (gN 8) (ret true) (m2 (mVar 8) (mIxN 5 (ret (.int 2))) (g2i iMod))) aNil) cTuple) (aCons (mIxN 5 (ret (.int 2))) aNil)))))
  (bnd (mSeq (mLst (aCons (mVar 5) (aCons (mVar 7) (aCons (mVar 5) aNil))))) (forL (gN 9) (mIf (bNot (bnd (mCall (aCons (mVar 4) (aCons (mVar 9) (aCons (mVar 6) aNil))) F_law_right) mTru)) (mRet (ret (.bl false))) nx)))))))) e1 = .ok .nx e2 ∨ (sq (mAsg 2 (mLc [3] (mRng1 (aCons (ret (.int 8)) aNil)) (gN 3) (ret true) (mCall (aCons (mVar 0) (aCons (m2 (mVar 1) (mVar 3) mAdd) aNil)) F_law_cell_at)))
  (sq (mAsg 4 (mCall (aCons (mVar 2) aNil) F_law_drawing))
  (sq (mAsg 5 (mCall (aCons (mVar 2) (aCons (has 4 (onSl 4 fun d => cLen [d])) (aCons (bnd (aCons (mIxN 4 (ret (.int 0))) aNil) cLen) aNil))) F_law_deed))
  (sq (mAsg 6 (mCall (aCons (mVar 4) (aCons (mVar 5) aNil)) F_law_due))
  (sq (mAsg 7 (mTup (aCons (mIxN 5 (ret (.int 0))) (aCons (bnd (aCons (mLc [8] (mSeq (mIxN 5 (ret (.int 1)))) (gN 8) (ret true) (m2 (mVar 8) (mIxN 5 (ret (.int 2))) (g2i iMod))) aNil) cTuple) (aCons (mIxN 5 (ret (.int 2))) aNil)))))
  (bnd (mSeq (mLst (aCons (mVar 5) (aCons (mVar 7) (aCons (mVar 5) aNil))))) (forL (gN 9) (mIf (bNot (bnd (mCall (aCons (mVar 4) (aCons (mVar 9) (aCons (mVar 6) aNil))) F_law_right) mTru)) (mRet (ret (.bl false))) nx)))))))) e1 = .ok .ct e2) ∧ (∃ x1 x2 x4 x5 x6 x7 x9, e2 = [Sl.val (iL ns), x1, x2, .no, x4, x5, x6, x7, .no, x9]) := by
    rintro d hd e ⟨x1, x2, x4, x5, x6, x7, x9, rfl⟩
    obtain ⟨at_, h0, rfl⟩ := mem_rng3 hd
    have l1 := lc_cells (ns := ns) h0 x2 x4 x5 x6 x7 x9
    obtain ⟨ys, n, m, d1, W⟩ := e_drawing (c0 := cellOf ns (at_ + 0)) (c1 := cellOf ns (at_ + 1)) (c2 := cellOf ns (at_ + 2)) (c3 := cellOf ns (at_ + 3)) (c4 := cellOf ns (at_ + 4)) (c5 := cellOf ns (at_ + 5)) (c6 := cellOf ns (at_ + 6)) (c7 := cellOf ns (at_ + 7)) (cell_bits hb _) (cell_bits hb _)
    obtain ⟨dd, d2, d3⟩ := e_deed (c0 := cellOf ns (at_ + 0)) (c1 := cellOf ns (at_ + 1)) (c2 := cellOf ns (at_ + 2)) (c3 := cellOf ns (at_ + 3)) (c4 := cellOf ns (at_ + 4)) (c5 := cellOf ns (at_ + 5)) (c6 := cellOf ns (at_ + 6)) (c7 := cellOf ns (at_ + 7)) (cell_bits hb _) (n := n) (m := m) W.n1 W.n6 W.m1 W.m6
    obtain ⟨X, ts, u, r, rfl, u0, tl, d4, d5, d6⟩ := deed_all W d3
    have W1 := W.n1; have W3 := W.m1
    obtain ⟨z, ch, p1, p2, _⟩ := at_ok W (r := 0) (k := 0) ⟨by omega, by omega⟩ ⟨by omega, by omega⟩
    have zl : z.length = m := by
      obtain ⟨y, y1, y2⟩ := strs_at (ys := ys) (q := 0) (by rw [W.len]; omega)
      rw [p1] at y1
      cases y1
      exact (W.row _ y2).2
    have lr := fun x0 x1 x2 x4 x6 x7 x9 => lc_rest (X := X) u0 tl x0 x1 x2 x4 x6 x7 x9
    obtain ⟨y9, t3⟩ := three d5 d6 (.val (iL ns)) (.val (.int at_)) (.val (cl (cellOf ns (at_ + 0)) (cellOf ns (at_ + 1)) (cellOf ns (at_ + 2)) (cellOf ns (at_ + 3)) (cellOf ns (at_ + 4)) (cellOf ns (at_ + 5)) (cellOf ns (at_ + 6)) (cellOf ns (at_ + 7)))) .no (.val (.tup [X, iT ts, .int u])) (.val (.tup [X, iT (ts.map fun t => t.fmod u), .int u])) .no x9
    refine ⟨_, [Sl.val (iL ns), .val (.int at_), .val (cl (cellOf ns (at_ + 0)) (cellOf ns (at_ + 1)) (cellOf ns (at_ + 2)) (cellOf ns (at_ + 3)) (cellOf ns (at_ + 4)) (cellOf ns (at_ + 5)) (cellOf ns (at_ + 6)) (cellOf ns (at_ + 7))), .no, .val (.tup (ys.map .str)), .val (.tup [X, iT ts, .int u]), .val r, .val (.tup [X, iT (ts.map fun t => t.fmod u), .int u]), .no, y9], rfl, .inl ?_, _, _, _, _, _, _, _, rfl⟩
    walk_at "dl"
    rw [l1]
    walk_at "dl"
    rw [d1]
    walk_at "dl"
    rw [W.len, p1]
    walk_at "dl"
    rw [if_pos p2, zl]
    walk_at "dl"
    rw [d2]
    walk_at "dl"
    rw [d4]
    walk_at "dl"
    rw [lr]
    walk_at "dl"
    rw [t3]
  obtain ⟨e', h1, x1, x2, x4, x5, x6, x7, x9, rfl⟩ := forL_inv _ _ H _ ⟨Sl.no, Sl.no, Sl.no, Sl.no, Sl.no, Sl.no, Sl.no, rfl⟩
  unfold F_law b_law
  walk_at "dl"
  rw [ej, if_pos (rg_ok ⟨j, hj⟩)]
  walk_at "dl"
  rw [h1]
  walk_at "dl"
end G_crystalwords_k82_lays

open PySem PySem.W PyProof.Rows
set_option maxHeartbeats 0 in
theorem PySem.Challenge.cw_crystalwords_k82_lays_holds : PySem.Challenge.rw_crystalwords_k82_lays.Holds := by
  w_on; o_law; k_head; (case hw => w_witness2)
  k_fill
  refine L2.walk_ofB (l := PySem.Challenge.rw_crystalwords_k82_lays) (n := 63) (k := 7) (x := "_law_script") (CX := fun w => L2N.CX (PySem.Challenge.rw_crystalwords_k82_lays).prog w) (sp := fun w => DL.spL _) rfl (by decide) rfl ⟨rfl, by decide, by decide⟩ (fun w h Y => PySem.W.kIn_of Y) ?F (fun _ _ a ns hl hb _ hS => ⟨a, ns, rfl, hS, hl, hb, fun _ => rfl⟩) (fun w => DL.cx_end (PySem.Challenge.rw_crystalwords_k82_lays).prog w)
  case F =>
    intro w mg fa h KX G hmg
    refine' G_crystalwords_k82_lays.all_mk G_crystalwords_k82_lays.law_true KX G hmg ?a1 ?l1 ?c1 ?k1 ?a2 ?l2 ?c2 ?k2 ?a3 ?l3 ?c3 ?k3 ?a4 ?l4 ?c4 ?k4 ?a5 ?l5 ?c5 ?k5 ?a6 ?l6 ?c6 ?k6 ?a7 ?l7 ?c7 ?k7 ?a8 ?l8 ?c8 ?k8 ?a9 ?l9 ?c9 ?k9 ?a10 ?l10 ?c10 ?k10 ?a11 ?l11 ?c11 ?k11 ?a12 ?l12 ?c12 ?k12 ?a13 ?l13 ?c13 ?k13 ?a14 ?l14 ?c14 ?k14 ?a15 ?l15 ?c15 ?k15 ?a16 ?l16 ?c16 ?k16 ?a17 ?l17 ?c17 ?k17 ?a18 ?l18 ?c18 ?k18 ?a19 ?l19 ?c19 ?k19 ?a20 ?l20 ?c20 ?k20 ?e_NoPlace ?e_OffSheet ?e_NoChange ?e_NoDeed ?e_NoDrawing ?e_NoForm ?e_NoName ?e_NoNumber ?e_NoRow ?e_NoSheet ?e_NoText ?e_NotKept ?e_NotLeast ?e_NotWithin ?e_TooMany ?e_CrystalError ?ex_NoPlace ?ek_NoPlace ?eb_NoPlace ?et_NoPlace ?hg_NoPlace ?hk_NoPlace ?hd_NoPlace ?ha_NoPlace ?hn_NoPlace ?ht_NoPlace ?hm_NoPlace ?ex_OffSheet ?ek_OffSheet ?eb_OffSheet ?et_OffSheet ?hg_OffSheet ?hk_OffSheet ?hd_OffSheet ?ha_OffSheet ?hn_OffSheet ?ht_OffSheet ?hm_OffSheet ?hd_NoChange ?et_NoChange ?hd_NoDeed ?et_NoDeed ?hd_NoDrawing ?et_NoDrawing ?hd_NoForm ?et_NoForm ?hd_NoName ?et_NoName ?hd_NoNumber ?et_NoNumber ?hd_NoRow ?et_NoRow ?hd_NoSheet ?et_NoSheet ?hd_NoText ?et_NoText ?hd_NotKept ?et_NotKept ?hd_NotLeast ?et_NotLeast ?hd_NotWithin ?et_NotWithin ?hd_TooMany ?et_TooMany ?hd_CrystalError ?et_CrystalError ?eb_CrystalError ?ne_NoPlace_NoChange ?sb_NoPlace_NoChange ?ne_NoPlace_NoDeed ?sb_NoPlace_NoDeed ?ne_NoPlace_NoDrawing ?sb_NoPlace_NoDrawing ?ne_NoPlace_NoForm ?sb_NoPlace_NoForm ?ne_NoPlace_NoName ?sb_NoPlace_NoName ?ne_NoPlace_NoNumber ?sb_NoPlace_NoNumber ?sb_NoPlace_NoPlace ?ne_NoPlace_NoRow ?sb_NoPlace_NoRow ?ne_NoPlace_NoSheet ?sb_NoPlace_NoSheet ?ne_NoPlace_NoText ?sb_NoPlace_NoText ?ne_NoPlace_NotKept ?sb_NoPlace_NotKept ?ne_NoPlace_NotLeast ?sb_NoPlace_NotLeast ?ne_NoPlace_NotWithin ?sb_NoPlace_NotWithin ?ne_NoPlace_OffSheet ?sb_NoPlace_OffSheet ?ne_NoPlace_TooMany ?sb_NoPlace_TooMany ?sb_NoPlace_ValueError ?ne_NoPlace_CrystalError ?sb_NoPlace_CrystalError ?ne_OffSheet_NoChange ?sb_OffSheet_NoChange ?ne_OffSheet_NoDeed ?sb_OffSheet_NoDeed ?ne_OffSheet_NoDrawing ?sb_OffSheet_NoDrawing ?ne_OffSheet_NoForm ?sb_OffSheet_NoForm ?ne_OffSheet_NoName ?sb_OffSheet_NoName ?ne_OffSheet_NoNumber ?sb_OffSheet_NoNumber ?ne_OffSheet_NoPlace ?sb_OffSheet_NoPlace ?ne_OffSheet_NoRow ?sb_OffSheet_NoRow ?ne_OffSheet_NoSheet ?sb_OffSheet_NoSheet ?ne_OffSheet_NoText ?sb_OffSheet_NoText ?ne_OffSheet_NotKept ?sb_OffSheet_NotKept ?ne_OffSheet_NotLeast ?sb_OffSheet_NotLeast ?ne_OffSheet_NotWithin ?sb_OffSheet_NotWithin ?sb_OffSheet_OffSheet ?ne_OffSheet_TooMany ?sb_OffSheet_TooMany ?sb_OffSheet_ValueError ?ne_OffSheet_CrystalError ?sb_OffSheet_CrystalError ?n_abs ?n_bool ?n_int ?n_isinstance ?n_len ?n_max ?n_range ?n_sum ?n_tuple ?n_zip ?n_ValueError
    (case a1 => k_is); (case l1 => k_is); (case c1 => k_is); (case k1 => k_is); (case a2 => k_is); (case l2 => k_is); (case c2 => k_is); (case k2 => k_is); (case a3 => k_is); (case l3 => k_is); (case c3 => k_is); (case k3 => k_is); (case a4 => k_is); (case l4 => k_is); (case c4 => k_is); (case k4 => k_is); (case a5 => k_is); (case l5 => k_is); (case c5 => k_is); (case k5 => k_is); (case a6 => k_is); (case l6 => k_is); (case c6 => k_is); (case k6 => k_is); (case a7 => k_is); (case l7 => k_is); (case c7 => k_is); (case k7 => k_is); (case a8 => k_is); (case l8 => k_is); (case c8 => k_is); (case k8 => k_is); (case a9 => k_is); (case l9 => k_is); (case c9 => k_is); (case k9 => k_is); (case a10 => k_is); (case l10 => k_is); (case c10 => k_is); (case k10 => k_is); (case a11 => k_is); (case l11 => k_is); (case c11 => k_is); (case k11 => k_is); (case a12 => k_is); (case l12 => k_is); (case c12 => k_is); (case k12 => k_is); (case a13 => k_is); (case l13 => k_is); (case c13 => k_is); (case k13 => k_is); (case a14 => k_is); (case l14 => k_is); (case c14 => k_is); (case k14 => k_is); (case a15 => k_is); (case l15 => k_is); (case c15 => k_is); (case k15 => k_is); (case a16 => k_is); (case l16 => k_is); (case c16 => k_is); (case k16 => k_is); (case a17 => k_is); (case l17 => k_is); (case c17 => k_is); (case k17 => k_is); (case a18 => k_is); (case l18 => k_is); (case c18 => k_is); (case k18 => k_is); (case a19 => k_is); (case l19 => k_is); (case c19 => k_is); (case k19 => k_is); (case a20 => k_is); (case l20 => k_is); (case c20 => k_is); (case k20 => k_is); (case e_NoPlace => k_is); (case e_OffSheet => k_is); (case e_NoChange => k_is); (case e_NoDeed => k_is); (case e_NoDrawing => k_is); (case e_NoForm => k_is); (case e_NoName => k_is); (case e_NoNumber => k_is); (case e_NoRow => k_is); (case e_NoSheet => k_is); (case e_NoText => k_is); (case e_NotKept => k_is); (case e_NotLeast => k_is); (case e_NotWithin => k_is); (case e_TooMany => k_is); (case e_CrystalError => k_is); (case ex_NoPlace => k_exc); (case ek_NoPlace => k_is); (case eb_NoPlace => k_is); (case et_NoPlace => k_is); (case hg_NoPlace => k_is); (case hk_NoPlace => k_is); (case hd_NoPlace => k_is); (case ha_NoPlace => k_is); (case hn_NoPlace => k_is); (case ht_NoPlace => k_is); (case hm_NoPlace => k_is); (case ex_OffSheet => k_exc); (case ek_OffSheet => k_is); (case eb_OffSheet => k_is); (case et_OffSheet => k_is); (case hg_OffSheet => k_is); (case hk_OffSheet => k_is); (case hd_OffSheet => k_is); (case ha_OffSheet => k_is); (case hn_OffSheet => k_is); (case ht_OffSheet => k_is); (case hm_OffSheet => k_is); (case hd_NoChange => k_is); (case et_NoChange => k_is); (case hd_NoDeed => k_is); (case et_NoDeed => k_is); (case hd_NoDrawing => k_is); (case et_NoDrawing => k_is); (case hd_NoForm => k_is); (case et_NoForm => k_is); (case hd_NoName => k_is); (case et_NoName => k_is); (case hd_NoNumber => k_is); (case et_NoNumber => k_is); (case hd_NoRow => k_is); (case et_NoRow => k_is); (case hd_NoSheet => k_is); (case et_NoSheet => k_is); (case hd_NoText => k_is); (case et_NoText => k_is); (case hd_NotKept => k_is); (case et_NotKept => k_is); (case hd_NotLeast => k_is); (case et_NotLeast => k_is); (case hd_NotWithin => k_is); (case et_NotWithin => k_is); (case hd_TooMany => k_is); (case et_TooMany => k_is); (case hd_CrystalError => k_is); (case et_CrystalError => k_is); (case eb_CrystalError => k_is); (case ne_NoPlace_NoChange => rfl); (case sb_NoPlace_NoChange => k_is); (case ne_NoPlace_NoDeed => rfl); (case sb_NoPlace_NoDeed => k_is); (case ne_NoPlace_NoDrawing => rfl); (case sb_NoPlace_NoDrawing => k_is); (case ne_NoPlace_NoForm => rfl); (case sb_NoPlace_NoForm => k_is); (case ne_NoPlace_NoName => rfl); (case sb_NoPlace_NoName => k_is); (case ne_NoPlace_NoNumber => rfl); (case sb_NoPlace_NoNumber => k_is); (case sb_NoPlace_NoPlace => k_is); (case ne_NoPlace_NoRow => rfl); (case sb_NoPlace_NoRow => k_is); (case ne_NoPlace_NoSheet => rfl); (case sb_NoPlace_NoSheet => k_is); (case ne_NoPlace_NoText => rfl); (case sb_NoPlace_NoText => k_is); (case ne_NoPlace_NotKept => rfl); (case sb_NoPlace_NotKept => k_is); (case ne_NoPlace_NotLeast => rfl); (case sb_NoPlace_NotLeast => k_is); (case ne_NoPlace_NotWithin => rfl); (case sb_NoPlace_NotWithin => k_is); (case ne_NoPlace_OffSheet => rfl); (case sb_NoPlace_OffSheet => k_is); (case ne_NoPlace_TooMany => rfl); (case sb_NoPlace_TooMany => k_is); (case sb_NoPlace_ValueError => k_is); (case ne_NoPlace_CrystalError => rfl); (case sb_NoPlace_CrystalError => k_is); (case ne_OffSheet_NoChange => rfl); (case sb_OffSheet_NoChange => k_is); (case ne_OffSheet_NoDeed => rfl); (case sb_OffSheet_NoDeed => k_is); (case ne_OffSheet_NoDrawing => rfl); (case sb_OffSheet_NoDrawing => k_is); (case ne_OffSheet_NoForm => rfl); (case sb_OffSheet_NoForm => k_is); (case ne_OffSheet_NoName => rfl); (case sb_OffSheet_NoName => k_is); (case ne_OffSheet_NoNumber => rfl); (case sb_OffSheet_NoNumber => k_is); (case ne_OffSheet_NoPlace => rfl); (case sb_OffSheet_NoPlace => k_is); (case ne_OffSheet_NoRow => rfl); (case sb_OffSheet_NoRow => k_is); (case ne_OffSheet_NoSheet => rfl); (case sb_OffSheet_NoSheet => k_is); (case ne_OffSheet_NoText => rfl); (case sb_OffSheet_NoText => k_is); (case ne_OffSheet_NotKept => rfl); (case sb_OffSheet_NotKept => k_is); (case ne_OffSheet_NotLeast => rfl); (case sb_OffSheet_NotLeast => k_is); (case ne_OffSheet_NotWithin => rfl); (case sb_OffSheet_NotWithin => k_is); (case sb_OffSheet_OffSheet => k_is); (case ne_OffSheet_TooMany => rfl); (case sb_OffSheet_TooMany => k_is); (case sb_OffSheet_ValueError => k_is); (case ne_OffSheet_CrystalError => rfl); (case sb_OffSheet_CrystalError => k_is); (case n_abs => k_is); (case n_bool => k_is); (case n_int => k_is); (case n_isinstance => k_is); (case n_len => k_is); (case n_max => k_is); (case n_range => k_is); (case n_sum => k_is); (case n_tuple => k_is); (case n_zip => k_is); (case n_ValueError => k_is)
