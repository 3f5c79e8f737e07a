import PyProof.Rows.All
import Wide.All
import OpenK.AllK
import Wide.FinOn
import HandS.ForExc
import HandS.ForMost
import HandS.Wide
import HandS.Evl
import HandS.TryOnly
import HandS.SuiteRaise
import HandS.IsInst
import HandS.Zip
import HandS.EndBits
import KE.IntBitsLaws
import PySem.Challenge.RW_crystalwords_k11_divisor
set_option Elab.async false
set_option linter.all false
set_option maxRecDepth 100000
/-! DLa: data, what bears it, slots, the state's relation. -/
namespace DL
open PySem PySem.Spec PyProof.Rows L2 Evl

/-- frozen data -/
inductive D where
  | non | bl (b : Bool) | int (i : Int) | str (x : Str) | tup (l : List D) | lst (l : List D)
  | obj (c : Str) (ns : List Str) (vs : List D)
instance : Inhabited D := ⟨.non⟩

mutual
def D.toPy : D → PyData
  | .non => .none | .bl b => .bool b | .int i => .int i | .str x => .str x
  | .tup l => .tuple (D.toPys l) | .lst l => .list (D.toPys l) | .obj _ _ _ => .dict []
def D.toPys : List D → List PyData
  | [] => [] | d :: r => d.toPy :: D.toPys r
end
theorem toPys_map : ∀ l : List D, D.toPys l = l.map D.toPy
  | [] => rfl
  | d :: r => by rw [D.toPys, toPys_map r]; rfl
def deq (d e : D) : Bool := PyData.eqv d.toPy e.toPy
def shp (d : D) : Bool := SeqAt.shaped d.toPy

abbrev MG := Str → Option Value
section
variable (K : PySem.W.Frag) (mg : MG)
mutual
/-- in H the value v is the data d -/
inductive Rp (H : Hp) : V → D → Prop
  | non : Rp H .non .non
  | bl (b : Bool) : Rp H (.bl b) (.bl b)
  | int (i : Int) : Rp H (.int i) (.int i)
  | str (x : Str) : Rp H (.str x) (.str x)
  | tup {a : Addr} {xs : List V} {ds : List D} : SqT K H a xs → Rps H xs ds → Rp H (.ref a) (.tup ds)
  | lst {a : Addr} {xs : List V} {ds : List D} : SqL K H a xs → Rps H xs ds → Rp H (.ref a) (.lst ds)
  | obj {a C dx : Addr} {c : Str} {ns : List Str} {xs : List V} {ds : List D} : H a = some (.ins C dx (ns.zip xs)) → mg c = some (.ref C) → ns.length = xs.length → Rps H xs ds → Rp H (.ref a) (.obj c ns ds)
inductive Rps (H : Hp) : List V → List D → Prop
  | nil : Rps H [] []
  | cons {v : V} {vs : List V} {d : D} {ds : List D} : Rp H v d → Rps H vs ds → Rps H (v :: vs) (d :: ds)
end
end
variable {K : PySem.W.Frag} {mg : MG} {H H' H1 H2 Hf Hf' : Hp} {v : V} {d : D} {xs vs : List V} {ds : List D} {σ σ' : L2.St}

mutual
theorem Rp.mono (e : Ex H H') : ∀ {v : V} {d : D}, Rp K mg H v d → Rp K mg H' v d
  | _, _, .non => .non
  | _, _, .bl b => .bl b
  | _, _, .int i => .int i
  | _, _, .str x => .str x
  | _, _, .tup h r => .tup (ex_t e h) (Rps.mono e r)
  | _, _, .lst h r => .lst (ex_l e h) (Rps.mono e r)
  | _, _, .obj h c l r => .obj (e _ _ h) c l (Rps.mono e r)
theorem Rps.mono (e : Ex H H') : ∀ {v : List V} {d : List D}, Rps K mg H v d → Rps K mg H' v d
  | _, _, .nil => .nil
  | _, _, .cons h r => .cons (Rp.mono e h) (Rps.mono e r)
end
theorem Rps.length : ∀ {xs : List V} {ds : List D}, Rps K mg H xs ds → xs.length = ds.length
  | _, _, .nil => rfl
  | _, _, .cons _ r => congrArg (· + 1) (Rps.length r)
theorem Rps.get : ∀ {xs : List V} {ds : List D} {i : Nat} {d : D}, Rps K mg H xs ds → ds[i]? = some d → ∃ x, xs[i]? = some x ∧ Rp K mg H x d
  | _, _, _, _, .nil, e => by simp at e
  | _, _, 0, _, .cons r _, e => by simp at e; subst e; exact ⟨_, rfl, r⟩
  | _, _, i + 1, d, .cons _ t, e => by
    obtain ⟨u, h1, h2⟩ := Rps.get (i := i) (d := d) t (by simpa using e)
    exact ⟨u, by simpa using h1, h2⟩
theorem Rps.getV : ∀ {xs : List V} {ds : List D} {i : Nat} {x : V}, Rps K mg H xs ds → xs[i]? = some x → ∃ d, ds[i]? = some d ∧ Rp K mg H x d
  | _, _, _, _, .nil, e => by simp at e
  | _, _, 0, _, .cons r _, e => by simp at e; subst e; exact ⟨_, rfl, r⟩
  | _, _, i + 1, d, .cons _ t, e => by
    obtain ⟨u, h1, h2⟩ := Rps.getV (i := i) (x := d) t (by simpa using e)
    exact ⟨u, by simpa using h1, h2⟩
theorem Rps.append : ∀ {xs ys : List V} {ds es : List D}, Rps K mg H xs ds → Rps K mg H ys es → Rps K mg H (xs ++ ys) (ds ++ es)
  | _, _, _, _, .nil, s => s
  | _, _, _, _, .cons r t, s => .cons r (Rps.append t s)
theorem Rps.set {x : V} {d : D} (r : Rp K mg H x d) : ∀ {xs : List V} {ds : List D} (i : Nat), Rps K mg H xs ds → Rps K mg H (xs.set i x) (ds.set i d)
  | _, _, _, .nil => .nil
  | _, _, 0, .cons _ t => .cons r t
  | _, _, i + 1, .cons q t => .cons q (Rps.set r i t)
theorem Rps.take : ∀ {xs : List V} {ds : List D} (n : Nat), Rps K mg H xs ds → Rps K mg H (xs.take n) (ds.take n)
  | _, _, 0, _ => .nil
  | _, _, _ + 1, .nil => .nil
  | _, _, n + 1, .cons r t => .cons r (Rps.take n t)
theorem Rps.drop : ∀ {xs : List V} {ds : List D} (n : Nat), Rps K mg H xs ds → Rps K mg H (xs.drop n) (ds.drop n)
  | _, _, 0, r => r
  | _, _, _ + 1, .nil => .nil
  | _, _, n + 1, .cons _ t => Rps.drop n t
theorem Rps.reverse : ∀ {xs : List V} {ds : List D}, Rps K mg H xs ds → Rps K mg H xs.reverse ds.reverse
  | _, _, .nil => .nil
  | _, _, .cons r t => by
    rw [List.reverse_cons, List.reverse_cons]
    exact (Rps.reverse t).append (.cons r .nil)
theorem Rps.dropLast {xs : List V} {ds : List D} (h : Rps K mg H xs ds) : Rps K mg H xs.dropLast ds.dropLast := by
  rw [List.dropLast_eq_take, List.dropLast_eq_take, h.length]
  exact h.take _
theorem Rps.eraseIdx : ∀ {xs : List V} {ds : List D} (i : Nat), Rps K mg H xs ds → Rps K mg H (xs.eraseIdx i) (ds.eraseIdx i)
  | _, _, _, .nil => .nil
  | _, _, 0, .cons _ t => t
  | _, _, i + 1, .cons q t => .cons q (Rps.eraseIdx i t)

mutual
/-- plain data: no object within -/
def D.py : D → Bool
  | .obj _ _ _ => false
  | .tup l => D.pys l
  | .lst l => D.pys l
  | _ => true
def D.pys : List D → Bool
  | [] => true
  | d :: r => d.py && D.pys r
end
mutual
theorem Rp.dp : ∀ {v : V} {d : D}, Rp K mg H v d → d.py = true → Dp K H v d.toPy
  | _, _, .non, _ => .non
  | _, _, .bl b, _ => .bl b
  | _, _, .int i, _ => .int i
  | _, _, .str x, _ => .str x
  | _, _, .tup h r, p => .tup h (Rps.dps r (by rw [D.py] at p; exact p))
  | _, _, .lst h r, p => .lst h (Rps.dps r (by rw [D.py] at p; exact p))
  | _, _, .obj _ _ _ _, p => by rw [D.py] at p; cases p
theorem Rps.dps : ∀ {v : List V} {d : List D}, Rps K mg H v d → D.pys d = true → DpAll K H v (D.toPys d)
  | _, _, .nil, _ => .nil
  | _, _, .cons h r, p => by
    rw [D.pys, Bool.and_eq_true] at p
    exact .cons (Rp.dp h p.1) (Rps.dps r p.2)
end
theorem Rp.int_inv {v : V} {i : Int} (h : Rp K mg H v (.int i)) : v = .int i := by cases h; rfl
theorem Rp.bl_inv {v : V} {i : Bool} (h : Rp K mg H v (.bl i)) : v = .bl i := by cases h; rfl
theorem Rp.str_inv {v : V} {i : Str} (h : Rp K mg H v (.str i)) : v = .str i := by cases h; rfl
theorem Rp.non_inv {v : V} (h : Rp K mg H v .non) : v = .non := by cases h; rfl
theorem Rp.non_iff {v : V} {d : D} (h : Rp K mg H v d) : decide (v = .non) = (match d with | .non => true | _ => false) := by
  cases h <;> simp
theorem Rps.ints : ∀ {vs : List V} {ns : List Int}, Rps K mg H vs (ns.map D.int) → vs = ns.map V.int
  | _, [], .nil => rfl
  | _, n :: ns, .cons h r => by
    rw [h.int_inv, Rps.ints r]; rfl

/-! ### what a slot holds -/
/-- what an owned object holds -/
inductive OD where
  | lst (l : List D)
  | dK (ks : List Key) (ds : List D)
  | dT (ks : List (List Key)) (ds : List D)
inductive Sl where
  | no
  | val (d : D)
  | own (k : Option Nat) (o : OD)
abbrev DEnv := List Sl

/-- the object o is what od says, its parts frozen -/
def OdR (K : PySem.W.Frag) (mg : MG) (Hf : Hp) : OD → HO → Prop
  | .lst l, o => ∃ vs, o = .lst vs ∧ Rps K mg Hf vs l
  | .dK ks l, o => ∃ vs, o = .dK (ks.zip vs) ∧ ks.length = l.length ∧ Rps K mg Hf vs l
  | .dT ks l, o => ∃ vs, o = .dT (ks.zip vs) ∧ ks.length = l.length ∧ Rps K mg Hf vs l
theorem OdR.mono (e : Ex Hf Hf') {od : OD} {o : HO} (h : OdR K mg Hf od o) : OdR K mg Hf' od o := by
  cases od with
  | lst l => obtain ⟨vs, a, b⟩ := h; exact ⟨vs, a, b.mono e⟩
  | dK ks l => obtain ⟨vs, a, c, b⟩ := h; exact ⟨vs, a, c, b.mono e⟩
  | dT ks l => obtain ⟨vs, a, c, b⟩ := h; exact ⟨vs, a, c, b.mono e⟩

/-- ps: the addresses of what the caller handed in to be changed; g: what stands in the heap and is not ours -/
structure Fg where
  ps : List Addr
  g : Hp
def SlR (K : PySem.W.Frag) (mg : MG) (ps : List Addr) (Hf H : Hp) (x : Option V) : Sl → Prop
  | .no => True
  | .val d => ∃ v, x = some v ∧ Rp K mg Hf v d
  | .own k od => ∃ p o, x = some (.ref p) ∧ Hf p = none ∧ H p = some o ∧ OdR K mg Hf od o ∧ ∀ j, k = some j → ps[j]? = some p

structure SR (K : PySem.W.Frag) (mg : MG) (ps : Fg) (Hf H : Hp) (σ : L2.St) (e : DEnv) : Prop where
  ex : Ex Hf H
  len : σ.length = e.length
  sl : ∀ (i : Nat) (s : Sl), e[i]? = some s → ∃ x, σ[i]? = some x ∧ SlR K mg ps.ps Hf H x s
  ap : ∀ (i j : Nat) (k k' : Option Nat) (l l' : OD) (p : Addr), i ≠ j → e[i]? = some (.own k l) → e[j]? = some (.own k' l') → σ[i]? = some (some (.ref p)) → σ[j]? = some (some (.ref p)) → False
  fg : ∀ (a : Addr) (o : HO), ps.g a = some o → H a = some o ∧ Hf a = none ∧ ∀ (i : Nat) (k : Option Nat) (l : OD), e[i]? = some (.own k l) → σ[i]? = some (some (.ref a)) → False

variable {ps : Fg} {e e' : DEnv}
theorem SR.val (S : SR K mg ps Hf H σ e) {i : Nat} {d : D} (h : e[i]? = some (.val d)) : ∃ v, σ[i]? = some (some v) ∧ Rp K mg Hf v d := by
  obtain ⟨x, hx, v, rfl, r⟩ := S.sl i _ h
  exact ⟨v, hx, r⟩
theorem SR.own (S : SR K mg ps Hf H σ e) {i : Nat} {k : Option Nat} {od : OD} (h : e[i]? = some (.own k od)) :
    ∃ p o, σ[i]? = some (some (.ref p)) ∧ Hf p = none ∧ H p = some o ∧ OdR K mg Hf od o ∧ ∀ j, k = some j → ps.ps[j]? = some p := by
  obtain ⟨x, hx, p, o, rfl, r⟩ := S.sl i _ h
  exact ⟨p, o, hx, r⟩
/-- a new object, frozen at once -/
theorem SR.froze (S : SR K mg ps Hf H σ e) {p : Addr} {o : HO} (n : H p = none) : SR K mg ps (upd Hf p o) (upd H p o) σ e := by
  have ne : ∀ q u, H q = some u → q ≠ p := fun q u h => ne_of_none h n
  have nf : Hf p = none := fresh_back S.ex n
  refine ⟨fun a u h => ?_, S.len, fun i s h => ?_, S.ap, fun a u h => ?_⟩
  · by_cases hp : a = p
    · subst hp; rw [upd_same] at h ⊢; exact h
    · rw [upd_ne hp] at h ⊢; exact S.ex a u h
  · obtain ⟨x, hx, r⟩ := S.sl i s h
    refine ⟨x, hx, ?_⟩
    cases s with
    | no => trivial
    | val d => obtain ⟨v, a, b⟩ := r; exact ⟨v, a, b.mono (Ex.new nf)⟩
    | own k od =>
      obtain ⟨q, u, a, b, c, f, g⟩ := r
      exact ⟨q, u, a, by rw [upd_ne (ne q u c)]; exact b, by rw [upd_ne (ne q u c)]; exact c, f.mono (Ex.new nf), g⟩
  · obtain ⟨h1, h2, h3⟩ := S.fg a u h
    exact ⟨by rw [upd_ne (ne a u h1)]; exact h1, by rw [upd_ne (ne a u h1)]; exact h2, h3⟩
/-- a new object that nobody names -/
theorem SR.laid (S : SR K mg ps Hf H σ e) {p : Addr} {o : HO} (n : H p = none) : SR K mg ps Hf (upd H p o) σ e := by
  have ne : ∀ q u, H q = some u → q ≠ p := fun q u h => ne_of_none h n
  refine ⟨S.ex.trans (Ex.new n), S.len, fun i s h => ?_, S.ap, fun a u h => ?_⟩
  · obtain ⟨x, hx, r⟩ := S.sl i s h
    refine ⟨x, hx, ?_⟩
    cases s with
    | no => trivial
    | val d => exact r
    | own k od =>
      obtain ⟨q, u, a, b, c, f, g⟩ := r
      exact ⟨q, u, a, b, by rw [upd_ne (ne q u c)]; exact c, f, g⟩
  · obtain ⟨h1, h2, h3⟩ := S.fg a u h
    exact ⟨by rw [upd_ne (ne a u h1)]; exact h1, h2, h3⟩
/-- an object of H that nobody owns is frozen -/
theorem SR.freezes (S : SR K mg ps Hf H σ e) {p : Addr} {o : HO} (h : H p = some o) (nf : Hf p = none) (ng : ps.g p = none)
    (no : ∀ (i : Nat) (k : Option Nat) (l : OD), e[i]? = some (.own k l) → σ[i]? = some (some (.ref p)) → False) : SR K mg ps (upd Hf p o) H σ e := by
  refine ⟨fun a u q => ?_, S.len, fun i s q => ?_, S.ap, fun a u q => ?_⟩
  · by_cases hp : a = p
    · subst hp; rw [upd_same] at q; rw [h]; exact q
    · rw [upd_ne hp] at q; exact S.ex a u q
  · obtain ⟨x, hx, r⟩ := S.sl i s q
    refine ⟨x, hx, ?_⟩
    cases s with
    | no => trivial
    | val d => obtain ⟨v, a, b⟩ := r; exact ⟨v, a, b.mono (Ex.new nf)⟩
    | own k od =>
      obtain ⟨r0, u, a, b, c, f, g⟩ := r
      have hn : r0 ≠ p := fun z => by subst z; exact no i k od q (by rw [hx, a])
      exact ⟨r0, u, a, by rw [upd_ne hn]; exact b, c, f.mono (Ex.new nf), g⟩
  · obtain ⟨h1, h2, h3⟩ := S.fg a u q
    have hn : a ≠ p := fun z => by subst z; rw [ng] at q; cases q
    exact ⟨h1, by rw [upd_ne hn]; exact h2, h3⟩
theorem Ex.upd2 {Hf : Hp} {p : Addr} {o : HO} (n : Hf p = none) : Ex Hf (upd Hf p o) := Ex.new n
/-- a slot is given a value -/
theorem SR.put (S : SR K mg ps Hf H σ e) (i : Nat) {v : V} {d : D} (r : Rp K mg Hf v d) : SR K mg ps Hf H (σ.set i (some v)) (e.set i (.val d)) := by
  refine ⟨S.ex, by simp [S.len], fun j s h => ?_, fun a b k k' l l' p hab h1 h2 h3 h4 => ?_, fun a u h => ?_⟩
  · by_cases hj : i = j
    · subst hj
      have hl : i < e.length := by
        have := (List.getElem?_eq_some_iff.mp h).1; simpa using this
      rw [List.getElem?_set_self hl] at h
      cases h
      exact ⟨some v, List.getElem?_set_self (by rw [S.len]; exact hl), v, rfl, r⟩
    · rw [List.getElem?_set_ne hj] at h ⊢
      exact S.sl j s h
  · by_cases ha : i = a
    · subst ha
      have hl : i < e.length := by
        have := (List.getElem?_eq_some_iff.mp h1).1; simpa using this
      rw [List.getElem?_set_self hl] at h1; cases h1
    · by_cases hb : i = b
      · subst hb
        have hl : i < e.length := by
          have := (List.getElem?_eq_some_iff.mp h2).1; simpa using this
        rw [List.getElem?_set_self hl] at h2; cases h2
      · rw [List.getElem?_set_ne ha] at h1 h3
        rw [List.getElem?_set_ne hb] at h2 h4
        exact S.ap a b k k' l l' p hab h1 h2 h3 h4
  · obtain ⟨h1, h2, h3⟩ := S.fg a u h
    refine ⟨h1, h2, fun j k l q1 q2 => ?_⟩
    by_cases hj : i = j
    · subst hj
      have hl : i < e.length := by
        have := (List.getElem?_eq_some_iff.mp q1).1; simpa using this
      rw [List.getElem?_set_self hl] at q1; cases q1
    · rw [List.getElem?_set_ne hj] at q1 q2
      exact h3 j k l q1 q2
/-- a slot is forgotten -/
theorem SR.drop (S : SR K mg ps Hf H σ e) (i : Nat) (x : Option V) : SR K mg ps Hf H (σ.set i x) (e.set i .no) := by
  refine ⟨S.ex, by simp [S.len], fun j s h => ?_, fun a b k k' l l' p hab h1 h2 h3 h4 => ?_, fun a u h => ?_⟩
  · by_cases hj : i = j
    · subst hj
      have hl : i < e.length := by
        have := (List.getElem?_eq_some_iff.mp h).1; simpa using this
      rw [List.getElem?_set_self hl] at h
      cases h
      exact ⟨x, List.getElem?_set_self (by rw [S.len]; exact hl), trivial⟩
    · rw [List.getElem?_set_ne hj] at h ⊢
      exact S.sl j s h
  · by_cases ha : i = a
    · subst ha
      have hl : i < e.length := by
        have := (List.getElem?_eq_some_iff.mp h1).1; simpa using this
      rw [List.getElem?_set_self hl] at h1; cases h1
    · by_cases hb : i = b
      · subst hb
        have hl : i < e.length := by
          have := (List.getElem?_eq_some_iff.mp h2).1; simpa using this
        rw [List.getElem?_set_self hl] at h2; cases h2
      · rw [List.getElem?_set_ne ha] at h1 h3
        rw [List.getElem?_set_ne hb] at h2 h4
        exact S.ap a b k k' l l' p hab h1 h2 h3 h4
  · obtain ⟨h1, h2, h3⟩ := S.fg a u h
    refine ⟨h1, h2, fun j k l q1 q2 => ?_⟩
    by_cases hj : i = j
    · subst hj
      have hl : i < e.length := by
        have := (List.getElem?_eq_some_iff.mp q1).1; simpa using this
      rw [List.getElem?_set_self hl] at q1; cases q1
    · rw [List.getElem?_set_ne hj] at q1 q2
      exact h3 j k l q1 q2
/-- a slot is given a new object of its own, which H bears and nobody else names -/
theorem SR.take (S : SR K mg ps Hf H σ e) (i : Nat) {p : Addr} {o : HO} {od : OD} (hp : H p = some o) (nf : Hf p = none) (ng : ps.g p = none) (r : OdR K mg Hf od o)
    (no : ∀ (i : Nat) (k : Option Nat) (l : OD), e[i]? = some (.own k l) → σ[i]? = some (some (.ref p)) → False) : SR K mg ps Hf H (σ.set i (some (.ref p))) (e.set i (.own none od)) := by
  refine ⟨S.ex, by simp [S.len], fun j s h => ?_, fun a b k k' l l' q hab h1 h2 h3 h4 => ?_, fun a u h => ?_⟩
  · by_cases hj : i = j
    · subst hj
      have hl : i < e.length := by
        have := (List.getElem?_eq_some_iff.mp h).1; simpa using this
      rw [List.getElem?_set_self hl] at h
      cases h
      exact ⟨some (.ref p), List.getElem?_set_self (by rw [S.len]; exact hl), p, o, rfl, nf, hp, r, fun _ z => by cases z⟩
    · rw [List.getElem?_set_ne hj] at h ⊢
      exact S.sl j s h
  · have hlen : ∀ {a : Nat} {s : Sl}, (e.set i (.own none od))[a]? = some s → a < e.length := fun h => by
      have := (List.getElem?_eq_some_iff.mp h).1; simpa using this
    by_cases ha : i = a
    · subst ha
      have hb : i ≠ b := hab
      rw [List.getElem?_set_self (by rw [S.len]; exact hlen h1)] at h3
      rw [List.getElem?_set_ne hb] at h2 h4
      cases h3
      exact no b k' l' h2 h4
    · rw [List.getElem?_set_ne ha] at h1 h3
      by_cases hb : i = b
      · subst hb
        rw [List.getElem?_set_self (by rw [S.len]; exact hlen h2)] at h4
        cases h4
        exact no a k l h1 h3
      · rw [List.getElem?_set_ne hb] at h2 h4
        exact S.ap a b k k' l l' q hab h1 h2 h3 h4
  · obtain ⟨h1, h2, h3⟩ := S.fg a u h
    refine ⟨h1, h2, fun j k l q1 q2 => ?_⟩
    by_cases hj : i = j
    · subst hj
      have hl : i < e.length := by
        have := (List.getElem?_eq_some_iff.mp q1).1; simpa using this
      rw [List.getElem?_set_self (by rw [S.len]; exact hl)] at q2
      cases q2
      rw [ng] at h; cases h
    · rw [List.getElem?_set_ne hj] at q1 q2
      exact h3 j k l q1 q2
/-- what a slot owns is changed -/
theorem SR.turn (S : SR K mg ps Hf H σ e) {i : Nat} {p : Addr} {o' : HO} {k : Option Nat} {od od' : OD} (h : e[i]? = some (.own k od)) (hp : σ[i]? = some (some (.ref p))) (r : OdR K mg Hf od' o') :
    SR K mg ps Hf (upd H p o') σ (e.set i (.own k od')) := by
  obtain ⟨p', o, hp', nf, hh, _, hk⟩ := S.own h
  rw [hp] at hp'; cases hp'
  have hl : i < e.length := (List.getElem?_eq_some_iff.mp h).1
  have back : ∀ {a : Nat} {k2 l2}, (e.set i (.own k od'))[a]? = some (.own k2 l2) → ∃ k3 l3, e[a]? = some (.own k3 l3) := fun {a k2 l2} q => by
    by_cases ha : i = a
    · subst ha; exact ⟨_, _, h⟩
    · rw [List.getElem?_set_ne ha] at q; exact ⟨_, _, q⟩
  refine ⟨fun a u q => ?_, by simp [S.len], fun j s q => ?_, fun a b k1 k' l l' q hab h1 h2 h3 h4 => ?_, fun a u q => ?_⟩
  · rw [upd_ne (ne_of_none q nf)]; exact S.ex a u q
  · by_cases hj : i = j
    · subst hj
      rw [List.getElem?_set_self hl] at q
      cases q
      exact ⟨_, hp, p, o', rfl, nf, upd_same, r, hk⟩
    · rw [List.getElem?_set_ne hj] at q
      obtain ⟨x, hx, z⟩ := S.sl j s q
      refine ⟨x, hx, ?_⟩
      cases s with
      | no => trivial
      | val d => exact z
      | own k2 od2 =>
        obtain ⟨q2, u, a, b, c, f, g⟩ := z
        have hn : q2 ≠ p := fun z => by subst z; exact S.ap i j _ _ _ _ q2 hj h q hp (by rw [hx, a])
        exact ⟨q2, u, a, b, by rw [upd_ne hn]; exact c, f, g⟩
  · obtain ⟨_, _, g1⟩ := back h1
    obtain ⟨_, _, g2⟩ := back h2
    exact S.ap a b _ _ _ _ q hab g1 g2 h3 h4
  · obtain ⟨h1, h2, h3⟩ := S.fg a u q
    refine ⟨by rw [upd_ne (fun z => by subst z; exact h3 i _ _ h hp)]; exact h1, h2, fun j k2 l2 q1 q2 => ?_⟩
    obtain ⟨_, _, g1⟩ := back q1
    exact h3 j _ _ g1 q2
/-- an own slot is frozen -/
def frz1 (e : DEnv) (i : Nat) : DEnv := match e[i]? with
  | some (.own none (.lst l)) => e.set i (.val (.lst l))
  | _ => e
theorem SR.frz (S : SR K mg ps Hf H σ e) (i : Nat) : ∃ Hf', Ex Hf Hf' ∧ SR K mg ps Hf' H σ (frz1 e i) := by
  unfold frz1
  split
  · rename_i l h
    obtain ⟨p, o, hp, nf, hh, ⟨vs, rfl, r⟩, hk⟩ := S.own h
    have hl : i < e.length := (List.getElem?_eq_some_iff.mp h).1
    have S1 := S.drop i (some (.ref p))
    rw [show σ.set i (some (.ref p)) = σ from by
      apply List.ext_getElem?
      intro j
      by_cases hj : i = j
      · subst hj; rw [List.getElem?_set_self (by rw [S.len]; exact hl), hp]
      · rw [List.getElem?_set_ne hj]] at S1
    have ng : ps.g p = none := by
      cases q : ps.g p with
      | none => rfl
      | some u => exact ((S.fg p u q).2.2 i _ _ h hp).elim
    have S2 := S1.freezes hh nf ng (fun j k l2 q1 q2 => by
      by_cases hj : i = j
      · subst hj; rw [List.getElem?_set_self hl] at q1; cases q1
      · rw [List.getElem?_set_ne hj] at q1
        exact S.ap i j _ _ _ _ p hj h q1 hp q2)
    refine ⟨upd Hf p (.lst vs), Ex.new nf, ?_⟩
    have S3 := S2.put i (v := .ref p) (d := .lst l) (.lst (.inl (.inl upd_same)) (r.mono (Ex.new nf)))
    rw [List.set_set] at S3
    rw [show σ.set i (some (.ref p)) = σ from by
      apply List.ext_getElem?
      intro j
      by_cases hj : i = j
      · subst hj; rw [List.getElem?_set_self (by rw [S.len]; exact hl), hp]
      · rw [List.getElem?_set_ne hj]] at S3
    exact S3
  · exact ⟨Hf, Ex.refl Hf, S⟩
end DL

/-! DLb: what an expression, a test, a statement is worth over data; the core's rules. -/
namespace DL
open PySem PySem.Spec PyProof.Rows L2 Evl

inductive Res (α : Type) where
  | ok (a : α) (e : DEnv) | exc (x : Str) (p : Option D) (e : DEnv) | stuck
abbrev M (α : Type) := DEnv → Res α
def ret {α : Type} (a : α) : M α := fun e => .ok a e
def stk {α : Type} : M α := fun _ => .stuck
def bnd {α β : Type} (m : M α) (f : α → M β) : M β := fun e => match m e with
  | .ok a e' => f a e' | .exc x p e' => .exc x p e' | .stuck => .stuck
@[simp] theorem ret_ap {α : Type} (a : α) (e : DEnv) : ret a e = .ok a e := rfl
@[simp] theorem stk_ap {α : Type} (e : DEnv) : (stk e : Res α) = .stuck := rfl
theorem bnd_ok {α β : Type} {m : M α} {f : α → M β} {e e' : DEnv} {a : α} (h : m e = .ok a e') : bnd m f e = f a e' := by unfold bnd; rw [h]
theorem bnd_exc {α β : Type} {m : M α} {f : α → M β} {e e' : DEnv} {x : Str} {p : Option D} (h : m e = .exc x p e') : bnd m f e = .exc x p e' := by unfold bnd; rw [h]

def IsExc (K : PySem.W.Frag) (mg : MG) (Hf : Hp) (x : Str) (p : Option D) (cls : Value) (dd : Option Addr) : Prop :=
  mg x = some cls ∧ match p with
    | none => dd = none
    | some d => ∃ a v, dd = some a ∧ Hf a = some (.xd [("apart", v)]) ∧ Rp K mg Hf v d

section
variable (K : PySem.W.Frag) (mg : MG) (ps : Fg) (W : WX)
/-- what is wanted behind an expression: P of what it is worth -/
def EG {α : Type} (Hf : Hp) (σ : L2.St) (P : α → Hp → Hp → Prop) : Res α → Prop
  | .ok a e' => ∀ Hf' H', Ex Hf Hf' → SR K mg ps Hf' H' σ e' → P a Hf' H'
  | .exc x p e' => ∀ cls dd Hf' H', Ex Hf Hf' → SR K mg ps Hf' H' σ e' → IsExc K mg Hf' x p cls dd → W cls dd σ H'
  | .stuck => False
def Pd (Q : VK) : D → Hp → Hp → Prop := fun d Hf H => ∀ v, Rp K mg Hf v d → Q v H
def Pds (Q : List V → Hp → Prop) : List D → Hp → Hp → Prop := fun d Hf H => ∀ v, Rps K mg Hf v d → Q v H
def Pb (Q : Bool → Hp → Prop) : Bool → Hp → Hp → Prop := fun b _ H => Q b H
end
section
variable {K : PySem.W.Frag} {mg : MG} {ps : Fg} {W : WX} {Hf Hf' H H' : Hp} {σ : L2.St} {α β : Type} {e : DEnv}
theorem EG.mono {P : α → Hp → Hp → Prop} (x : Ex Hf Hf') : ∀ {r : Res α}, EG K mg ps W Hf σ P r → EG K mg ps W Hf' σ P r
  | .ok _ _, h => fun Hf2 H2 y s => h Hf2 H2 (x.trans y) s
  | .exc _ _ _, h => fun c d Hf2 H2 y s z => h c d Hf2 H2 (x.trans y) s z
  | .stuck, h => h
theorem EG.imp {P P' : α → Hp → Hp → Prop} : ∀ {r : Res α}, EG K mg ps W Hf σ P r → (∀ a Hf' H' , Ex Hf Hf' → P a Hf' H' → P' a Hf' H') → EG K mg ps W Hf σ P' r
  | .ok a _, h, i => fun Hf2 H2 y s => i a Hf2 H2 y (h Hf2 H2 y s)
  | .exc _ _ _, h, _ => h
  | .stuck, h, _ => h
/-- first m, then f -/
theorem EG.bnd {P : β → Hp → Hp → Prop} {P1 : α → Hp → Hp → Prop} {m : M α} {f : α → M β} (h : EG K mg ps W Hf σ P (bnd m f e))
    (hk : ∀ a e' Hf' H', Ex Hf Hf' → SR K mg ps Hf' H' σ e' → EG K mg ps W Hf' σ P (f a e') → P1 a Hf' H') : EG K mg ps W Hf σ P1 (m e) := by
  unfold DL.bnd at h
  cases q : m e with
  | ok a e' =>
    rw [q] at h
    exact fun Hf2 H2 y s => hk a e' Hf2 H2 y s (EG.mono y h)
  | exc x p e' => rw [q] at h; exact h
  | stuck => rw [q] at h; exact h
theorem EG.ret {P : α → Hp → Hp → Prop} {a : α} (h : EG K mg ps W Hf σ P (ret a e)) (S : SR K mg ps Hf H σ e) : P a Hf H := h Hf H (Ex.refl Hf) S
end

/-! ### the judgements -/
section
variable (X : Cx) (W : WX)
structure JE (e : Expr) (f : M D) : Prop where
  ex : ∃ t, PE X e t ∧ ∀ (ps : Fg) (σ : L2.St) (Hf H : Hp) (env : DEnv), SR X.K X.mg ps Hf H σ env → ∀ Q : VK, EG X.K X.mg ps W Hf σ (Pd X.K X.mg Q) (f env) → t σ H Q
structure JT (e : Expr) (f : M Bool) : Prop where
  ex : ∃ t, PT X e t ∧ ∀ (ps : Fg) (σ : L2.St) (Hf H : Hp) (env : DEnv), SR X.K X.mg ps Hf H σ env → ∀ Q : Bool → Hp → Prop, EG X.K X.mg ps W Hf σ (Pb Q) (f env) → t σ H Q
structure JW (e : Expr) (f : M Bool) : Prop where
  ex : ∃ t, PW X e t ∧ ∀ (ps : Fg) (σ : L2.St) (Hf H : Hp) (env : DEnv), SR X.K X.mg ps Hf H σ env → ∀ Q : Bool → Hp → Prop, EG X.K X.mg ps W Hf σ (Pb Q) (f env) → t σ H Q
structure JA (es : List Expr) (f : M (List D)) : Prop where
  ex : ∃ t, PA X es t ∧ ∀ (ps : Fg) (σ : L2.St) (Hf H : Hp) (env : DEnv), SR X.K X.mg ps Hf H σ env → ∀ Q : List V → Hp → Prop, EG X.K X.mg ps W Hf σ (Pds X.K X.mg Q) (f env) → t σ H Q
end
/-- what the context bears -/
structure CtxOk (X : Cx) (W : WX) : Prop where
  calm : X.calm = true
  hu : X.A.units + 64 < cLine
  po : PassesOwn (model X.prog X.w) X.A X.env X.xe
  tk : Takes X W


/-! ### names -/
/-- which names the code's block has -/
structure Nm (X : Cx) (N : List Str) (sc raw : Scope) : Prop where
  hN : X.N = N
  hs : X.env.scope = sc
  nd : N.Nodup
  kind : sc.kind = .function
  fn : ∀ x, raw.names.lookup x = some .cell → X.fn x = true
def okV (N : List Str) (sc : Scope) (i : Nat) (x : Str) : Bool := decide (N[i]? = some x) && (decide (sc.names.lookup x = some .local) || decide (sc.names.lookup x = some .cell) || decide (sc.names.lookup x = some .free)) && !(x == ("__debug__" : Str)) && !(x == ("__classdict__" : Str))
def okS (N : List Str) (sc raw : Scope) (i : Nat) (x : Str) : Bool := decide (N[i]? = some x) && (decide (sc.names.lookup x = some .local) || (decide (sc.names.lookup x = some .cell) && decide (raw.names.lookup x = some .cell)))
def okG (sc : Scope) (x : Str) : Bool := decide (sc.names.lookup x = some .globalImplicit) && !(x == ("__debug__" : Str)) && !decide (x = ("__name__" : Str))
section
variable {X : Cx} {N : List Str} {sc raw : Scope} {i : Nat} {x : Str}
theorem Nm.v (V : Nm X N sc raw) (h : okV N sc i x = true) : X.N[i]? = some x ∧ Vis X.env.scope x ∧ (x == ("__debug__" : Str)) = false ∧ (x == ("__classdict__" : Str)) = false := by
  unfold okV at h
  simp only [Bool.and_eq_true, Bool.or_eq_true, decide_eq_true_eq, Bool.not_eq_true'] at h
  obtain ⟨⟨⟨h1, h2⟩, h3⟩, h4⟩ := h
  refine ⟨by rw [V.hN]; exact h1, ?_, h3, h4⟩
  unfold Vis
  rw [V.hs]
  rcases h2 with (h2 | h2) | h2
  · exact .inl h2
  · exact .inr (.inl h2)
  · exact .inr (.inr h2)
theorem Nm.s (V : Nm X N sc raw) (h : okS N sc raw i x = true) : X.N[i]? = some x ∧ L2.Loc X.env.scope x ∧ (X.fn x = true ∨ X.env.scope.names.lookup x = some .local) := by
  unfold okS at h
  simp only [Bool.and_eq_true, Bool.or_eq_true, decide_eq_true_eq] at h
  obtain ⟨h1, h2⟩ := h
  refine ⟨by rw [V.hN]; exact h1, ?_⟩
  unfold L2.Loc
  rw [V.hs]
  rcases h2 with h2 | ⟨h2, h3⟩
  · exact ⟨.inl h2, .inr h2⟩
  · exact ⟨.inr h2, .inl (V.fn x h3)⟩
theorem Nm.g (V : Nm X N sc raw) (h : okG sc x = true) : Gl X x ∧ (x == ("__debug__" : Str)) = false ∧ x ≠ "__name__" := by
  unfold okG at h
  simp only [Bool.and_eq_true, decide_eq_true_eq, Bool.not_eq_true', decide_eq_false_iff_not] at h
  obtain ⟨⟨h1, h2⟩, h3⟩ := h
  refine ⟨?_, h2, h3⟩
  unfold Gl Env.kindOf
  rw [V.hs]; exact h1
theorem Nm.nodup (V : Nm X N sc raw) : X.N.Nodup := by rw [V.hN]; exact V.nd
end
section
variable {X : Cx} {W : WX} {a b c e : Expr} {es : List Expr} {fa fb fc : M D} {pos : Pos} {N : List Str} {sc raw : Scope}
/-! ### constants -/
def mVar (i : Nat) : M D := fun env => match env[i]? with
  | some (.val d) => .ok d env
  | some (.own none (.lst l)) => .ok (.lst l) (frz1 env i)
  | _ => .stuck
theorem je_var (V : Nm X N sc raw) {i : Nat} {x : Str} (hv : okV N sc i x = true) : JE X W (.Name x pos) (mVar i) := by
  obtain ⟨hN, hv, hd, hcd⟩ := V.v hv
  refine ⟨⟨_, pe_var hN hv hd hcd, fun ps σ Hf H env S Q h => ?_⟩⟩
  unfold mVar at h
  split at h
  · rename_i d q
    obtain ⟨v, h1, h2⟩ := S.val q
    exact ⟨v, h1, h Hf H (Ex.refl Hf) S v h2⟩
  · rename_i l q
    obtain ⟨Hf', ex, S'⟩ := S.frz i
    have hl : i < env.length := (List.getElem?_eq_some_iff.mp q).1
    have q' : (frz1 env i)[i]? = some (.val (.lst l)) := by
      unfold frz1; rw [q]; exact List.getElem?_set_self hl
    obtain ⟨v, h1, h2⟩ := S'.val q'
    exact ⟨v, h1, h Hf' H ex S' v h2⟩
  · exact h.elim
theorem je_c {d : D} {v : V} {t : TE} (h : PE X e (tC v)) (r : ∀ K mg H, Rp K mg H v d) : JE X W e (ret d) :=
  ⟨⟨_, h, fun ps σ Hf H env S Q q => q.ret S v (r _ _ _)⟩⟩
theorem je_int {i : Int} {j : Nat} : JE X W (.Constant (.int i) j pos) (ret (.int i)) := ⟨⟨_, pe_int, fun ps σ Hf H env S Q q => q.ret S _ (.int i)⟩⟩
theorem je_bl {i : Bool} {j : Nat} : JE X W (.Constant (.bool i) j pos) (ret (.bl i)) := ⟨⟨_, pe_bl, fun ps σ Hf H env S Q q => q.ret S _ (.bl i)⟩⟩
theorem je_str {i : Str} {j : Nat} : JE X W (.Constant (.str i) j pos) (ret (.str i)) := ⟨⟨_, pe_str, fun ps σ Hf H env S Q q => q.ret S _ (.str i)⟩⟩
theorem je_non {j : Nat} : JE X W (.Constant .none j pos) (ret .non) := ⟨⟨_, pe_non, fun ps σ Hf H env S Q q => q.ret S _ .non⟩⟩

/-! ### operators -/
/-- a two-place operation's rule is worth g -/
def RJ (X : Cx) (W : WX) (r : R2) (g : D → D → M D) : Prop := ∀ (ps : Fg) (σ : L2.St) (Hf H : Hp) (env : DEnv) (x y : V) (dx dy : D) (Q : VK), SR X.K X.mg ps Hf H σ env → Rp X.K X.mg Hf x dx → Rp X.K X.mg Hf y dy →
  EG X.K X.mg ps W Hf σ (Pd X.K X.mg Q) (g dx dy env) → r x y H Q
def RU1 (X : Cx) (W : WX) (r : V → Hp → VK → Prop) (g : D → M D) : Prop := ∀ (ps : Fg) (σ : L2.St) (Hf H : Hp) (env : DEnv) (x : V) (dx : D) (Q : VK), SR X.K X.mg ps Hf H σ env → Rp X.K X.mg Hf x dx →
  EG X.K X.mg ps W Hf σ (Pd X.K X.mg Q) (g dx env) → r x H Q
def m2 (fa fb : M D) (g : D → D → M D) : M D := bnd fa fun x => bnd fb fun y => g x y
theorem tOp_ok {ta tb : TE} {r : R2} {g : D → D → M D} (ha : ∀ (ps : Fg) (σ : L2.St) (Hf H : Hp) (env : DEnv), SR X.K X.mg ps Hf H σ env → ∀ Q : VK, EG X.K X.mg ps W Hf σ (Pd X.K X.mg Q) (fa env) → ta σ H Q)
    (hb : ∀ (ps : Fg) (σ : L2.St) (Hf H : Hp) (env : DEnv), SR X.K X.mg ps Hf H σ env → ∀ Q : VK, EG X.K X.mg ps W Hf σ (Pd X.K X.mg Q) (fb env) → tb σ H Q) (hr : RJ X W r g)
    {ps : Fg} {σ : L2.St} {Hf H : Hp} {env : DEnv} (S : SR X.K X.mg ps Hf H σ env) {Q : VK} (h : EG X.K X.mg ps W Hf σ (Pd X.K X.mg Q) (m2 fa fb g env)) : tOp r ta tb σ H Q := by
  refine ha ps σ Hf H env S _ (EG.bnd h fun x e1 Hf1 H1 x1 S1 h1 v rv => ?_)
  refine hb ps σ Hf1 H1 e1 S1 _ (EG.bnd h1 fun y e2 Hf2 H2 x2 S2 h2 u ru => ?_)
  exact hr ps σ Hf2 H2 e2 v u x y Q S2 (rv.mono x2) ru h2
theorem je_op {op : Operator} {r : R2} {g : D → D → M D} (ho : OpR X (binaryOp op) r) (hr : RJ X W r g) (ja : JE X W a fa) (jb : JE X W b fb) : JE X W (.BinOp a op b pos) (m2 fa fb g) := by
  obtain ⟨ta, pa, ha⟩ := ja.ex
  obtain ⟨tb, pb, hb⟩ := jb.ex
  exact ⟨⟨_, pe_op ho pa pb, fun ps σ Hf H env S Q h => tOp_ok ha hb hr S h⟩⟩
theorem je_cmp {op : CmpOp} {r : R2} {g : D → D → M D} (ho : OpR X (compareOp op) r) (hr : RJ X W r g) (ja : JE X W a fa) (jb : JE X W b fb) (hm : behindInMarks op b = false := by first | exact nomark _ | rfl) : JE X W (.Compare a [op] [b] pos) (m2 fa fb g) := by
  obtain ⟨ta, pa, ha⟩ := ja.ex
  obtain ⟨tb, pb, hb⟩ := jb.ex
  exact ⟨⟨_, pe_cmpR ho pa pb hm, fun ps σ Hf H env S Q h => tOp_ok ha hb hr S h⟩⟩
theorem je_un {op : UnaryOp} {r : V → Hp → VK → Prop} {g : D → M D} (ho : UnR X (unaryOp op) r) (hr : RU1 X W r g) (ja : JE X W a fa) : JE X W (.UnaryOp op a pos) (bnd fa g) := by
  obtain ⟨ta, pa, ha⟩ := ja.ex
  refine ⟨⟨_, pe_un ho pa, fun ps σ Hf H env S Q h => ?_⟩⟩
  exact ha ps σ Hf H env S _ (EG.bnd h fun x e1 Hf1 H1 x1 S1 h1 v rv => hr ps σ Hf1 H1 e1 v x Q S1 rv h1)

/-- on two whole numbers -/
def g2i (g : Int → Int → M D) : D → D → M D := fun x y => match x, y with
  | .int i, .int j => g i j
  | _, _ => stk
theorem rj_i {r : R2} {g : Int → Int → M D} (h : ∀ (ps : Fg) (σ : L2.St) (Hf H : Hp) (env : DEnv) (i j : Int) (Q : VK), SR X.K X.mg ps Hf H σ env → EG X.K X.mg ps W Hf σ (Pd X.K X.mg Q) (g i j env) → r (.int i) (.int j) H Q) : RJ X W r (g2i g) := by
  intro ps σ Hf H env x y dx dy Q S rx ry q
  unfold g2i at q
  split at q
  · rw [rx.int_inv, ry.int_inv]; exact h ps σ Hf H env _ _ Q S q
  · exact q.elim
instance (i j : Int) : Decidable (IntMulOk i j) := by unfold IntMulOk; infer_instance
def iAdd : Int → Int → M D := fun i j => ret (.int (i + j))
def iSub : Int → Int → M D := fun i j => ret (.int (i - j))
def iMul : Int → Int → M D := fun i j => if IntMulOk i j then ret (.int (i * j)) else stk
def DivOk (j : Int) : Prop := j ≠ 0 ∧ j.natAbs.log2 < 9000
instance (j : Int) : Decidable (DivOk j) := by unfold DivOk; infer_instance
def iDiv : Int → Int → M D := fun i j => if DivOk j then ret (.int (i.fdiv j)) else stk
def iMod : Int → Int → M D := fun i j => if j ≠ 0 then ret (.int (i.fmod j)) else stk
def PowOk (i j : Int) : Prop := 0 ≤ j ∧ j ≤ 1000000 ∧ i.natAbs < 2 ^ 64
instance (i j : Int) : Decidable (PowOk i j) := by unfold PowOk; infer_instance
def iPow : Int → Int → M D := fun i j => if PowOk i j then ret (.int (i ^ j.toNat)) else stk
def iCmp (p : Int → Int → Bool) : Int → Int → M D := fun i j => ret (.bl (p i j))
theorem op_mulX : OpR X (binaryOp .Mult) (rI IntMulOk fun i j => .int (i * j)) := opI fun _ _ _ _ _ _ _ hc q => mul_int q hc
theorem op_fdivX : OpR X (binaryOp .FloorDiv) (rI (fun _ j => DivOk j) fun i j => .int (i.fdiv j)) := opI fun i j _ _ _ _ _ hc q =>
  floordiv_int hc.1 q (.inl (PyProof.noPylong_of_log2 hc.2))
theorem rj_rI0 {g : Int → Int → V} {gd : Int → Int → D} (h : ∀ K mg H i j, Rp K mg H (g i j) (gd i j)) : RJ X W (rI0 g) (g2i fun i j => ret (gd i j)) :=
  rj_i fun ps σ Hf H env i j Q S q => ⟨i, j, rfl, rfl, q.ret S _ (h _ _ _ _ _)⟩
theorem rj_rI {C : Int → Int → Prop} [∀ i j, Decidable (C i j)] {g : Int → Int → V} {gd : Int → Int → D} (h : ∀ K mg H i j, Rp K mg H (g i j) (gd i j)) : RJ X W (rI C g) (g2i fun i j => if C i j then ret (gd i j) else stk) :=
  rj_i fun ps σ Hf H env i j Q S q => by
    split at q
    · rename_i hc; exact ⟨i, j, rfl, rfl, hc, q.ret S _ (h _ _ _ _ _)⟩
    · exact q.elim
theorem je_sub (ja : JE X W a fa) (jb : JE X W b fb) : JE X W (.BinOp a .Sub b pos) (m2 fa fb (g2i iSub)) := je_op op_sub (rj_rI0 fun _ _ _ _ _ => .int _) ja jb
theorem je_fdiv (ja : JE X W a fa) (jb : JE X W b fb) : JE X W (.BinOp a .FloorDiv b pos) (m2 fa fb (g2i iDiv)) := je_op op_fdivX (rj_rI (C := fun _ j => DivOk j) fun _ _ _ _ _ => .int _) ja jb
theorem je_mod (ja : JE X W a fa) (jb : JE X W b fb) : JE X W (.BinOp a .Mod b pos) (m2 fa fb (g2i iMod)) := je_op op_modN (rj_rI (C := fun _ j => j ≠ 0) fun _ _ _ _ _ => .int _) ja jb
theorem je_pow (ja : JE X W a fa) (jb : JE X W b fb) : JE X W (.BinOp a .Pow b pos) (m2 fa fb (g2i iPow)) := je_op op_pow (rj_rI (C := PowOk) fun _ _ _ _ _ => .int _) ja jb
def iShr : Int → Int → M D := fun i j => if 0 ≤ j then ret (.int (i / 2 ^ j.toNat)) else stk
def iShl : Int → Int → M D := fun i j => if PowOk i j then ret (.int (i * 2 ^ j.toNat)) else stk
theorem je_shr (ja : JE X W a fa) (jb : JE X W b fb) : JE X W (.BinOp a .RShift b pos) (m2 fa fb (g2i iShr)) := je_op op_shr (rj_rI (C := fun _ j => 0 ≤ j) fun _ _ _ _ _ => .int _) ja jb
theorem je_shl (ja : JE X W a fa) (jb : JE X W b fb) : JE X W (.BinOp a .LShift b pos) (m2 fa fb (g2i iShl)) := je_op op_shl (rj_rI (C := PowOk) fun _ _ _ _ _ => .int _) ja jb
theorem je_band (ja : JE X W a fa) (jb : JE X W b fb) : JE X W (.BinOp a .BitAnd b pos) (m2 fa fb (g2i fun i j => ret (.int (Builtin.bitAnd i j)))) := je_op op_and (rj_rI0 fun _ _ _ _ _ => .int _) ja jb
theorem je_bor (ja : JE X W a fa) (jb : JE X W b fb) : JE X W (.BinOp a .BitOr b pos) (m2 fa fb (g2i fun i j => ret (.int (Builtin.bitOr i j)))) := je_op op_or (rj_rI0 fun _ _ _ _ _ => .int _) ja jb
theorem je_bxor (ja : JE X W a fa) (jb : JE X W b fb) : JE X W (.BinOp a .BitXor b pos) (m2 fa fb (g2i fun i j => ret (.int (Builtin.bitXor i j)))) := je_op op_xor (rj_rI0 fun _ _ _ _ _ => .int _) ja jb
theorem je_lt (ja : JE X W a fa) (jb : JE X W b fb) : JE X W (.Compare a [.Lt] [b] pos) (m2 fa fb (g2i (iCmp fun i j => decide (i < j)))) := je_cmp op_lt (rj_rI0 fun _ _ _ _ _ => .bl _) ja jb
theorem je_le (ja : JE X W a fa) (jb : JE X W b fb) : JE X W (.Compare a [.LtE] [b] pos) (m2 fa fb (g2i (iCmp fun i j => decide (i ≤ j)))) := je_cmp op_le (rj_rI0 fun _ _ _ _ _ => .bl _) ja jb
theorem je_gt (ja : JE X W a fa) (jb : JE X W b fb) : JE X W (.Compare a [.Gt] [b] pos) (m2 fa fb (g2i (iCmp fun i j => decide (j < i)))) := je_cmp op_gt (rj_rI0 fun _ _ _ _ _ => .bl _) ja jb
theorem je_ge (ja : JE X W a fa) (jb : JE X W b fb) : JE X W (.Compare a [.GtE] [b] pos) (m2 fa fb (g2i (iCmp fun i j => decide (j ≤ i)))) := je_cmp op_ge (rj_rI0 fun _ _ _ _ _ => .bl _) ja jb
/-- == of data -/
def eqOk (x y : D) : Bool := x.py && y.py && shp x && shp y
def mEq (x y : D) : M D := if eqOk x y then ret (.bl (deq x y)) else stk
def mNe (x y : D) : M D := if eqOk x y then ret (.bl (!deq x y)) else stk
theorem eqOk_of {x y : D} (h : eqOk x y = true) : x.py = true ∧ y.py = true ∧ shp x = true ∧ shp y = true := by
  unfold eqOk at h
  simp only [Bool.and_eq_true] at h
  exact ⟨h.1.1.1, h.1.1.2, h.1.2, h.2⟩
theorem rj_eq : RJ X W (rEqD X.K) mEq := by
  intro ps σ Hf H env x y dx dy Q S rx ry q
  unfold mEq at q
  split at q
  · rename_i hc
    obtain ⟨p1, p2, s1, s2⟩ := eqOk_of hc
    exact ⟨_, _, (rx.mono S.ex).dp p1, (ry.mono S.ex).dp p2, s1, s2, q.ret S _ (.bl _)⟩
  · exact q.elim
theorem rj_ne : RJ X W (rNeD X.K) mNe := by
  intro ps σ Hf H env x y dx dy Q S rx ry q
  unfold mNe at q
  split at q
  · rename_i hc
    obtain ⟨p1, p2, s1, s2⟩ := eqOk_of hc
    exact ⟨_, _, (rx.mono S.ex).dp p1, (ry.mono S.ex).dp p2, s1, s2, q.ret S _ (.bl _)⟩
  · exact q.elim
theorem je_eq (C : CtxOk X W) (ja : JE X W a fa) (jb : JE X W b fb) : JE X W (.Compare a [.Eq] [b] pos) (m2 fa fb mEq) := je_cmp (op_eqD C.hu) rj_eq ja jb
theorem je_ne (C : CtxOk X W) (ja : JE X W a fa) (jb : JE X W b fb) : JE X W (.Compare a [.NotEq] [b] pos) (m2 fa fb mNe) := je_cmp (op_neD C.hu) rj_ne ja jb
def isNon : D → Bool | .non => true | _ => false
theorem je_isN {j : Nat} {p2 : Pos} (ja : JE X W a fa) : JE X W (.Compare a [.Is] [.Constant .none j p2] pos) (bnd fa fun x => ret (.bl (isNon x))) := by
  obtain ⟨ta, pa, ha⟩ := ja.ex
  refine ⟨⟨_, pe_cmpR op_isN pa pe_non (nomark _), fun ps σ Hf H env S Q h => ?_⟩⟩
  refine ha ps σ Hf H env S _ (EG.bnd h fun x e1 Hf1 H1 x1 S1 h1 v rv => ⟨rfl, ?_⟩)
  rw [rv.non_iff]
  exact h1.ret S1 _ (by cases x <;> exact .bl _)
theorem je_isNN {j : Nat} {p2 : Pos} (ja : JE X W a fa) : JE X W (.Compare a [.IsNot] [.Constant .none j p2] pos) (bnd fa fun x => ret (.bl (!isNon x))) := by
  obtain ⟨ta, pa, ha⟩ := ja.ex
  refine ⟨⟨_, pe_cmpR op_notN pa pe_non (nomark _), fun ps σ Hf H env S Q h => ?_⟩⟩
  refine ha ps σ Hf H env S _ (EG.bnd h fun x e1 Hf1 H1 x1 S1 h1 v rv => ⟨rfl, ?_⟩)
  rw [rv.non_iff]
  exact h1.ret S1 _ (by cases x <;> exact .bl _)
def u1i (g : Int → M D) : D → M D := fun x => match x with | .int i => g i | _ => stk
theorem je_neg (ja : JE X W a fa) : JE X W (.UnaryOp .USub a pos) (bnd fa (u1i fun i => ret (.int (-i)))) := by
  refine je_un un_neg (fun ps σ Hf H env x dx Q S rx q => ?_) ja
  unfold u1i at q
  split at q
  · rw [rx.int_inv]; exact ⟨_, rfl, q.ret S _ (.int _)⟩
  · exact q.elim

/-! ### tests -/
def mB : D → M Bool := fun x => match x with | .bl b => ret b | _ => stk
theorem jt_val (ja : JE X W a fa) (he : ∀ whole, isTrue a X.env whole = (do let v ← whole; standAt a.pos; holding [v] (truthy v)) := by intro _; rfl) : JT X W a (bnd fa mB) := by
  obtain ⟨ta, pa, ha⟩ := ja.ex
  refine ⟨⟨_, pt_val pa he, fun ps σ Hf H env S Q h => ?_⟩⟩
  refine ha ps σ Hf H env S _ (EG.bnd h fun x e1 Hf1 H1 x1 S1 h1 v rv => ?_)
  unfold mB at h1
  split at h1
  · exact ⟨_, rv.bl_inv, h1.ret S1⟩
  · exact h1.elim
/-- truth of any kind -/
def mTru : D → M Bool := fun x => match x with
  | .bl b => ret b
  | .int i => ret (i != 0)
  | .non => ret false
  | .str s => if s.length ≤ sizeLine then ret ((s.length : Int) != 0) else stk
  | .lst l => ret (!l.isEmpty)
  | .tup l => ret (!l.isEmpty)
  | _ => stk
theorem isEmpty_rps {K : PySem.W.Frag} {mg : MG} {H : Hp} {vs : List V} {ds : List D} (r : Rps K mg H vs ds) : (!vs.isEmpty) = !ds.isEmpty := by
  cases r <;> rfl
theorem jt_tru (ja : JE X W a fa) (he : ∀ whole, isTrue a X.env whole = (do let v ← whole; standAt a.pos; holding [v] (truthy v)) := by intro _; rfl) : JT X W a (bnd fa mTru) := by
  obtain ⟨ta, pa, ha⟩ := ja.ex
  refine ⟨⟨_, pt_truth pa he, fun ps σ Hf H env S Q h => ?_⟩⟩
  refine ha ps σ Hf H env S _ (EG.bnd h fun x e1 Hf1 H1 x1 S1 h1 v rv => ?_)
  cases x with
  | bl b => rw [rv.bl_inv]; exact ⟨b, rfl, h1.ret S1⟩
  | int i => rw [rv.int_inv]; exact ⟨_, rfl, h1.ret S1⟩
  | non => rw [rv.non_inv]; exact ⟨_, rfl, h1.ret S1⟩
  | str s =>
    rw [rv.str_inv]
    unfold mTru at h1
    dsimp only at h1
    split at h1
    · rename_i hs; exact ⟨_, ⟨hs, rfl⟩, h1.ret S1⟩
    · exact h1.elim
  | lst l =>
    cases rv with
    | lst hq r => exact ⟨_, .inl ⟨_, ex_l S1.ex hq, isEmpty_rps r ▸ rfl⟩, (isEmpty_rps r) ▸ h1.ret S1⟩
  | tup l =>
    cases rv with
    | tup hq r => exact ⟨_, .inr (.inl ⟨_, ex_t S1.ex hq, isEmpty_rps r ▸ rfl⟩), (isEmpty_rps r) ▸ h1.ret S1⟩
  | obj c ns vs => exact h1.elim
def bAnd (f g : M Bool) : M Bool := bnd f fun c => if c = true then g else ret false
def bOr (f g : M Bool) : M Bool := bnd f fun c => if c = true then ret true else g
variable {ga gb : M Bool} {rest : List Expr}
theorem JW.jt (j : JW X W a ga) : JT X W a ga := by
  obtain ⟨t, p, h⟩ := j.ex
  exact ⟨⟨t, p.pt, h⟩⟩
theorem jw_and1 (ja : JT X W a ga) : JW X W (.BoolOp .And [a] pos) ga := by
  obtain ⟨t, p, h⟩ := ja.ex
  exact ⟨⟨t, pw_and1 p, h⟩⟩
theorem jw_or1 (ja : JT X W a ga) : JW X W (.BoolOp .Or [a] pos) ga := by
  obtain ⟨t, p, h⟩ := ja.ex
  exact ⟨⟨t, pw_or1 p, h⟩⟩
theorem jw_and (ja : JT X W a ga) (jb : JW X W (.BoolOp .And (b :: rest) pos) gb) : JW X W (.BoolOp .And (a :: b :: rest) pos) (bAnd ga gb) := by
  obtain ⟨t, p, h⟩ := ja.ex
  obtain ⟨u, q, k⟩ := jb.ex
  refine ⟨⟨_, pw_and p q, fun ps σ Hf H env S Q z => ?_⟩⟩
  refine h ps σ Hf H env S _ (EG.bnd z fun x e1 Hf1 H1 x1 S1 h1 => ?_)
  cases x with
  | true => show (if true = true then u σ H1 Q else Q false H1); rw [if_pos rfl]; exact k ps σ Hf1 H1 e1 S1 _ h1
  | false => show (if false = true then u σ H1 Q else Q false H1); rw [if_neg Bool.false_ne_true]; exact EG.ret (W := W) (P := Pb Q) h1 S1
theorem jw_or (ja : JT X W a ga) (jb : JW X W (.BoolOp .Or (b :: rest) pos) gb) : JW X W (.BoolOp .Or (a :: b :: rest) pos) (bOr ga gb) := by
  obtain ⟨t, p, h⟩ := ja.ex
  obtain ⟨u, q, k⟩ := jb.ex
  refine ⟨⟨_, pw_or p q, fun ps σ Hf H env S Q z => ?_⟩⟩
  refine h ps σ Hf H env S _ (EG.bnd z fun x e1 Hf1 H1 x1 S1 h1 => ?_)
  cases x with
  | true => show (if true = true then Q true H1 else u σ H1 Q); rw [if_pos rfl]; exact EG.ret (W := W) (P := Pb Q) h1 S1
  | false => show (if false = true then Q true H1 else u σ H1 Q); rw [if_neg Bool.false_ne_true]; exact k ps σ Hf1 H1 e1 S1 _ h1
def bNot (f : M Bool) : M Bool := bnd f fun c => ret (!c)
theorem jt_not (ja : JT X W a ga) : JT X W (.UnaryOp .Not a pos) (bNot ga) := by
  obtain ⟨t, p, h⟩ := ja.ex
  refine ⟨⟨_, pt_not p, fun ps σ Hf H env S Q z => ?_⟩⟩
  exact h ps σ Hf H env S _ (EG.bnd z fun x e1 Hf1 H1 x1 S1 h1 => EG.ret (W := W) (P := Pb Q) (a := !x) h1 S1)
/-- and, or, not as values: all but the last True or False -/
def vAnd (f g : M D) : M D := bnd f fun x => match x with | .bl c => if c = true then g else ret (.bl false) | _ => stk
def vOr (f g : M D) : M D := bnd f fun x => match x with | .bl c => if c = true then ret (.bl true) else g | _ => stk
def vNot (f : M D) : M D := bnd f fun x => match x with | .bl c => ret (.bl (!c)) | _ => stk
theorem je_one {op : BoolOp} (ja : JE X W a fa) : JE X W (.BoolOp op [a] pos) fa := by
  obtain ⟨t, p, h⟩ := ja.ex
  exact ⟨⟨t, pe_one p, h⟩⟩
theorem je_and (ja : JE X W a fa) (jb : JE X W (.BoolOp .And (b :: rest) pos) fb) : JE X W (.BoolOp .And (a :: b :: rest) pos) (vAnd fa fb) := by
  obtain ⟨t, p, h⟩ := ja.ex
  obtain ⟨u, q, k⟩ := jb.ex
  refine ⟨⟨_, pe_and p q, fun ps σ Hf H env S Q z => ?_⟩⟩
  refine h ps σ Hf H env S _ (EG.bnd z fun x e1 Hf1 H1 x1 S1 h1 v rv => ?_)
  split at h1
  · rename_i c
    refine ⟨c, rv.bl_inv, ?_⟩
    cases c with
    | true => exact iteT (k ps σ Hf1 H1 e1 S1 _ h1)
    | false => exact iteF (EG.ret h1 S1 _ (.bl _))
  · exact h1.elim
theorem je_or (ja : JE X W a fa) (jb : JE X W (.BoolOp .Or (b :: rest) pos) fb) : JE X W (.BoolOp .Or (a :: b :: rest) pos) (vOr fa fb) := by
  obtain ⟨t, p, h⟩ := ja.ex
  obtain ⟨u, q, k⟩ := jb.ex
  refine ⟨⟨_, pe_or p q, fun ps σ Hf H env S Q z => ?_⟩⟩
  refine h ps σ Hf H env S _ (EG.bnd z fun x e1 Hf1 H1 x1 S1 h1 v rv => ?_)
  split at h1
  · rename_i c
    refine ⟨c, rv.bl_inv, ?_⟩
    cases c with
    | true => exact iteT (EG.ret h1 S1 _ (.bl _))
    | false => exact iteF (k ps σ Hf1 H1 e1 S1 _ h1)
  · exact h1.elim
theorem je_not (ja : JE X W a fa) : JE X W (.UnaryOp .Not a pos) (vNot fa) := by
  obtain ⟨t, p, h⟩ := ja.ex
  refine ⟨⟨_, pe_not p, fun ps σ Hf H env S Q z => ?_⟩⟩
  refine h ps σ Hf H env S _ (EG.bnd z fun x e1 Hf1 H1 x1 S1 h1 v rv => ?_)
  split at h1
  · exact ⟨_, rv.bl_inv, EG.ret h1 S1 _ (.bl _)⟩
  · exact h1.elim
def mIf {α : Type} (c : M Bool) (f g : M α) : M α := bnd c fun b => if b = true then f else g
theorem je_if {t : Expr} (jc : JT X W t ga) (ja : JE X W a fa) (jb : JE X W b fb) : JE X W (.IfExp t a b pos) (mIf ga fa fb) := by
  obtain ⟨tc, pc, hc⟩ := jc.ex
  obtain ⟨ta, pa, ha⟩ := ja.ex
  obtain ⟨tb, pb, hb⟩ := jb.ex
  refine ⟨⟨_, pe_ifExp pc pa pb, fun ps σ Hf H env S Q z => ?_⟩⟩
  refine hc ps σ Hf H env S _ (EG.bnd z fun x e1 Hf1 H1 x1 S1 h1 => ?_)
  cases x with
  | true => show (if true = true then ta σ H1 Q else tb σ H1 Q); rw [if_pos rfl]; exact ha ps σ Hf1 H1 e1 S1 _ h1
  | false => show (if false = true then ta σ H1 Q else tb σ H1 Q); rw [if_neg Bool.false_ne_true]; exact hb ps σ Hf1 H1 e1 S1 _ h1

/-! ### arguments, displays -/
def aNil : M (List D) := ret []
def aCons (f : M D) (g : M (List D)) : M (List D) := bnd f fun d => bnd g fun ds => ret (d :: ds)
theorem ja_nil : JA X W [] aNil := ⟨⟨_, pa_nil, fun ps σ Hf H env S Q z => z.ret S [] .nil⟩⟩
theorem ja_cons {g : M (List D)} (je : JE X W e fa) (jr : JA X W es g) (hs : starEach (e :: es) X.env = (false, eval e X.env) :: starEach es X.env := by rfl) : JA X W (e :: es) (aCons fa g) := by
  obtain ⟨t, p, h⟩ := je.ex
  obtain ⟨u, q, k⟩ := jr.ex
  refine ⟨⟨_, pa_cons p q hs, fun ps σ Hf H env S Q z => ?_⟩⟩
  refine h ps σ Hf H env S _ (EG.bnd z fun x e1 Hf1 H1 x1 S1 h1 v rv => ?_)
  refine k ps σ Hf1 H1 e1 S1 _ (EG.bnd h1 fun xs e2 Hf2 H2 x2 S2 h2 vs rvs => ?_)
  exact h2.ret S2 _ (.cons (rv.mono x2) rvs)
def szOk (n : Nat) : Prop := n ≤ sizeLine
instance (n : Nat) : Decidable (szOk n) := by unfold szOk; infer_instance
def mTup (g : M (List D)) : M D := bnd g fun ds => if szOk ds.length then ret (.tup ds) else stk
def mLst (g : M (List D)) : M D := bnd g fun ds => if szOk ds.length then ret (.lst ds) else stk
theorem je_tup {g : M (List D)} {x1 : Nat} (j : JA X W es g) : JE X W (.Tuple es x1 pos) (mTup g) := by
  obtain ⟨t, p, h⟩ := j.ex
  refine ⟨⟨_, pe_tup p, fun ps σ Hf H env S Q z => ?_⟩⟩
  refine h ps σ Hf H env S _ (EG.bnd z fun xs e1 Hf1 H1 x1 S1 h1 vs rvs => ?_)
  split at h1
  · rename_i hz
    refine ⟨by rw [rvs.length]; exact hz, fun p np => ?_⟩
    exact h1 _ _ (Ex.new (fresh_back S1.ex np)) (S1.froze np) _ (.tup (.inl (.inl upd_same)) (rvs.mono (Ex.new (fresh_back S1.ex np))))
  · exact h1.elim
theorem je_lst {g : M (List D)} (j : JA X W es g) : JE X W (.List es pos) (mLst g) := by
  obtain ⟨t, p, h⟩ := j.ex
  refine ⟨⟨_, pe_lst p, fun ps σ Hf H env S Q z => ?_⟩⟩
  refine h ps σ Hf H env S _ (EG.bnd z fun xs e1 Hf1 H1 x1 S1 h1 vs rvs => ?_)
  split at h1
  · rename_i hz
    refine ⟨by rw [rvs.length]; exact hz, fun p np => ?_⟩
    exact h1 _ _ (Ex.new (fresh_back S1.ex np)) (S1.froze np) _ (.lst (.inl (.inl upd_same)) (rvs.mono (Ex.new (fresh_back S1.ex np))))
  · exact h1.elim

/-! ### calls of built-ins -/
def CJ (X : Cx) (W : WX) (r : List V → Hp → VK → Prop) (g : List D → M D) : Prop := ∀ (ps : Fg) (σ : L2.St) (Hf H : Hp) (env : DEnv) (xs : List V) (ds : List D) (Q : VK), SR X.K X.mg ps Hf H σ env → Rps X.K X.mg Hf xs ds →
  EG X.K X.mg ps W Hf σ (Pd X.K X.mg Q) (g ds env) → r xs H Q
theorem je_callB {id : String} {r : List V → Hp → VK → Prop} {g : List D → M D} {x : Str} {p : Pos} {f : M (List D)} (hc : CallR X (.builtin id) r) (hj : CJ X W r g) (V : Nm X N sc raw) (hG : okG sc x = true) (hm : X.mg x = none) (ja : JA X W (e :: es) f) (hv : bootBuiltins x = some (.builtin id) := by decide +kernel)
    (he : starEach (e :: es) X.env = (false, eval e X.env) :: starEach es X.env := by rfl) (hpl : (backTo pos (starEach es X.env)).any (·.1) = false := by rfl) : JE X W (.Call (.Name x p) (e :: es) [] pos) (bnd f g) := by
  obtain ⟨hg, hdb, hn⟩ := V.g hG
  obtain ⟨t, q, h⟩ := ja.ex
  refine ⟨⟨_, pe_callB hc hg hm hv q hn hdb he hpl, fun ps σ Hf H env S Q z => ?_⟩⟩
  exact h ps σ Hf H env S _ (EG.bnd z fun xs e1 Hf1 H1 x1 S1 h1 vs rvs => hj ps σ Hf1 H1 e1 vs xs Q S1 rvs h1)
theorem je_callTy {T : String} {r : List V → Hp → VK → Prop} {g : List D → M D} {x : Str} {p : Pos} {f : M (List D)} (hc : CallR X (.type T) r) (hj : CJ X W r g) (V : Nm X N sc raw) (hG : okG sc x = true) (hm : X.mg x = none) (ja : JA X W (e :: es) f) (hv : bootBuiltins x = some (.type T) := by decide +kernel)
    (he : starEach (e :: es) X.env = (false, eval e X.env) :: starEach es X.env := by rfl) (hpl : (backTo pos (starEach es X.env)).any (·.1) = false := by rfl) : JE X W (.Call (.Name x p) (e :: es) [] pos) (bnd f g) := by
  obtain ⟨hg, hdb, hn⟩ := V.g hG
  obtain ⟨t, q, h⟩ := ja.ex
  refine ⟨⟨_, pe_callTy hc hg hm hv q hn hdb he hpl, fun ps σ Hf H env S Q z => ?_⟩⟩
  exact h ps σ Hf H env S _ (EG.bnd z fun xs e1 Hf1 H1 x1 S1 h1 vs rvs => hj ps σ Hf1 H1 e1 vs xs Q S1 rvs h1)
def c1i (g : Int → M D) : List D → M D := fun ds => match ds with | [.int i] => g i | _ => stk
theorem cj_i {r : List V → Hp → VK → Prop} {g : Int → M D} (h : ∀ (ps : Fg) (σ : L2.St) (Hf H : Hp) (env : DEnv) (i : Int) (Q : VK), SR X.K X.mg ps Hf H σ env → EG X.K X.mg ps W Hf σ (Pd X.K X.mg Q) (g i env) → r [.int i] H Q) : CJ X W r (c1i g) := by
  intro ps σ Hf H env xs ds Q S rx q
  unfold c1i at q
  split at q
  · cases rx with
    | cons r1 r2 => cases r2; rw [r1.int_inv]; exact h ps σ Hf H env _ Q S q
  · exact q.elim
def c2i (g : Int → Int → M D) : List D → M D := fun ds => match ds with | [.int i, .int j] => g i j | _ => stk
theorem cj_i2 {r : List V → Hp → VK → Prop} {g : Int → Int → M D} (h : ∀ (ps : Fg) (σ : L2.St) (Hf H : Hp) (env : DEnv) (i j : Int) (Q : VK), SR X.K X.mg ps Hf H σ env → EG X.K X.mg ps W Hf σ (Pd X.K X.mg Q) (g i j env) → r [.int i, .int j] H Q) : CJ X W r (c2i g) := by
  intro ps σ Hf H env xs ds Q S rx q
  unfold c2i at q
  split at q
  · cases rx with
    | cons r1 r2 => cases r2 with
      | cons r3 r4 => cases r4; rw [r1.int_inv, r3.int_inv]; exact h ps σ Hf H env _ _ Q S q
  · exact q.elim
def iAbs (i : Int) : Int := if i < 0 then -i else i
theorem je_abs {p : Pos} {f : M (List D)} (V : Nm X N sc raw) (hG : okG sc "abs" = true) (hm : X.mg "abs" = none) (ja : JA X W [a] f) (he : starEach [a] X.env = (false, eval a X.env) :: starEach [] X.env := by rfl) : JE X W (.Call (.Name "abs" p) [a] [] pos) (bnd f (c1i fun i => ret (.int (iAbs i)))) :=
  je_callB call_abs (cj_i fun ps σ Hf H env i Q S q => ⟨i, rfl, q.ret S _ (.int _)⟩) V hG hm ja (by decide +kernel) he
theorem je_max2 {p : Pos} {f : M (List D)} (C : CtxOk X W) (V : Nm X N sc raw) (hG : okG sc "max" = true) (hm : X.mg "max" = none) (ja : JA X W [a, b] f) (he : starEach [a, b] X.env = (false, eval a X.env) :: starEach [b] X.env := by rfl) (hpl : (backTo pos (starEach [b] X.env)).any (·.1) = false := by rfl) :
    JE X W (.Call (.Name "max" p) [a, b] [] pos) (bnd f (c2i fun i j => ret (.int (if j > i then j else i)))) :=
  je_callB (call_max2 C.calm) (cj_i2 fun ps σ Hf H env i j Q S q => ⟨i, j, rfl, q.ret S _ (.int _)⟩) V hG hm ja (by decide +kernel) he hpl
theorem je_min2 {p : Pos} {f : M (List D)} (C : CtxOk X W) (V : Nm X N sc raw) (hG : okG sc "min" = true) (hm : X.mg "min" = none) (ja : JA X W [a, b] f) (he : starEach [a, b] X.env = (false, eval a X.env) :: starEach [b] X.env := by rfl) (hpl : (backTo pos (starEach [b] X.env)).any (·.1) = false := by rfl) :
    JE X W (.Call (.Name "min" p) [a, b] [] pos) (bnd f (c2i fun i j => ret (.int (if j < i then j else i)))) :=
  je_callB (call_min2 C.calm) (cj_i2 fun ps σ Hf H env i j Q S q => ⟨i, j, rfl, q.ret S _ (.int _)⟩) V hG hm ja (by decide +kernel) he hpl
/-- int(n), int(flag) -/
def cInt : List D → M D := fun ds => match ds with | [.int i] => ret (.int i) | [.bl k] => ret (.int (if k then 1 else 0)) | _ => stk
theorem je_intC {p : Pos} {f : M (List D)} (V : Nm X N sc raw) (hG : okG sc "int" = true) (hm : X.mg "int" = none) (ja : JA X W [a] f) (he : starEach [a] X.env = (false, eval a X.env) :: starEach [] X.env := by rfl) : JE X W (.Call (.Name "int" p) [a] [] pos) (bnd f cInt) := by
  refine je_callTy call_int1 (fun ps σ Hf H env xs ds Q S rx q => ?_) V hG hm ja (by decide +kernel) he
  unfold cInt at q
  split at q
  · cases rx with
    | cons r1 r2 => cases r2; rw [r1.int_inv]; exact .inl ⟨_, rfl, q.ret S _ (.int _)⟩
  · cases rx with
    | cons r1 r2 => cases r2; rw [r1.bl_inv]; exact .inr ⟨_, rfl, q.ret S _ (.int _)⟩
  · exact q.elim
/-- len of text, list, tuple -/
def cLen : List D → M D := fun ds => match ds with | [.lst l] => ret (.int l.length) | [.tup l] => ret (.int l.length) | [.str s] => if s.length ≤ sizeLine then ret (.int s.length) else stk | _ => stk
theorem je_len {p : Pos} {f : M (List D)} (V : Nm X N sc raw) (hG : okG sc "len" = true) (hm : X.mg "len" = none) (ja : JA X W [a] f) (he : starEach [a] X.env = (false, eval a X.env) :: starEach [] X.env := by rfl) : JE X W (.Call (.Name "len" p) [a] [] pos) (bnd f cLen) := by
  refine je_callB (call_len_seq.or call_len_str) (fun ps σ Hf H env xs ds Q S rx q => ?_) V hG hm ja (by decide +kernel) he
  unfold cLen at q
  split at q
  · cases rx with
    | cons r1 r2 => cases r2; cases r1 with
      | lst hq r => exact .inl ⟨_, _, rfl, .inl (ex_l S.ex hq), by rw [r.length]; exact q.ret S _ (.int _)⟩
  · cases rx with
    | cons r1 r2 => cases r2; cases r1 with
      | tup hq r => exact .inl ⟨_, _, rfl, .inr (ex_t S.ex hq), by rw [r.length]; exact q.ret S _ (.int _)⟩
  · cases rx with
    | cons r1 r2 =>
      cases r2; rw [r1.str_inv]
      split at q
      · rename_i hz; exact .inr ⟨_, rfl, hz, q.ret S _ (.int _)⟩
      · exact q.elim
  · exact q.elim
/-- isinstance(x, T) for a built-in T -/
def tyD : D → String
  | .non => "NoneType" | .bl _ => "bool" | .int _ => "int" | .str _ => "str" | .tup _ => "tuple" | .lst _ => "list" | .obj _ _ _ => "object"
def cIsi (T : String) : List D → M D := fun ds => match ds with
  | [.obj _ _ _] => stk
  | [d] => match kitB (tyD d) T with | some b => ret (.bl b) | none => stk
  | _ => stk
end
end DL

/-! DLc: statements, targets, loops, raise, defs and their calls. -/
namespace DL
open PySem PySem.Spec PyProof.Rows L2 Evl

inductive Fl where
  | nx | rt (d : D) | bk | ct
section
variable (K : PySem.W.Frag) (mg : MG) (ps : Fg) (W : WX)
def FP (De : Ends) : Fl → Hp → L2.St → Hp → Prop
  | .nx, _, σ, H => De.nx σ H
  | .rt d, Hf, _, H => ∀ v, Rp K mg Hf v d → De.rt v H
  | .bk, _, σ, H => De.bk σ H
  | .ct, _, σ, H => De.ct σ H
def SG (De : Ends) (Hf : Hp) : Res Fl → Prop
  | .ok fl e' => ∀ σ' Hf' H', Ex Hf Hf' → SR K mg ps Hf' H' σ' e' → FP K mg De fl Hf' σ' H'
  | .exc x p e' => ∀ cls dd σ' Hf' H', Ex Hf Hf' → SR K mg ps Hf' H' σ' e' → IsExc K mg Hf' x p cls dd → W cls dd σ' H'
  | .stuck => False
def UG (Q : L2.St → Hp → Prop) (Hf : Hp) : Res Unit → Prop
  | .ok _ e' => ∀ σ' Hf' H', Ex Hf Hf' → SR K mg ps Hf' H' σ' e' → Q σ' H'
  | .exc x p e' => ∀ cls dd σ' Hf' H', Ex Hf Hf' → SR K mg ps Hf' H' σ' e' → IsExc K mg Hf' x p cls dd → W cls dd σ' H'
  | .stuck => False
end
section
variable {K : PySem.W.Frag} {mg : MG} {ps : Fg} {W : WX} {Hf Hf' H H' : Hp} {σ : L2.St} {α β : Type} {e : DEnv} {De De' : Ends} {Q : L2.St → Hp → Prop}
theorem SG.mono (x : Ex Hf Hf') : ∀ {r : Res Fl}, SG K mg ps W De Hf r → SG K mg ps W De Hf' r
  | .ok _ _, h => fun σ' Hf2 H2 y s => h σ' Hf2 H2 (x.trans y) s
  | .exc _ _ _, h => fun c d σ' Hf2 H2 y s z => h c d σ' Hf2 H2 (x.trans y) s z
  | .stuck, h => h
theorem UG.mono (x : Ex Hf Hf') : ∀ {r : Res Unit}, UG K mg ps W Q Hf r → UG K mg ps W Q Hf' r
  | .ok _ _, h => fun σ' Hf2 H2 y s => h σ' Hf2 H2 (x.trans y) s
  | .exc _ _ _, h => fun c d σ' Hf2 H2 y s z => h c d σ' Hf2 H2 (x.trans y) s z
  | .stuck, h => h
theorem SG.bnd {P1 : α → Hp → Hp → Prop} {m : M α} {f : α → M Fl} (h : SG K mg ps W De Hf (DL.bnd m f e))
    (hk : ∀ a e' Hf' H', Ex Hf Hf' → SR K mg ps Hf' H' σ e' → SG K mg ps W De Hf' (f a e') → P1 a Hf' H') : EG K mg ps W Hf σ P1 (m e) := by
  unfold DL.bnd at h
  cases q : m e with
  | ok a e' => rw [q] at h; exact fun Hf2 H2 y s => hk a e' Hf2 H2 y s (SG.mono y h)
  | exc x p e' => rw [q] at h; exact fun c d Hf2 H2 y s z => h c d σ Hf2 H2 y s z
  | stuck => rw [q] at h; exact h
theorem SG.ubnd {m : M Unit} {f : Unit → M Fl} (h : SG K mg ps W De Hf (DL.bnd m f e))
    (hk : ∀ e' σ' Hf' H', Ex Hf Hf' → SR K mg ps Hf' H' σ' e' → SG K mg ps W De Hf' (f () e') → Q σ' H') : UG K mg ps W Q Hf (m e) := by
  unfold DL.bnd at h
  cases q : m e with
  | ok a e' => rw [q] at h; exact fun σ2 Hf2 H2 y s => hk e' σ2 Hf2 H2 y s (SG.mono y h)
  | exc x p e' => rw [q] at h; exact h
  | stuck => rw [q] at h; exact h
theorem UG.bnd {P1 : α → Hp → Hp → Prop} {m : M α} {f : α → M Unit} (h : UG K mg ps W Q Hf (DL.bnd m f e))
    (hk : ∀ a e' Hf' H', Ex Hf Hf' → SR K mg ps Hf' H' σ e' → UG K mg ps W Q Hf' (f a e') → P1 a Hf' H') : EG K mg ps W Hf σ P1 (m e) := by
  unfold DL.bnd at h
  cases q : m e with
  | ok a e' => rw [q] at h; exact fun Hf2 H2 y s => hk a e' Hf2 H2 y s (UG.mono y h)
  | exc x p e' => rw [q] at h; exact fun c d Hf2 H2 y s z => h c d σ Hf2 H2 y s z
  | stuck => rw [q] at h; exact h
theorem UG.ubnd {Q' : L2.St → Hp → Prop} {m : M Unit} {f : Unit → M Unit} (h : UG K mg ps W Q Hf (DL.bnd m f e))
    (hk : ∀ e' σ' Hf' H', Ex Hf Hf' → SR K mg ps Hf' H' σ' e' → UG K mg ps W Q Hf' (f () e') → Q' σ' H') : UG K mg ps W Q' Hf (m e) := by
  unfold DL.bnd at h
  cases q : m e with
  | ok a e' => rw [q] at h; exact fun σ2 Hf2 H2 y s => hk e' σ2 Hf2 H2 y s (UG.mono y h)
  | exc x p e' => rw [q] at h; exact h
  | stuck => rw [q] at h; exact h
theorem UG.ret {e : DEnv} (h : UG K mg ps W Q Hf (ret () e)) (S : SR K mg ps Hf H σ e) : Q σ H := h σ Hf H (Ex.refl Hf) S
theorem SG.ret {e : DEnv} {fl : Fl} (h : SG K mg ps W De Hf (ret fl e)) (S : SR K mg ps Hf H σ e) : FP K mg De fl Hf σ H := h σ Hf H (Ex.refl Hf) S
end
section
variable (X : Cx) (W : WX)
structure JS (s : Stmt) (f : M Fl) : Prop where
  ex : ∃ t, PS X s t ∧ ∀ (ps : Fg) (σ : L2.St) (Hf H : Hp) (env : DEnv), SR X.K X.mg ps Hf H σ env → ∀ De : Ends, SG X.K X.mg ps W De Hf (f env) → t De σ H
structure JSs (s : List Stmt) (f : M Fl) : Prop where
  ex : ∃ t, PSs X s t ∧ ∀ (ps : Fg) (σ : L2.St) (Hf H : Hp) (env : DEnv), SR X.K X.mg ps Hf H σ env → ∀ De : Ends, SG X.K X.mg ps W De Hf (f env) → t De σ H
structure JG (tg : Expr) (g : D → M Unit) : Prop where
  ex : ∃ t, PG X tg t ∧ ∀ (ps : Fg) (σ : L2.St) (Hf H : Hp) (env : DEnv) (v : V) (d : D), SR X.K X.mg ps Hf H σ env → Rp X.K X.mg Hf v d → ∀ Q : L2.St → Hp → Prop, UG X.K X.mg ps W Q Hf (g d env) → t v σ H Q
structure JGs (tgs : List Expr) (g : List D → M Unit) : Prop where
  ex : ∃ t, PGs X tgs t ∧ ∀ (ps : Fg) (σ : L2.St) (Hf H : Hp) (env : DEnv) (v : List V) (d : List D), SR X.K X.mg ps Hf H σ env → Rps X.K X.mg Hf v d → ∀ Q : L2.St → Hp → Prop, UG X.K X.mg ps W Q Hf (g d env) → t v σ H Q
end
section
variable {X : Cx} {W : WX} {a b c e : Expr} {es : List Expr} {fa fb fc : M D} {pos : Pos} {s : Stmt} {ss : List Stmt} {f g : M Fl} {ga : M Bool} {N : List Str} {sc raw : Scope}
/-! ### blocks -/
def nx : M Fl := ret .nx
def sq (f g : M Fl) : M Fl := fun env => match f env with | .ok .nx e' => g e' | r => r
theorem jss_nil : JSs X W [] nx := ⟨⟨_, pss_nil, fun ps σ Hf H env S De h => h.ret S⟩⟩
theorem sq_ok {t u : TS} (ht : ∀ (ps : Fg) (σ : L2.St) (Hf H : Hp) (env : DEnv), SR X.K X.mg ps Hf H σ env → ∀ De : Ends, SG X.K X.mg ps W De Hf (f env) → t De σ H)
    (hu : ∀ (ps : Fg) (σ : L2.St) (Hf H : Hp) (env : DEnv), SR X.K X.mg ps Hf H σ env → ∀ De : Ends, SG X.K X.mg ps W De Hf (g env) → u De σ H)
    {ps : Fg} {σ : L2.St} {Hf H : Hp} {env : DEnv} (S : SR X.K X.mg ps Hf H σ env) {De : Ends} (h : SG X.K X.mg ps W De Hf (sq f g env)) : tSeq t u De σ H := by
  refine ht ps σ Hf H env S _ ?_
  unfold sq at h
  cases q : f env with
  | ok fl e' =>
    rw [q] at h
    cases fl with
    | nx => exact fun σ' Hf' H' x S' => hu ps σ' Hf' H' e' S' De (SG.mono x h)
    | rt d => exact h
    | bk => exact h
    | ct => exact h
  | exc x p e' => rw [q] at h; exact h
  | stuck => rw [q] at h; exact h
theorem jss_cons (j : JS X W s f) (k : JSs X W ss g) : JSs X W (s :: ss) (sq f g) := by
  obtain ⟨t, p, h⟩ := j.ex
  obtain ⟨u, q, r⟩ := k.ex
  exact ⟨⟨_, pss_cons p q, fun ps σ Hf H env S De z => sq_ok h r S z⟩⟩
theorem jss_one (j : JS X W s f) : JSs X W [s] f := by
  obtain ⟨t, p, h⟩ := j.ex
  exact ⟨⟨_, pss_one p, h⟩⟩
theorem js_pass : JS X W (.Pass pos) nx := ⟨⟨_, ps_pass, fun ps σ Hf H env S De h => h.ret S⟩⟩
theorem js_break : JS X W (.Break pos) (ret .bk) := ⟨⟨_, ps_break, fun ps σ Hf H env S De h => h.ret S⟩⟩
theorem js_continue : JS X W (.Continue pos) (ret .ct) := ⟨⟨_, ps_continue, fun ps σ Hf H env S De h => h.ret S⟩⟩
theorem js_doc {x : Str} {j : Nat} {pos' : Pos} : JS X W (.Expr (.Constant (.str x) j pos) pos') nx := ⟨⟨_, ps_doc, fun ps σ Hf H env S De h => h.ret S⟩⟩
/-! ### simple statements -/
def mAsg (i : Nat) (f : M D) : M Fl := bnd f fun d env => .ok .nx (env.set i (.val d))
theorem js_asg (V : Nm X N sc raw) {i : Nat} {x : Str} {pos' : Pos} (hS : okS N sc raw i x = true) (j : JE X W e fa)
    (hs : swapsWith e (some (.Name x pos')) pos.line X.env = pure false := by rfl) : JS X W (.Assign [.Name x pos'] e pos) (mAsg i fa) := by
  obtain ⟨hi, hx, hf⟩ := V.s hS
  have hN := V.nodup
  obtain ⟨t, p, h⟩ := j.ex
  refine ⟨⟨_, ps_set (i := i) hN hi hx p hs hf, fun ps σ Hf H env S De z => ?_⟩⟩
  exact h ps σ Hf H env S _ (SG.bnd z fun d e' Hf' H' x S' h1 v r => h1 _ Hf' H' (Ex.refl _) (S'.put i r))
def mRet (f : M D) : M Fl := bnd f fun d => ret (.rt d)
theorem js_ret (j : JE X W e fa) : JS X W (.Return (some e) pos) (mRet fa) := by
  obtain ⟨t, p, h⟩ := j.ex
  refine ⟨⟨_, ps_ret p, fun ps σ Hf H env S De z => ?_⟩⟩
  exact h ps σ Hf H env S _ (SG.bnd z fun d e' Hf' H' x S' h1 v r => h1.ret S' v r)
theorem js_retN : JS X W (.Return none pos) (ret (.rt .non)) := ⟨⟨_, ps_retN, fun ps σ Hf H env S De h => h.ret S _ .non⟩⟩
def mDrop (f : M D) : M Fl := bnd f fun _ => nx
theorem js_expr (j : JE X W e fa) (hs : swapsWith e none pos.line X.env = pure false := by rfl) : JS X W (.Expr e pos) (mDrop fa) := by
  obtain ⟨t, p, h⟩ := j.ex
  refine ⟨⟨_, ps_expr p hs, fun ps σ Hf H env S De z => ?_⟩⟩
  exact h ps σ Hf H env S _ (SG.bnd z fun d e' Hf' H' x S' h1 v r => h1.ret S')
theorem js_if {A B : List Stmt} (jc : JT X W c ga) (ja : JSs X W A f) (jb : JSs X W B g) : JS X W (.If c A B pos) (mIf ga f g) := by
  obtain ⟨tc, pc, hc⟩ := jc.ex
  obtain ⟨t, p, h⟩ := ja.ex
  obtain ⟨u, q, r⟩ := jb.ex
  refine ⟨⟨_, ps_if pc p q, fun ps σ Hf H env S De z => ?_⟩⟩
  refine hc ps σ Hf H env S _ (SG.bnd z fun c0 e' Hf' H' x S' h1 => ?_)
  cases c0 with
  | true => show (if true = true then t De σ H' else u De σ H'); rw [if_pos rfl]; exact h ps σ Hf' H' e' S' De h1
  | false => show (if false = true then t De σ H' else u De σ H'); rw [if_neg Bool.false_ne_true]; exact r ps σ Hf' H' e' S' De h1
/-- x += e, whole numbers -/
def mAug (i : Nat) (f : M D) (g : Int → Int → D) : M Fl := fun env => match env[i]? with
  | some (.val (.int a)) => bnd f (fun d env' => match d with | .int b => .ok .nx (env'.set i (.val (g a b))) | _ => .stuck) env
  | _ => .stuck
theorem js_add (V : Nm X N sc raw) {i : Nat} {x : Str} {pos' : Pos} (hS : okS N sc raw i x = true) (j : JE X W e fa) : JS X W (.AugAssign (.Name x pos') .Add e pos) (mAug i fa fun a b => .int (a + b)) := by
  obtain ⟨hi, hx, hf⟩ := V.s hS
  have hN := V.nodup
  obtain ⟨t, p, h⟩ := j.ex
  refine ⟨⟨_, ps_aug (i := i) hN hi hx p ip_add hf, fun ps σ Hf H env S De z => ?_⟩⟩
  unfold mAug at z
  split at z
  · rename_i k q
    obtain ⟨v, h1, h2⟩ := S.val q
    refine ⟨v, h1, h ps σ Hf H env S _ (SG.bnd z fun d e' Hf' H' x S' z1 v2 r => ?_)⟩
    split at z1
    · rw [h2.int_inv, r.int_inv]
      exact ⟨_, _, rfl, rfl, z1 _ Hf' H' (Ex.refl _) (S'.put i (.int _))⟩
    · exact z1.elim
  · exact z.elim

/-! ### targets -/
def gN (i : Nat) : D → M Unit := fun d env => .ok () (env.set i (.val d))
theorem jg_name (V : Nm X N sc raw) {i : Nat} {x : Str} (hS : okS N sc raw i x = true) : JG X W (.Name x pos) (gN i) :=
  ⟨⟨_, pg_name (i := i) V.nodup (V.s hS).1 (V.s hS).2.1 (V.s hS).2.2, fun ps σ Hf H env v d S r Q z => z _ Hf H (Ex.refl _) (S.put i r)⟩⟩
def gsNil : List D → M Unit := fun ds => match ds with | [] => ret () | _ => stk
def gsCons (g : D → M Unit) (gs : List D → M Unit) : List D → M Unit := fun ds => match ds with | d :: r => bnd (g d) fun _ => gs r | [] => stk
theorem jgs_nil : JGs X W [] gsNil := ⟨⟨_, pgs_nil, fun ps σ Hf H env v d S r Q z => by
  cases r with
  | nil => exact ⟨rfl, z.ret S⟩
  | cons _ _ => exact z.elim⟩⟩
theorem jgs_cons {g1 : D → M Unit} {gs : List D → M Unit} (j : JG X W e g1) (k : JGs X W es gs) (hs : (assignEach (e :: es) X.env).map (·.2) = assign e X.env :: (assignEach es X.env).map (·.2) := by rfl) : JGs X W (e :: es) (gsCons g1 gs) := by
  obtain ⟨t, p, h⟩ := j.ex
  obtain ⟨u, q, hu⟩ := k.ex
  refine ⟨⟨_, pgs_cons p q hs, fun ps σ Hf H env v d S r Q z => ?_⟩⟩
  cases r with
  | nil => exact z.elim
  | cons r1 r2 => exact ⟨_, _, rfl, h ps σ Hf H env _ _ S r1 _ (UG.ubnd z fun e' σ' Hf' H' x S' z1 => hu ps σ' Hf' H' e' _ _ S' (r2.mono x) Q z1)⟩
def gTp (n : Nat) (gs : List D → M Unit) : D → M Unit := fun d => match d with
  | .tup ds => if ds.length = n then gs ds else stk
  | .lst ds => if ds.length = n then gs ds else stk
  | _ => stk
theorem pg_or {tg : Expr} {t u : TG} (h : PG X tg t) (k : PG X tg u) : PG X tg (fun v σ H Q => t v σ H Q ∨ u v σ H Q) :=
  ⟨fun pins s σ H v w Q I r z => z.elim (h.run pins s σ H v w Q I r) (k.run pins s σ H v w Q I r)⟩
theorem jg_tup {gs : List D → M Unit} {k n : Nat} (C : CtxOk X W) (j : JGs X W es gs) (hn : (assignEach es X.env).length = n := by rfl) (hst : (assignEach es X.env).findIdx? (·.1) = none := by rfl) : JG X W (.Tuple es k pos) (gTp n gs) := by
  obtain ⟨t, p, h⟩ := j.ex
  refine ⟨⟨_, pg_or (pg_tup C.calm p hn hst) (pg_lst C.calm p hn hst), fun ps σ Hf H env v d S r Q z => ?_⟩⟩
  unfold gTp at z
  split at z
  · split at z
    · rename_i hl
      cases r with
      | tup hq rr => exact .inl ⟨_, _, rfl, ex_t S.ex hq, by rw [rr.length]; exact hl, h ps σ Hf H env _ _ S rr Q z⟩
    · exact z.elim
  · split at z
    · rename_i hl
      cases r with
      | lst hq rr => exact .inr ⟨_, _, rfl, ex_l S.ex hq, by rw [rr.length]; exact hl, h ps σ Hf H env _ _ S rr Q z⟩
    · exact z.elim
  · exact z.elim
def mAsgT (f : M D) (g : D → M Unit) : M Fl := bnd f fun d => bnd (g d) fun _ => nx
theorem js_asgT {tg : Expr} {g1 : D → M Unit} (j : JE X W e fa) (k : JG X W tg g1) (hs : swapsWithSole [tg] e pos.line X.env = pure false := by rfl) (hw : swappedStores [tg] e X.env = pure none := by rfl) (h1 : (assignEach [tg] X.env).map (·.2) = [assign tg X.env] := by rfl) : JS X W (.Assign [tg] e pos) (mAsgT fa g1) := by
  obtain ⟨t, p, h⟩ := j.ex
  obtain ⟨u, q, hu⟩ := k.ex
  refine ⟨⟨_, ps_asg p q hs hw h1, fun ps σ Hf H env S De z => ?_⟩⟩
  refine h ps σ Hf H env S _ (SG.bnd z fun d e' Hf' H' x S' h1 v r => ?_)
  exact hu ps σ Hf' H' e' v d S' r _ (SG.ubnd h1 fun e2 σ2 Hf2 H2 x2 S2 z2 => z2.ret S2)
/-- a, b = e1, e2 -/
def mPar (i j : Nat) (f : M (List D)) : M Fl := bnd f fun ds env => match ds with | [d, d'] => .ok .nx ((env.set i (.val d)).set j (.val d')) | _ => .stuck
/-- two local names, one line, the values no constants alone -/
def okP (sc : Scope) (x y : Str) (px py : Pos) (a b : Expr) : Bool := decide (sc.names.lookup x = some .local) && decide (sc.names.lookup y = some .local) && !(x == y) && (px.line == py.line) && !([a, b].all (foldedForSure 8)) && !([a, b].all (constantsAlone 8)) &&
  !([a, b].any fun | .Starred .. => true | _ => false)
theorem sw_par {x y : Str} {px py pt pt2 : Pos} {kt k2 : Nat} (V : Nm X N sc raw) (h : okP sc x y px py a b = true) : swappedStores [.Tuple [.Name x px, .Name y py] kt pt] (.Tuple [a, b] k2 pt2) X.env = pure (some [x, y]) := by
  unfold okP at h
  simp only [Bool.and_eq_true, decide_eq_true_eq, Bool.not_eq_true'] at h
  obtain ⟨⟨⟨⟨⟨⟨h1, h2⟩, h3⟩, h4⟩, h5⟩, h6⟩, h7⟩ := h
  have e1 : X.env.kindOf x = some .local := by unfold Env.kindOf; rw [V.hs]; exact h1
  have e2 : X.env.kindOf y = some .local := by unfold Env.kindOf; rw [V.hs]; exact h2
  have e3 : X.env.blockKind = .function := by unfold Env.blockKind; rw [V.hs, V.kind]; rfl
  have h3' : (y == x) = false := by
    cases q : (y == x) with
    | false => rfl
    | true => rw [beq_iff_eq] at q; subst q; simp at h3
  have h4' : (py.line == px.line) = true := by rw [beq_iff_eq] at h4 ⊢; exact h4.symm
  unfold swappedStores
  simp only [e3, h5, h6, h7, List.filterMap_cons, List.filterMap_nil, e1, e2, List.length_cons, List.length_nil, List.head?_cons, Option.map_some, Option.getD_some, Expr.pos, h4', beq_self_eq_true, Bool.and_self, if_true, List.eraseDups_cons, List.eraseDups_nil, List.filter_cons, List.filter_nil, h3', Bool.not_false]
  rw [if_neg (by decide)]
  refine (if_neg fun z => ?_).trans rfl
  exact Bool.false_ne_true (h7.symm.trans z)
theorem js_par {i j : Nat} {x y : Str} {px py pt pt2 : Pos} {kt k2 : Nat} {f : M (List D)} (C : CtxOk X W) (V : Nm X N sc raw) (hi : okS N sc raw i x = true) (hj : okS N sc raw j y = true) (hP : okP sc x y px py a b = true) (ja : JA X W [a, b] f)  (hij : i ≠ j := by decide)
    (hs : swapsWithSole [.Tuple [.Name x px, .Name y py] kt pt] (.Tuple [a, b] k2 pt2) pos.line X.env = pure false := by rfl) :
    JS X W (.Assign [.Tuple [.Name x px, .Name y py] kt pt] (.Tuple [a, b] k2 pt2) pos) (mPar i j f) := by
  have hw := sw_par (pt := pt) (pt2 := pt2) (kt := kt) (k2 := k2) V hP
  have hN := V.nodup
  have hi := (V.s hi).1
  have hj := (V.s hj).1
  unfold okP at hP
  simp only [Bool.and_eq_true, decide_eq_true_eq] at hP
  have hx : X.env.scope.names.lookup x = some .local := by rw [V.hs]; exact hP.1.1.1.1.1.1
  have hy : X.env.scope.names.lookup y = some .local := by rw [V.hs]; exact hP.1.1.1.1.1.2
  obtain ⟨t, p, h⟩ := ja.ex
  refine ⟨⟨_, ps_par C.calm hN hi hj hij hx hy p hw hs, fun ps σ Hf H env S De z => ?_⟩⟩
  refine h ps σ Hf H env S _ (SG.bnd z fun ds e' Hf' H' x S' h1 vs r => ?_)
  split at h1
  · cases r with
    | cons r1 r2 => cases r2 with
      | cons r3 r4 => cases r4; exact ⟨_, _, rfl, h1 _ Hf' H' (Ex.refl _) ((S'.put i r1).put j r3)⟩
  · exact h1.elim

/-! ### while -/
/-- one more turn behind a body -/
def again (b : M Fl) (k : M Fl) : M Fl := fun env => match b env with
  | .ok .nx e' => k e' | .ok .ct e' => k e' | .ok .bk e' => .ok .nx e' | r => r
def whN (c : M Bool) (b : M Fl) : Nat → M Fl
  | 0 => stk
  | n + 1 => mIf c (again b (whN c b n)) nx
theorem again_lift {b k k' : M Fl} {env : DEnv} {r : Res Fl} (h : again b k env = r) (hr : r ≠ .stuck) (hk : ∀ e' r, k e' = r → r ≠ .stuck → k' e' = r) : again b k' env = r := by
  unfold again at h ⊢
  cases q : b env with
  | ok fl e' =>
    rw [q] at h
    cases fl with
    | nx => exact hk _ _ h hr
    | ct => exact hk _ _ h hr
    | bk => exact h
    | rt d => exact h
  | exc x p e' => rw [q] at h; exact h
  | stuck => rw [q] at h; exact h
theorem whN_succ {c : M Bool} {b : M Fl} : ∀ {n : Nat} {env : DEnv} {r : Res Fl}, whN c b n env = r → r ≠ .stuck → whN c b (n + 1) env = r
  | 0, env, r, h, hr => absurd h.symm hr
  | n + 1, env, r, h, hr => by
    unfold whN mIf bnd at h ⊢
    cases q : c env with
    | ok t e' =>
      rw [q] at h
      cases t with
      | true => exact again_lift h hr fun e' r h hr => whN_succ h hr
      | false => exact h
    | exc x p e' => rw [q] at h; exact h
    | stuck => rw [q] at h; exact h
theorem whN_le {c : M Bool} {b : M Fl} {n m : Nat} {env : DEnv} {r : Res Fl} (h : whN c b n env = r) (hr : r ≠ .stuck) (hm : n ≤ m) : whN c b m env = r := by
  induction hm with
  | refl => exact h
  | step _ ih => exact whN_succ ih hr
open Classical in
noncomputable def mWh (c : M Bool) (b : M Fl) : M Fl := fun env => if h : ∃ n, whN c b n env ≠ .stuck then whN c b (choose h) env else .stuck
theorem mWh_of {c : M Bool} {b : M Fl} {n : Nat} {env : DEnv} {r : Res Fl} (h : whN c b n env = r) (hr : r ≠ .stuck) : mWh c b env = r := by
  have hx : ∃ n, whN c b n env ≠ .stuck := ⟨n, by rw [h]; exact hr⟩
  unfold mWh
  rw [dif_pos hx]
  have hc := Classical.choose_spec hx
  rcases Nat.le_total n (Classical.choose hx) with hle | hle
  · exact whN_le h hr hle
  · have := whN_le (rfl : whN c b (Classical.choose hx) env = _) hc hle
    rw [h] at this; exact this.symm
theorem mWh_ex {c : M Bool} {b : M Fl} {env : DEnv} (h : mWh c b env ≠ .stuck) : ∃ n, whN c b n env = mWh c b env := by
  unfold mWh at h ⊢
  split
  · rename_i hx; exact ⟨_, rfl⟩
  · rename_i hx; rw [dif_neg hx] at h; exact absurd rfl h
theorem SG.ns {K : PySem.W.Frag} {mg : MG} {ps : Fg} {W : WX} {Hf : Hp} {De : Ends} {r : Res Fl} (h : SG K mg ps W De Hf r) : r ≠ .stuck := fun z => by subst z; exact h
theorem js_while {B : List Stmt} (C : CtxOk X W) (jc : JT X W c ga) (jb : JSs X W B f) : JS X W (.While c B [] pos) (mWh ga f) := by
  obtain ⟨tc, pc, hc⟩ := jc.ex
  obtain ⟨t, p, h⟩ := jb.ex
  refine ⟨⟨_, ps_while C.po pc p, fun ps σ Hf H env S De z => ?_⟩⟩
  obtain ⟨n, hn⟩ := mWh_ex z.ns
  rw [← hn] at z
  refine ⟨fun m σ H => ∃ env Hf, SR X.K X.mg ps Hf H σ env ∧ SG X.K X.mg ps W De Hf (whN ga f m env), ⟨n, env, Hf, S, z⟩, ?_⟩
  rintro m σ H ⟨env, Hf, S, z⟩
  cases m with
  | zero => exact z.elim
  | succ m =>
    refine hc ps σ Hf H env S _ (SG.bnd z fun x e' Hf' H' x1 S' h1 => ?_)
    cases x with
    | false =>
      unfold Pb
      dsimp only
      rw [if_neg Bool.false_ne_true]; exact h1.ret S'
    | true =>
      unfold Pb
      dsimp only
      rw [if_pos rfl]
      refine ⟨fun σ H => ∃ env Hf, SR X.K X.mg ps Hf H σ env ∧ SG X.K X.mg ps W De Hf (whN ga f m env), fun σ' H' w => ⟨m, Nat.lt_succ_self _, w⟩, ?_⟩
      refine h ps σ Hf' H' e' S' _ ?_
      have h1 : SG X.K X.mg ps W De Hf' (again f (whN ga f m) e') := h1
      unfold again at h1
      cases q : f e' with
      | ok fl e2 =>
        rw [q] at h1
        cases fl with
        | nx => exact fun σ2 Hf2 H2 x2 S2 => ⟨e2, Hf2, S2, SG.mono x2 h1⟩
        | ct => exact fun σ2 Hf2 H2 x2 S2 => ⟨e2, Hf2, S2, SG.mono x2 h1⟩
        | bk => exact h1
        | rt d => exact h1
      | exc x p e' => rw [q] at h1; exact h1
      | stuck => rw [q] at h1; exact h1

/-! ### for -/
/-- the walk J yields ds, one after another, from Hf on -/
structure ItOk (K : PySem.W.Frag) (mg : MG) (Hf : Hp) (J : It) (ds : List D) : Prop where
  go : ∀ (i : Nat) (d : D), ds[i]? = some d → ∀ (ps : Fg) (σ : L2.St) (env : DEnv) (Hf2 H2 : Hp), Ex Hf Hf2 → SR K mg ps Hf2 H2 σ env → J.go i H2 ∧ ∀ x H3, J.yld i H2 x H3 → ∃ Hf3, Ex Hf2 Hf3 ∧ SR K mg ps Hf3 H3 σ env ∧ Rp K mg Hf3 x d
  stop : ∀ (i : Nat), ds.length ≤ i → ∀ (ps : Fg) (σ : L2.St) (env : DEnv) (Hf2 H2 : Hp), Ex Hf Hf2 → SR K mg ps Hf2 H2 σ env → J.stop i H2
structure JI (X : Cx) (W : WX) (tg iter : Expr) (f : M (List D)) : Prop where
  ex : ∃ wi, PI X tg iter wi ∧ ∀ (ps : Fg) (σ : L2.St) (Hf H : Hp) (env : DEnv), SR X.K X.mg ps Hf H σ env → ∀ R : It → Hp → Prop, EG X.K X.mg ps W Hf σ (fun ds Hf' H' => ∀ J, ItOk X.K X.mg Hf' J ds → R J H') (f env) → wi σ H R
def forL (g : D → M Unit) (b : M Fl) : List D → M Fl
  | [] => nx
  | d :: r => bnd (g d) fun _ => again b (forL g b r)
theorem js_for {B : List Stmt} {tg iter : Expr} {fi : M (List D)} {g1 : D → M Unit} (C : CtxOk X W) (ji : JI X W tg iter fi) (jg : JG X W tg g1) (jb : JSs X W B f) (hs : ∀ x, foldedSetIterable iter X.env x = pure x := by intro _; rfl) :
    JS X W (.For tg iter B [] pos) (bnd fi (forL g1 f)) := by
  obtain ⟨wi, pi, hi⟩ := ji.ex
  obtain ⟨tg, pg, hg⟩ := jg.ex
  obtain ⟨t, p, h⟩ := jb.ex
  refine ⟨⟨_, ps_for C.po C.calm pi pg p hs, fun ps σ Hf H env S De z => ?_⟩⟩
  refine hi ps σ Hf H env S _ (SG.bnd z fun ds e1 Hf1 H1 x1 S1 z1 J ok => ?_)
  refine ⟨fun i m σ H => i + m = ds.length ∧ ∃ env Hf, Ex Hf1 Hf ∧ SR X.K X.mg ps Hf H σ env ∧ SG X.K X.mg ps W De Hf (forL g1 f (ds.drop i) env), ⟨ds.length, Nat.zero_add _, e1, Hf1, Ex.refl _, S1, z1⟩, ?_⟩
  rintro i m σ H ⟨hm, env, Hf, x, S, z⟩
  by_cases hlt : i < ds.length
  · obtain ⟨d, hd⟩ : ∃ d, ds[i]? = some d := ⟨ds[i], List.getElem?_eq_getElem hlt⟩
    obtain ⟨go, yld⟩ := ok.go i d hd ps σ env Hf H x S
    have e0 : ds.drop i = d :: ds.drop (i + 1) := by
      rw [List.drop_eq_getElem_cons hlt]
      have := List.getElem?_eq_getElem hlt
      rw [hd] at this; cases this; rfl
    rw [e0] at z
    refine .inr ⟨go, fun σ H => i + 1 + (m - 1) = ds.length ∧ ∃ env Hf, Ex Hf1 Hf ∧ SR X.K X.mg ps Hf H σ env ∧ SG X.K X.mg ps W De Hf (forL g1 f (ds.drop (i + 1)) env), fun σ' H' w => ⟨m - 1, by omega, w⟩, fun v H3 y => ?_⟩
    obtain ⟨Hf3, x3, S3, r3⟩ := yld v H3 y
    refine hg ps σ Hf3 H3 env v d S3 r3 _ (SG.ubnd (SG.mono x3 z) fun e4 σ4 Hf4 H4 x4 S4 z4 => ?_)
    refine h ps σ4 Hf4 H4 e4 S4 _ ?_
    unfold again at z4
    cases q : f e4 with
    | ok fl e5 =>
      rw [q] at z4
      cases fl with
      | nx => exact fun σ2 Hf2 H2 x2 S2 => ⟨by omega, e5, Hf2, ((x.trans x3).trans x4).trans x2, S2, SG.mono x2 z4⟩
      | ct => exact fun σ2 Hf2 H2 x2 S2 => ⟨by omega, e5, Hf2, ((x.trans x3).trans x4).trans x2, S2, SG.mono x2 z4⟩
      | bk => exact z4
      | rt d => exact z4
    | exc x p e' => rw [q] at z4; exact z4
    | stuck => rw [q] at z4; exact z4
  · refine .inl ⟨ok.stop i (by omega) ps σ env Hf H x S, ?_⟩
    rw [List.drop_eq_nil_of_le (by omega)] at z
    exact z.ret S
/-! ### what is walked -/
def rngD (lo : Int) (n : Nat) : List D := (List.range n).map fun k => .int (lo + (k : Nat))
theorem itok_range {K : PySem.W.Frag} {mg : MG} {Hf : Hp} {lo : Int} {n : Nat} : ItOk K mg Hf (Itr lo n) (rngD lo n) where
  go := fun i d hd ps σ env Hf2 H2 x S => by
    unfold rngD at hd
    rw [List.getElem?_map] at hd
    have hi : i < n := by
      cases q : (List.range n)[i]? with
      | none => rw [q] at hd; cases hd
      | some k => have := (List.getElem?_eq_some_iff.mp q).1; simpa using this
    rw [List.getElem?_range hi] at hd
    cases hd
    exact ⟨hi, fun x H3 y => ⟨Hf2, Ex.refl _, by rw [y.1]; exact S, by rw [y.2]; exact .int _⟩⟩
  stop := fun i hi ps σ env Hf2 H2 x S => by
    unfold rngD at hi
    have hi' : n ≤ i := by simpa using hi
    exact hi'
def rOk (j : Int) : Prop := -(2 ^ 62) ≤ j ∧ j < 2 ^ 62
instance (j : Int) : Decidable (rOk j) := by unfold rOk; infer_instance
def mRng1 (f : M (List D)) : M (List D) := bnd f fun ds => match ds with | [.int j] => if rOk j then ret (rngD 0 j.toNat) else stk | _ => stk
def mRng2 (f : M (List D)) : M (List D) := bnd f fun ds => match ds with | [.int i, .int j] => if rOk i ∧ rOk j then ret (rngD i (j - i).toNat) else stk | _ => stk
theorem ji_range1 {tg : Expr} {p : Pos} {f : M (List D)} (V : Nm X N sc raw) (hG : okG sc "range" = true) (hm : X.mg "range" = none) (ja : JA X W [a] f) (hs : starEach [a] X.env = [(false, eval a X.env)] := by rfl) : JI X W tg (.Call (.Name "range" p) [a] [] pos) (mRng1 f) := by
  have hg := (V.g hG).1
  obtain ⟨t, q, h⟩ := ja.ex
  refine ⟨⟨_, pi_range1 hg hm q hs, fun ps σ Hf H env S R z => ?_⟩⟩
  refine h ps σ Hf H env S _ (EG.bnd z fun ds e1 Hf1 H1 x1 S1 h1 vs r => ?_)
  split at h1
  · rename_i j
    split at h1
    · rename_i hc
      cases r with
      | cons r1 r2 => cases r2; rw [r1.int_inv]; exact ⟨j, rfl, hc.1, hc.2, h1.ret S1 _ itok_range⟩
    · exact h1.elim
  · exact h1.elim
theorem ji_range2 {tg : Expr} {p : Pos} {f : M (List D)} (V : Nm X N sc raw) (hG : okG sc "range" = true) (hm : X.mg "range" = none) (ja : JA X W [a, b] f) (hs : starEach [a, b] X.env = [(false, eval a X.env), (false, eval b X.env)] := by rfl) (hs2 : starEach [b] X.env = [(false, eval b X.env)] := by rfl) :
    JI X W tg (.Call (.Name "range" p) [a, b] [] pos) (mRng2 f) := by
  have hg := (V.g hG).1
  obtain ⟨t, q, h⟩ := ja.ex
  refine ⟨⟨_, pi_range2 hg hm q hs hs2, fun ps σ Hf H env S R z => ?_⟩⟩
  refine h ps σ Hf H env S _ (EG.bnd z fun ds e1 Hf1 H1 x1 S1 h1 vs r => ?_)
  split at h1
  · rename_i i j
    split at h1
    · rename_i hc
      cases r with
      | cons r1 r2 => cases r2 with
        | cons r3 r4 => cases r4; rw [r1.int_inv, r3.int_inv]; exact ⟨i, j, rfl, ⟨hc.1.1, hc.1.2, hc.2.1, hc.2.2⟩, h1.ret S1 _ itok_range⟩
    · exact h1.elim
  · exact h1.elim
theorem sqL_inj_len : True := trivial

/-! ### raise -/
/-- what a class over ValueError without __init__ bears -/
structure ExcC (K : PySem.W.Frag) (mg : MG) (x : Str) (C : Addr) : Prop where
  xP : PySem.W.excIn K C [.type "ValueError", .type "Exception", .type "BaseException", .type "object"] "ValueError.__new__" = true
  gP : mg x = some (.ref C)
  kP : PySem.W.keepIn K (.ref C) = true
  bP : PySem.W.subIn K (.ref C) (.type "BaseException") = some true
  tP : PySem.W.typeIn K (.ref C) = some (.type "type")
def mRaise (x : Str) : M Fl := fun env => .exc x none env
theorem js_raise {x m : Str} {j : Nat} {p p2 pos2 : Pos} {Cc : Addr} (C : CtxOk X W) (V : Nm X N sc raw) (hG : okG sc x = true) (E : ExcC X.K X.mg x Cc) :
    JS X W (.Raise (some (.Call (.Name x p) [.Constant (.str m) j p2] [] pos)) none pos2) (mRaise x) := by
  obtain ⟨hg, hdb, _⟩ := V.g hG
  refine ⟨⟨_, ps_raise C.calm C.tk (pmk_own PySem.F.excBase_ValueError E.xP E.gP E.kP (raises_own E.bP E.tP) hg hdb), fun ps σ Hf H env S De z => ?_⟩⟩
  exact z _ _ σ Hf H (Ex.refl _) S ⟨E.gP, rfl⟩
end

/-! ### defs -/
inductive Rs where
  | ok (d : D) | exc (x : Str) (p : Option D) | stuck
/-- a def is worth F: it takes what stands as it stands, and hands back what is new (or what it was handed) -/
def spP (K : PySem.W.Frag) (mg : MG) (n : Nat) (F : List D → Rs) : Sp := fun vs H Q E => vs.length = n ∧ ∃ Hf ds, Ex Hf H ∧ Rps K mg Hf vs ds ∧ match F ds with
  | .ok d => ∀ v Hf' H', Ex Hf Hf' → Ex Hf' H' → (∀ a o, H a = some o → Hf a = none → H' a = some o ∧ Hf' a = none) → Rp K mg Hf' v d → Q v H'
  | .exc x p => ∀ cls dd Hf' H', Ex Hf Hf' → Ex Hf' H' → (∀ a o, H a = some o → Hf a = none → H' a = some o ∧ Hf' a = none) → IsExc K mg Hf' x p cls dd → E cls dd H'
  | .stuck => False
def envOf (n : Nat) (ds : List D) : DEnv := ds.map Sl.val ++ List.replicate (n - ds.length) .no
/-- the body's worth, as a function of what is handed in; n: how many names the def has -/
def runF (n : Nat) (f : M Fl) (ds : List D) : Rs := match f (envOf n ds) with
  | .ok (.rt d) _ => .ok d
  | .ok .nx _ => .ok .non
  | .exc x p _ => .exc x p
  | _ => .stuck
theorem sr_start {K : PySem.W.Frag} {mg : MG} {Hf H : Hp} {vs : List V} {ds : List D} {N : List Str} (x : Ex Hf H) (r : Rps K mg Hf vs ds) (hn : vs.length ≤ N.length) :
    SR K mg ⟨[], fun a => if (Hf a).isSome then none else H a⟩ Hf H (L2.start N vs) (envOf N.length ds) := by
  have hl := r.length
  have noown : ∀ (i : Nat) (k : Option Nat) (l : OD), (envOf N.length ds)[i]? ≠ some (.own k l) := fun i k l h => by
    unfold envOf at h
    by_cases hi : i < ds.length
    · rw [List.getElem?_append_left (by simpa using hi), List.getElem?_map] at h
      cases q : ds[i]? with
      | none => rw [q] at h; cases h
      | some d => rw [q] at h; cases h
    · rw [List.getElem?_append_right (by simpa using hi), List.getElem?_replicate] at h
      split at h <;> cases h
  refine ⟨x, ?_, fun i s h => ?_, fun i j k k' l l' p _ h1 => (noown i k l h1).elim, fun a o h => ?_⟩
  · unfold L2.start envOf
    simp only [List.length_append, List.length_map, List.length_replicate, hl]
  · unfold envOf at h
    unfold L2.start
    by_cases hi : i < ds.length
    · rw [List.getElem?_append_left (by simpa using hi), List.getElem?_map] at h
      cases q : ds[i]? with
      | none => rw [q] at h; cases h
      | some d =>
        rw [q] at h; cases h
        obtain ⟨v, h1, h2⟩ := r.get q
        exact ⟨some v, by rw [List.getElem?_append_left (by simp; omega), List.getElem?_map, h1]; rfl, v, rfl, h2⟩
    · rw [List.getElem?_append_right (by simpa using hi), List.getElem?_replicate] at h
      split at h
      · rename_i hlt
        cases h
        refine ⟨none, ?_, trivial⟩
        rw [List.getElem?_append_right (by simp; omega), List.getElem?_replicate]
        simp only [List.length_map] at hlt ⊢
        rw [if_pos (by omega)]
      · cases h
  · dsimp only at h
    split at h
    · cases h
    · rename_i hn
      refine ⟨h, ?_, fun i k l q => (noown i k l q).elim⟩
      cases q : Hf a with
      | none => rfl
      | some u => rw [q] at hn; exact absurd rfl hn
theorem fg_back {K : PySem.W.Frag} {mg : MG} {Hf H Hf' H' : Hp} {σ : L2.St} {env : DEnv} (S : SR K mg ⟨[], fun a => if (Hf a).isSome then none else H a⟩ Hf' H' σ env) : ∀ a o, H a = some o → Hf a = none → H' a = some o ∧ Hf' a = none := fun a o h n => by
  obtain ⟨h1, h2, _⟩ := S.fg a o (by dsimp only; rw [n]; exact h)
  exact ⟨h1, h2⟩
section
variable {P : Program} {w : World} {K : PySem.W.Frag} {mg : MG} {base : Heap}
/-- THE RULE for a def -/
theorem fn_ok {x qual : Str} {st : Stmt} {f : Addr} {fd : FuncData} {N ps : List Str} {k : Nat} {g : M Fl} (F : Fun K x qual st f fd) (S : FnScope N ps (defScope st))
    (hbody : ∀ (X : Cx) (W : WX), X.prog = P → X.w = w → X.K = K → X.mg = mg → X.base = base → Room k X.A → CtxOk X W → Nm X N (defScope st) (defScope st) → JSs X W (defBody st) g) (hle : ps.length ≤ N.length := by decide) :
    FnOk P w K mg base (L2.CX P w) (k + 1) f fd ps (spP K mg ps.length (runF N.length g)) := by
  refine F.okX S (fun vs H Q E h => h.1) (fun cdv A outer s H vs Q E hr h => ?_)
  obtain ⟨hl, Hf, ds, x, r, hF⟩ := h
  obtain ⟨t, p, ht⟩ := (hbody (cxOf (L2.CX P w) P w K mg base N qual (defScope st) f cdv A outer s H E) (fun cls d _ H => E cls d H) rfl rfl rfl rfl rfl hr ⟨rfl, hr.units, passes_of rfl, takes_of rfl rfl rfl rfl⟩ ⟨rfl, rfl, S.nd, S.kind, fun _ _ => rfl⟩).ex
  refine ⟨t, p, ht _ _ Hf H _ (sr_start x r (by omega)) _ ?_⟩
  unfold runF at hF
  cases q : g (envOf N.length ds) with
  | ok fl e' =>
    rw [q] at hF
    cases fl with
    | nx => exact fun σ' Hf' H' x' S' => hF _ Hf' H' x' S'.ex (fg_back S') .non
    | rt d => exact fun σ' Hf' H' x' S' v rv => hF v Hf' H' x' S'.ex (fg_back S') rv
    | bk => exact hF.elim
    | ct => exact hF.elim
  | exc y p e' => rw [q] at hF; exact fun cls dd σ' Hf' H' x' S' z => hF cls dd Hf' H' x' S'.ex (fg_back S') z
  | stuck => rw [q] at hF; exact hF.elim
/-- another function that is as much where it is not stuck -/
theorem fn_imp {f : Addr} {fd : FuncData} {ps : List Str} {k n : Nat} {F F' : List D → Rs} (h : FnOk P w K mg base (L2.CX P w) k f fd ps (spP K mg n F)) (e : ∀ ds, ds.length = n → F' ds ≠ .stuck → F ds = F' ds) :
    FnOk P w K mg base (L2.CX P w) k f fd ps (spP K mg n F') := by
  refine h.imp fun vs H Q E q => ?_
  obtain ⟨hl, Hf, ds, x, r, hF⟩ := q
  refine ⟨hl, Hf, ds, x, r, ?_⟩
  rw [e ds (by rw [← r.length]; exact hl) (fun z => by rw [z] at hF; exact hF)]
  exact hF
end

/-! ### calls of defs -/
structure Cal (X : Cx) (x : Str) (n : Nat) (F : List D → Rs) : Prop where
  ex : ∃ k f fd ps, FnOk X.prog X.w X.K X.mg X.base (L2.CX X.prog X.w) k f fd ps (spP X.K X.mg n F) ∧ Room k X.A ∧ X.mg x = some (.ref f) ∧ PySem.W.keepIn X.K (.ref f) = true ∧ Binds X.K fd ps []
def mCall (f : M (List D)) (F : List D → Rs) : M D := bnd f fun ds env => match F ds with
  | .ok d => .ok d env | .exc x p => .exc x p env | .stuck => .stuck
section
variable {X : Cx} {W : WX} {e : Expr} {es : List Expr} {pos : Pos} {N : List Str} {sc raw : Scope}
/-- behind a call: what the caller had stands -/
theorem SR.after {K : PySem.W.Frag} {mg : MG} {ps : Fg} {Hf H Hf' H' : Hp} {σ : L2.St} {env : DEnv} (S : SR K mg ps Hf H σ env) (x : Ex Hf Hf') (y : Ex Hf' H') (z : ∀ a o, H a = some o → Hf a = none → H' a = some o ∧ Hf' a = none) : SR K mg ps Hf' H' σ env := by
  refine ⟨y, S.len, fun i s h => ?_, S.ap, fun a o h => ?_⟩
  · obtain ⟨v, hv, r⟩ := S.sl i s h
    refine ⟨v, hv, ?_⟩
    cases s with
    | no => trivial
    | val d => obtain ⟨u, a, b⟩ := r; exact ⟨u, a, b.mono x⟩
    | own k od =>
      obtain ⟨p, o, a, b, c, d, e⟩ := r
      obtain ⟨z1, z2⟩ := z p o c b
      exact ⟨p, o, a, z2, z1, d.mono x, e⟩
  · obtain ⟨h1, h2, h3⟩ := S.fg a o h
    obtain ⟨z1, z2⟩ := z a o h1 h2
    exact ⟨z1, z2, h3⟩
theorem sp_use {n : Nat} {F : List D → Rs} {ps : Fg} {σ : L2.St} {Hf H : Hp} {env : DEnv} {vs : List V} {ds : List D} {Q : VK} (S : SR X.K X.mg ps Hf H σ env) (r : Rps X.K X.mg Hf vs ds) (hn : ds.length = n)
    (h : EG X.K X.mg ps W Hf σ (Pd X.K X.mg Q) ((match F ds with | .ok d => fun env => Res.ok d env | .exc x p => fun env => .exc x p env | .stuck => fun _ => .stuck : M D) env)) : spP X.K X.mg n F vs H Q (WE W σ) := by
  refine ⟨by rw [r.length]; exact hn, Hf, ds, S.ex, r, ?_⟩
  cases q : F ds with
  | ok d => rw [q] at h; exact fun v Hf' H' x y z rv => h Hf' H' x (S.after x y z) v rv
  | exc c p => rw [q] at h; exact fun cls dd Hf' H' x y z w => h cls dd Hf' H' x (S.after x y z) w
  | stuck => rw [q] at h; exact h
theorem je_call {x : Str} {p : Pos} {n : Nat} {F : List D → Rs} {f : M (List D)} (C : CtxOk X W) (V : Nm X N sc raw) (hG : okG sc x = true) (c : Cal X x n F) (ja : JA X W (e :: es) f) (hn : ∀ env ds env', f env = .ok ds env' → ds.length = n)
    (he : starEach (e :: es) X.env = (false, eval e X.env) :: starEach es X.env := by rfl) (hpl : (backTo pos (starEach es X.env)).any (·.1) = false := by rfl) :
    JE X W (.Call (.Name x p) (e :: es) [] pos) (mCall f F) := by
  obtain ⟨hg, hdb, _⟩ := V.g hG
  obtain ⟨k, fa, fd, ps', G, hr, hm, hk, hb⟩ := c.ex
  obtain ⟨t, q, h⟩ := ja.ex
  refine ⟨⟨_, pe_callS G hr hg hm hk hb (fun σ => passAt C.tk σ) q hdb he hpl, fun ps σ Hf H env S Q z => ?_⟩⟩
  have hq : ∀ ds env', f env = .ok ds env' → ds.length = n := fun ds env' w => hn env ds env' w
  unfold mCall bnd at z
  refine h ps σ Hf H env S _ ?_
  cases w : f env with
  | ok ds e1 =>
    rw [w] at z
    intro Hf1 H1 x1 S1 vs r
    refine sp_use (W := W) S1 r (hq ds e1 w) ?_
    have z := EG.mono x1 z
    cases q : F ds with
    | ok d => simp only [q] at z ⊢; exact z
    | exc c p => simp only [q] at z ⊢; exact z
    | stuck => simp only [q] at z ⊢; exact z
  | exc y p e1 => rw [w] at z; exact z
  | stuck => rw [w] at z; exact z
end
/-- how many arguments come -/
def alen (n : Nat) (f : M (List D)) : Prop := ∀ env ds env', f env = .ok ds env' → ds.length = n
theorem alen_nil : alen 0 aNil := fun env ds env' h => by
  unfold aNil ret at h; cases h; rfl
theorem alen_cons {n : Nat} {f : M D} {g : M (List D)} (h : alen n g) : alen (n + 1) (aCons f g) := fun env ds env' q => by
  unfold aCons bnd at q
  cases w : f env with
  | ok d e1 =>
    rw [w] at q
    dsimp only at q
    cases w2 : g e1 with
    | ok ds2 e2 => rw [w2] at q; cases q; rw [List.length_cons, h _ _ _ w2]
    | exc x p e => rw [w2] at q; cases q
    | stuck => rw [w2] at q; cases q
  | exc x p e => rw [w] at q; cases q
  | stuck => rw [w] at q; cases q
end DL

/-! DLd: sequences: +, *, subscripts, slices, own lists, comprehensions, walks, isinstance. -/
namespace DL
open PySem PySem.Spec PyProof.Rows L2 Evl
section
variable {X : Cx} {W : WX} {a b c e : Expr} {es : List Expr} {fa fb fc : M D} {pos : Pos} {f : M (List D)} {N : List Str} {sc raw : Scope}

/-! ### + -/
def rCatL (K : PySem.W.Frag) : R2 := fun x y H Q => ∃ l b xs zs, x = .ref l ∧ y = .ref b ∧ SqL K H l xs ∧ SqL K H b zs ∧ xs.length + zs.length ≤ sizeLine ∧ ∀ p, H p = none → Q (.ref p) (upd H p (.lst (xs ++ zs)))
theorem op_catL : OpR X (binaryOp .Add) (rCatL X.K) := by
  intro pins s σ H x y v u Q I rx ry h
  obtain ⟨l, b, xs, zs, rfl, rfl, hH, hB, hz, q⟩ := h
  cases rx
  cases ry
  obtain ⟨its, r, ⟨⟨cls, dd, data, sl⟩, n, ho, hc, hdd, hd⟩, _⟩ := I.list hH
  obtain ⟨its2, r2, ⟨⟨cls2, dd2, data2, sl2⟩, n2, ho2, hc2, hdd2, hd2⟩, _⟩ := I.list hB
  simp only at hc hd hc2 hd2
  subst hc hd hc2 hd2
  have e : its.toArray ++ its2.toArray = (its ++ its2).toArray := by simp
  have hl := r.length
  have hl2 := r2.length
  refine concat_meets ⟨_, ho, rfl⟩ ⟨_, ho2, rfl⟩ noFill_list_add seq_list_add PySem.F.slot_list_add PySem.F.entry_list_add (PySem.F.args_list_add_2 _ _) (list_addW _ _ its.toArray its2.toArray n n2 dd dd2 sl sl2 (by simp only [List.size_toArray]; omega)) ⟨ho, ho2, ?_⟩
  rw [e]
  exact ⟨.ref _, _, I.lnew (t' := s.toks) (r.append r2) (by rw [List.length_append]; omega), rfl, q _ I.fresh⟩
def mAdd (x y : D) : M D := match x, y with
  | .int i, .int j => ret (.int (i + j))
  | .str s, .str t => if szOk (s.length + t.length) then ret (.str (s ++ t)) else stk
  | .lst l, .lst m => if szOk (l.length + m.length) then ret (.lst (l ++ m)) else stk
  | .tup l, .tup m => if l.isEmpty = false ∧ szOk (l.length + m.length) then ret (.tup (l ++ m)) else stk
  | _, _ => stk
theorem new_lst {ps : Fg} {σ : L2.St} {Hf H : Hp} {env : DEnv} {Q : VK} {l : List D} {vs : List V} (S : SR X.K X.mg ps Hf H σ env) (r : Rps X.K X.mg Hf vs l)
    (q : EG X.K X.mg ps W Hf σ (Pd X.K X.mg Q) (ret (D.lst l) env)) : ∀ p, H p = none → Q (.ref p) (upd H p (.lst vs)) := fun p np =>
  q _ _ (Ex.new (fresh_back S.ex np)) (S.froze np) _ (.lst (.inl (.inl upd_same)) (r.mono (Ex.new (fresh_back S.ex np))))
theorem new_tup {ps : Fg} {σ : L2.St} {Hf H : Hp} {env : DEnv} {Q : VK} {l : List D} {vs : List V} (S : SR X.K X.mg ps Hf H σ env) (r : Rps X.K X.mg Hf vs l)
    (q : EG X.K X.mg ps W Hf σ (Pd X.K X.mg Q) (ret (D.tup l) env)) : ∀ p, H p = none → Q (.ref p) (upd H p (.tup vs)) := fun p np =>
  q _ _ (Ex.new (fresh_back S.ex np)) (S.froze np) _ (.tup (.inl (.inl upd_same)) (r.mono (Ex.new (fresh_back S.ex np))))
theorem je_add (ja : JE X W a fa) (jb : JE X W b fb) : JE X W (.BinOp a .Add b pos) (m2 fa fb mAdd) := by
  refine je_op (op_add.or (op_add_str.or (op_catL.or op_catT))) (fun ps σ Hf H env x y dx dy Q S rx ry q => ?_) ja jb
  unfold mAdd at q
  split at q
  · rw [rx.int_inv, ry.int_inv]; exact .inl ⟨_, _, rfl, rfl, q.ret S _ (.int _)⟩
  · split at q
    · rename_i hz
      rw [rx.str_inv, ry.str_inv]; exact .inr (.inl ⟨_, _, rfl, rfl, hz, q.ret S _ (.str _)⟩)
    · exact q.elim
  · split at q
    · rename_i hz
      cases rx with
      | lst hx r1 => cases ry with
        | lst hy r2 => exact .inr (.inr (.inl ⟨_, _, _, _, rfl, rfl, ex_l S.ex hx, ex_l S.ex hy, by rw [r1.length, r2.length]; exact hz, new_lst S (r1.append r2) q⟩))
    · exact q.elim
  · split at q
    · rename_i l m hz
      cases rx with
      | tup hx r1 => cases ry with
        | tup hy r2 =>
          refine .inr (.inr (.inr ⟨_, _, _, _, rfl, rfl, ex_t S.ex hx, ex_t S.ex hy, ?_, by rw [r1.length, r2.length]; exact hz.2, fun w => ?_, fun _ => new_tup S (r1.append r2) q⟩))
          · intro w; subst w; cases r1; cases hz.1
          · subst w
            cases r2
            rw [List.append_nil] at q
            exact q.ret S _ (.tup hx r1)
    · exact q.elim
  · exact q.elim
/-! ### * -/
theorem je_mul (ja : JE X W a fa) (jb : JE X W b fb) : JE X W (.BinOp a .Mult b pos) (m2 fa fb (g2i iMul)) := je_op op_mulX (rj_rI (C := IntMulOk) fun _ _ _ _ _ => .int _) ja jb
def repOk (n : Nat) (k : Int) : Prop := -(2 ^ 63) ≤ k ∧ k < 2 ^ 63 ∧ n * k.toNat ≤ sizeLine
instance (n : Nat) (k : Int) : Decidable (repOk n k) := by unfold repOk; infer_instance
theorem rps_rep {K : PySem.W.Frag} {mg : MG} {H : Hp} {vs : List V} {ds : List D} (r : Rps K mg H vs ds) : ∀ n, Rps K mg H (List.replicate n vs).flatten (List.replicate n ds).flatten
  | 0 => .nil
  | n + 1 => by
    rw [List.replicate_succ, List.replicate_succ, List.flatten_cons, List.flatten_cons]
    exact r.append (rps_rep r n)
/-- [..] * n -/
def mRep (f : M (List D)) (fb : M D) : M D := bnd f fun ds => if szOk ds.length then bnd fb fun y => match y with
  | .int k => if repOk ds.length k then ret (.lst (List.replicate k.toNat ds).flatten) else stk
  | _ => stk else stk
theorem je_rep {p2 : Pos} (ja : JA X W es f) (jb : JE X W b fb) : JE X W (.BinOp (.List es p2) .Mult b pos) (mRep f fb) := by
  obtain ⟨t, p, h⟩ := ja.ex
  obtain ⟨tb, pb, hb⟩ := jb.ex
  refine ⟨⟨_, pe_op op_rep (pe_lst p) pb, fun ps σ Hf H env S Q z => ?_⟩⟩
  refine h ps σ Hf H env S _ (EG.bnd z fun ds e1 Hf1 H1 x1 S1 h1 vs r => ?_)
  split at h1
  · rename_i hz
    refine ⟨by rw [r.length]; exact hz, fun l nl => ?_⟩
    have S2 := S1.froze (o := .lst vs) nl
    have x2 : Ex Hf1 (upd Hf1 l (.lst vs)) := Ex.new (fresh_back S1.ex nl)
    refine hb ps σ _ _ e1 S2 _ (EG.bnd (EG.mono x2 h1) fun y e3 Hf3 H3 x3 S3 h3 v rv => ?_)
    split at h3
    · rename_i k
      split at h3
      · rename_i hc
        rw [rv.int_inv]
        refine ⟨l, k, vs, rfl, rfl, S3.ex _ _ (x3 _ _ upd_same), hc.1, hc.2.1, by rw [r.length]; exact hc.2.2, ?_⟩
        exact new_lst S3 ((rps_rep (r.mono (x2.trans x3)) _)) h3
      · exact h3.elim
    · exact h3.elim
  · exact h1.elim

/-! ### subscripts -/
def ixE {α : Type} (l : List α) (k : Int) : Option α := atI l k
theorem rps_at {K : PySem.W.Frag} {mg : MG} {H : Hp} {vs : List V} {ds : List D} {k : Int} {d : D} (r : Rps K mg H vs ds) (h : atI ds k = some d) : ∃ v, atI vs k = some v ∧ Rp K mg H v d := by
  unfold atI at h ⊢
  rw [r.length]
  cases q : ixN ds.length k with
  | none => rw [q] at h; cases h
  | some j =>
    rw [q] at h
    exact r.get h
def oM : Option D → M D
  | some d => ret d
  | none => stk
def dIx (x : D) (k : Int) : M D := match x with
  | .lst l => oM (atI l k)
  | .tup l => oM (atI l k)
  | .str z => if z.length ≤ sizeLine then oM ((atI z.cps.toList k).map fun c => .str ⟨#[c]⟩) else stk
  | _ => stk
def mIx (x y : D) : M D := match y with | .int k => dIx x k | _ => stk
theorem rj_ix : RJ X W (rIx X.K) mIx := by
  intro ps σ Hf H env x y dx dy Q S rx ry q
  unfold mIx at q
  split at q
  · rename_i k
    rw [ry.int_inv]
    cases dx with
    | lst l =>
      have q : EG X.K X.mg ps W Hf σ (Pd X.K X.mg Q) (oM (atI l k) env) := q
      cases hd : atI l k with
      | some d =>
        rw [hd] at q
        cases rx with
        | lst hx r => obtain ⟨v, hv, rv⟩ := rps_at r hd; exact .inl ⟨_, _, _, _, rfl, rfl, ex_l S.ex hx, hv, q.ret S _ rv⟩
      | none => rw [hd] at q; exact q.elim
    | tup l =>
      have q : EG X.K X.mg ps W Hf σ (Pd X.K X.mg Q) (oM (atI l k) env) := q
      cases hd : atI l k with
      | some d =>
        rw [hd] at q
        cases rx with
        | tup hx r => obtain ⟨v, hv, rv⟩ := rps_at r hd; exact .inr (.inl ⟨_, _, _, _, rfl, rfl, ex_t S.ex hx, hv, q.ret S _ rv⟩)
      | none => rw [hd] at q; exact q.elim
    | str z =>
      have q : EG X.K X.mg ps W Hf σ (Pd X.K X.mg Q) ((if z.length ≤ sizeLine then oM ((atI z.cps.toList k).map fun c => .str ⟨#[c]⟩) else stk) env) := q
      by_cases hz : z.length ≤ sizeLine
      · rw [if_pos hz] at q
        cases hc : atI z.cps.toList k with
        | some c => rw [hc] at q; rw [rx.str_inv]; exact .inr (.inr ⟨_, _, _, rfl, rfl, hz, hc, q.ret S _ (.str _)⟩)
        | none => rw [hc] at q; exact q.elim
      · rw [if_neg hz] at q; exact q.elim
    | non => exact q.elim
    | bl b => exact q.elim
    | int i => exact q.elim
    | obj c ns vs => exact q.elim
  · exact q.elim
theorem je_ix (ja : JE X W a fa) (jb : JE X W b fb) (hs : PlainIx b := by exact fun _ _ => rfl) : JE X W (.Subscript a b pos) (m2 fa fb mIx) := by
  obtain ⟨ta, pa, ha⟩ := ja.ex
  obtain ⟨tb, pb, hb⟩ := jb.ex
  exact ⟨⟨_, pe_ix ix_seq pa pb hs, fun ps σ Hf H env S Q h => tOp_ok ha hb rj_ix S h⟩⟩
/-- the slot bears something -/
def has (i : Nat) {α : Type} (f : M α) : M α := fun env => match env[i]? with
  | some (.val _) => f env
  | some (.own _ _) => f env
  | _ => .stuck
/-- what the slot holds, read as data -/
def slD (env : DEnv) (i : Nat) : Option D := match env[i]? with
  | some (.val d) => some d
  | some (.own _ (.lst l)) => some (.lst l)
  | _ => none
def onSl (i : Nat) (g : D → M D) : M D := fun env => match slD env i with | some d => g d env | none => .stuck
theorem has_slot {K : PySem.W.Frag} {mg : MG} {ps : Fg} {Hf H : Hp} {σ : L2.St} {env : DEnv} {α : Type} {P : α → Hp → Hp → Prop} {f : M α} {i : Nat} (S : SR K mg ps Hf H σ env) (h : EG K mg ps W Hf σ P (has i f env)) :
    ∃ v, σ[i]? = some (some v) ∧ EG K mg ps W Hf σ P (f env) := by
  unfold has at h
  split at h
  · rename_i d q; obtain ⟨v, h1, _⟩ := S.val q; exact ⟨v, h1, h⟩
  · rename_i k o q; obtain ⟨p, _, h1, _⟩ := S.own q; exact ⟨_, h1, h⟩
  · exact h.elim
/-- the slot's value, seen where its object may still be changed -/
theorem sl_see {K : PySem.W.Frag} {mg : MG} {ps : Fg} {Hf H : Hp} {σ : L2.St} {env : DEnv} {i : Nat} {v : V} {d : D} (S : SR K mg ps Hf H σ env) (hv : σ[i]? = some (some v)) (h : slD env i = some d) :
    Rp K mg Hf v d ∨ ∃ p vs l, v = .ref p ∧ d = .lst l ∧ H p = some (.lst vs) ∧ Rps K mg Hf vs l := by
  unfold slD at h
  split at h
  · rename_i d' q
    cases h
    obtain ⟨u, h1, h2⟩ := S.val q
    rw [hv] at h1; cases h1
    exact .inl h2
  · rename_i k l q
    cases h
    obtain ⟨p, o, h1, _, h3, ⟨vs, rfl, r⟩, _⟩ := S.own q
    rw [hv] at h1; cases h1
    exact .inr ⟨p, vs, l, rfl, rfl, h3, r⟩
  · cases h
/-- x[e], x a name that may own its list -/
def mIxN (i : Nat) (fb : M D) : M D := has i (bnd fb fun y => onSl i fun x => mIx x y)
theorem je_ixN (V : Nm X N sc raw) {i : Nat} {x : Str} {p2 : Pos} (hv : okV N sc i x = true) (jb : JE X W b fb) (hs : PlainIx b := by exact fun _ _ => rfl) : JE X W (.Subscript (.Name x p2) b pos) (mIxN i fb) := by
  obtain ⟨hN, hv, hd, hcd⟩ := V.v hv
  obtain ⟨tb, pb, hb⟩ := jb.ex
  refine ⟨⟨_, pe_ix ix_seq (pe_var hN hv hd hcd) pb hs, fun ps σ Hf H env S Q z => ?_⟩⟩
  obtain ⟨v, hσ, z⟩ := has_slot S z
  refine ⟨v, hσ, hb ps σ Hf H env S _ (EG.bnd z fun y e1 Hf1 H1 x1 S1 h1 u ru => ?_)⟩
  unfold onSl at h1
  cases q : slD e1 i with
  | none => rw [q] at h1; exact h1.elim
  | some d =>
    rw [q] at h1
    rcases sl_see S1 hσ q with r | ⟨p, vs, l, rfl, rfl, hp, r⟩
    · exact rj_ix ps σ Hf1 H1 e1 v u d y Q S1 r ru h1
    · cases y with
      | int k =>
        have h1 : EG X.K X.mg ps W Hf1 σ (Pd X.K X.mg Q) (oM (atI l k) e1) := h1
        cases hd : atI l k with
        | some d =>
          rw [hd] at h1
          obtain ⟨v, hv, rv⟩ := rps_at r hd
          rw [ru.int_inv]
          exact .inl ⟨_, _, _, _, rfl, rfl, .inl (.inl hp), hv, h1.ret S1 _ rv⟩
        | none => rw [hd] at h1; exact h1.elim
      | non => exact h1.elim
      | bl b => exact h1.elim
      | str s => exact h1.elim
      | tup s => exact h1.elim
      | lst s => exact h1.elim
      | obj c ns vs => exact h1.elim
/-- len(x), x a name that may own its list -/
theorem je_lenN (V : Nm X N sc raw) {i : Nat} {x : Str} {p p2 : Pos} (hv : okV N sc i x = true) (hG : okG sc "len" = true) (hm : X.mg "len" = none) (he : starEach [.Name x p2] X.env = [(false, eval (.Name x p2) X.env)] := by rfl) : JE X W (.Call (.Name "len" p) [.Name x p2] [] pos) (has i (onSl i fun d => cLen [d])) := by
  obtain ⟨hN, hv, hd, hcd⟩ := V.v hv
  obtain ⟨hg, _, _⟩ := V.g hG
  refine ⟨⟨_, pe_callB (call_len_seq.or call_len_str) hg hm (by decide +kernel) (pa_cons (pe_var hN hv hd hcd) pa_nil he) (by decide) (by decide) he rfl, fun ps σ Hf H env S Q z => ?_⟩⟩
  obtain ⟨v, hσ, z⟩ := has_slot S z
  refine ⟨v, hσ, ?_⟩
  unfold onSl at z
  cases q : slD env i with
  | none => rw [q] at z; exact z.elim
  | some d =>
    rw [q] at z
    rcases sl_see S hσ q with r | ⟨p, vs, l, rfl, rfl, hp, r⟩
    · cases d with
      | lst l => cases r with
        | lst hq r => exact .inl ⟨_, _, rfl, .inl (ex_l S.ex hq), by rw [r.length]; exact z.ret S _ (.int _)⟩
      | tup l => cases r with
        | tup hq r => exact .inl ⟨_, _, rfl, .inr (ex_t S.ex hq), by rw [r.length]; exact z.ret S _ (.int _)⟩
      | str s =>
        rw [r.str_inv]
        have z : EG X.K X.mg ps W Hf σ (Pd X.K X.mg Q) ((if s.length ≤ sizeLine then ret (D.int s.length) else stk) env) := z
        by_cases hz : s.length ≤ sizeLine
        · rw [if_pos hz] at z; exact .inr ⟨_, rfl, hz, z.ret S _ (.int _)⟩
        · rw [if_neg hz] at z; exact z.elim
      | non => exact z.elim
      | bl b => exact z.elim
      | int b => exact z.elim
      | obj c ns vs => exact z.elim
    · exact .inl ⟨_, _, rfl, .inl (.inl (.inl hp)), by rw [r.length]; exact z.ret S _ (.int _)⟩
/-! ### isinstance, for a built-in type -/
theorem je_isi {T : String} {p p2 : Pos} {x : Str} (V : Nm X N sc raw) (hG : okG sc "isinstance" = true) (hGT : okG sc x = true) (hm : X.mg "isinstance" = none) (hT : X.mg x = none) (hv : bootBuiltins x = some (.type T)) (ja : JE X W a fa)
    (he : starEach [a, .Name x p2] X.env = (false, eval a X.env) :: starEach [.Name x p2] X.env := by rfl) (he2 : starEach [.Name x p2] X.env = [(false, eval (.Name x p2) X.env)] := by rfl) (hpl : (backTo pos (starEach [.Name x p2] X.env)).any (·.1) = false := by rfl) :
    JE X W (.Call (.Name "isinstance" p) [a, .Name x p2] [] pos) (bnd fa fun d => cIsi T [d]) := by
  obtain ⟨hg, _, _⟩ := V.g hG
  obtain ⟨hgT, hd, hnn⟩ := V.g hGT
  obtain ⟨t, q, h⟩ := ja.ex
  refine ⟨⟨_, pe_callB call_isi hg hm (by decide +kernel) (pa_cons q (pa_cons (pe_bltn hgT hT hv (v := L2.V.ty T) rfl hnn hd) pa_nil he2) he) (by decide) (by decide) he hpl, fun ps σ Hf H env S Q z => ?_⟩⟩
  refine h ps σ Hf H env S _ (EG.bnd z fun d e1 Hf1 H1 x1 S1 h1 v rv => ?_)
  have key : ∀ (b : Bool), kitB (tyD d) T = some b → (∀ c ns vs, d ≠ .obj c ns vs) → EG X.K X.mg ps W Hf1 σ (Pd X.K X.mg Q) (ret (D.bl b) e1) → rIsi X.K [v, L2.V.ty T] H1 Q := fun b hb hno q => by
    have rv' := rv.mono S1.ex
    have ty : TyX X.K H1 v (.type (tyD d)) := by
      cases rv' with
      | non => exact .base .non
      | bl b => exact .base (.bl b)
      | int b => exact .base (.int b)
      | str b => exact .base (.str b)
      | tup hq r =>
        rcases hq with (hq | ⟨o, hq⟩) | ⟨o, its, n, hk, hc, _⟩
        · exact .base (.tup hq)
        · exact .fTuple hq
        · exact .kTuple hk hc
      | lst hq r =>
        rcases hq with (hq | ⟨o, hq⟩) | ⟨o, its, n, hk, hc, _⟩
        · exact .base (.lst hq)
        · exact .base (.frz hq)
        · exact .kList hk hc
      | obj _ _ _ _ => exact (hno _ _ _ rfl).elim
    exact ⟨v, .ty T, _, _, b, rfl, .ty T, ty, kit_ty hb, q.ret S1 _ (.bl _)⟩
  cases d with
  | obj c ns vs => exact h1.elim
  | non => unfold cIsi at h1; cases q : kitB (tyD .non) T with
    | none => simp only [q] at h1; exact h1.elim
    | some b => simp only [q] at h1; exact key b q (fun _ _ _ z => nomatch z) h1
  | bl x => unfold cIsi at h1; cases q : kitB (tyD (.bl x)) T with
    | none => simp only [q] at h1; exact h1.elim
    | some b => simp only [q] at h1; exact key b q (fun _ _ _ z => nomatch z) h1
  | int x => unfold cIsi at h1; cases q : kitB (tyD (.int x)) T with
    | none => simp only [q] at h1; exact h1.elim
    | some b => simp only [q] at h1; exact key b q (fun _ _ _ z => nomatch z) h1
  | str x => unfold cIsi at h1; cases q : kitB (tyD (.str x)) T with
    | none => simp only [q] at h1; exact h1.elim
    | some b => simp only [q] at h1; exact key b q (fun _ _ _ z => nomatch z) h1
  | tup x => unfold cIsi at h1; cases q : kitB (tyD (.tup x)) T with
    | none => simp only [q] at h1; exact h1.elim
    | some b => simp only [q] at h1; exact key b q (fun _ _ _ z => nomatch z) h1
  | lst x => unfold cIsi at h1; cases q : kitB (tyD (.lst x)) T with
    | none => simp only [q] at h1; exact h1.elim
    | some b => simp only [q] at h1; exact key b q (fun _ _ _ z => nomatch z) h1
/-! ### comparisons as tests -/
theorem jt_cmp {op : CmpOp} {r : R2} {g : D → D → M D} (ho : OpR X (compareOp op) r) (hr : RJ X W r g) (ja : JE X W a fa) (jb : JE X W b fb) (hm : behindInMarks op b = false := by first | exact nomark _ | rfl) : JT X W (.Compare a [op] [b] pos) (bnd (m2 fa fb g) mB) := by
  obtain ⟨ta, pa, ha⟩ := ja.ex
  obtain ⟨tb, pb, hb⟩ := jb.ex
  refine ⟨⟨_, pt_cmpR ho pa pb hm, fun ps σ Hf H env S Q h => ?_⟩⟩
  refine ha ps σ Hf H env S _ ?_
  have h : EG X.K X.mg ps W Hf σ (Pb Q) (bnd fa (fun x => bnd fb fun y => bnd (g x y) mB) env) := by
    have e : bnd (m2 fa fb g) mB env = bnd fa (fun x => bnd fb fun y => bnd (g x y) mB) env := by
      unfold m2 bnd
      cases fa env with
      | ok x e1 =>
        dsimp only
        cases fb e1 with
        | ok y e2 => rfl
        | exc _ _ _ => rfl
        | stuck => rfl
      | exc _ _ _ => rfl
      | stuck => rfl
    rw [← e]; exact h
  refine EG.bnd h fun x e1 Hf1 H1 x1 S1 h1 v rv => ?_
  refine hb ps σ Hf1 H1 e1 S1 _ (EG.bnd h1 fun y e2 Hf2 H2 x2 S2 h2 u ru => ?_)
  refine hr ps σ Hf2 H2 e2 v u x y _ S2 (rv.mono x2) ru (EG.bnd h2 fun z e3 Hf3 H3 x3 S3 h3 v3 rv3 => ?_)
  unfold mB at h3
  split at h3
  · exact ⟨_, rv3.bl_inv, EG.ret (W := W) (P := Pb Q) h3 S3⟩
  · exact h3.elim
theorem jt_lt (ja : JE X W a fa) (jb : JE X W b fb) : JT X W (.Compare a [.Lt] [b] pos) (bnd (m2 fa fb (g2i (iCmp fun i j => decide (i < j)))) mB) := jt_cmp op_lt (rj_rI0 fun _ _ _ _ _ => .bl _) ja jb
theorem jt_le (ja : JE X W a fa) (jb : JE X W b fb) : JT X W (.Compare a [.LtE] [b] pos) (bnd (m2 fa fb (g2i (iCmp fun i j => decide (i ≤ j)))) mB) := jt_cmp op_le (rj_rI0 fun _ _ _ _ _ => .bl _) ja jb
theorem jt_gt (ja : JE X W a fa) (jb : JE X W b fb) : JT X W (.Compare a [.Gt] [b] pos) (bnd (m2 fa fb (g2i (iCmp fun i j => decide (j < i)))) mB) := jt_cmp op_gt (rj_rI0 fun _ _ _ _ _ => .bl _) ja jb
theorem jt_ge (ja : JE X W a fa) (jb : JE X W b fb) : JT X W (.Compare a [.GtE] [b] pos) (bnd (m2 fa fb (g2i (iCmp fun i j => decide (j ≤ i)))) mB) := jt_cmp op_ge (rj_rI0 fun _ _ _ _ _ => .bl _) ja jb
theorem jt_eq (C : CtxOk X W) (ja : JE X W a fa) (jb : JE X W b fb) : JT X W (.Compare a [.Eq] [b] pos) (bnd (m2 fa fb mEq) mB) := jt_cmp (op_eqD C.hu) rj_eq ja jb
theorem jt_ne (C : CtxOk X W) (ja : JE X W a fa) (jb : JE X W b fb) : JT X W (.Compare a [.NotEq] [b] pos) (bnd (m2 fa fb mNe) mB) := jt_cmp (op_neD C.hu) rj_ne ja jb
theorem jt_isN {j : Nat} {p2 : Pos} (ja : JE X W a fa) : JT X W (.Compare a [.Is] [.Constant .none j p2] pos) (bnd fa fun x => ret (isNon x)) := by
  obtain ⟨ta, pa, ha⟩ := ja.ex
  refine ⟨⟨_, pt_cmpR op_isN pa pe_non (nomark _), fun ps σ Hf H env S Q h => ?_⟩⟩
  refine ha ps σ Hf H env S _ (EG.bnd h fun x e1 Hf1 H1 x1 S1 h1 v rv => ⟨rfl, _, rfl, ?_⟩)
  rw [rv.non_iff]
  have q : Q (isNon x) H1 := EG.ret (W := W) (P := Pb Q) h1 S1
  cases x <;> exact q
theorem jt_isNN {j : Nat} {p2 : Pos} (ja : JE X W a fa) : JT X W (.Compare a [.IsNot] [.Constant .none j p2] pos) (bnd fa fun x => ret (!isNon x)) := by
  obtain ⟨ta, pa, ha⟩ := ja.ex
  refine ⟨⟨_, pt_cmpR op_notN pa pe_non (nomark _), fun ps σ Hf H env S Q h => ?_⟩⟩
  refine ha ps σ Hf H env S _ (EG.bnd h fun x e1 Hf1 H1 x1 S1 h1 v rv => ⟨rfl, _, rfl, ?_⟩)
  rw [rv.non_iff]
  have q : Q (!isNon x) H1 := EG.ret (W := W) (P := Pb Q) h1 S1
  cases x <;> exact q
end
end DL

/-! DLe: callees, the law's own promise, its end. -/
namespace DL
open PySem PySem.Spec PyProof.Rows L2 Evl
/-- a def that stands at the module's name x and is worth F, by level k -/
structure Callee (P : Program) (w : World) (K : PySem.W.Frag) (mg : MG) (base : Heap) (x : Str) (k n : Nat) (F : List D → Rs) : Prop where
  ex : ∃ f fd ps, FnOk P w K mg base (L2.CX P w) k f fd ps (spP K mg n F) ∧ mg x = some (.ref f) ∧ PySem.W.keepIn K (.ref f) = true ∧ Binds K fd ps []
theorem Callee.cal {X : Cx} {x : Str} {k k' n : Nat} {F : List D → Rs} (c : Callee X.prog X.w X.K X.mg X.base x k n F) (hr : Room k' X.A) (h : k ≤ k' := by decide) : Cal X x n F := by
  obtain ⟨f, fd, ps, G, hm, hk, hb⟩ := c.ex
  exact ⟨⟨k, f, fd, ps, G, hr.mono h, hm, hk, hb⟩⟩
section
variable {P : Program} {w : World} {K : PySem.W.Frag} {mg : MG} {base : Heap}
theorem Callee.imp {x : Str} {k n : Nat} {F F' : List D → Rs} (c : Callee P w K mg base x k n F) (e : ∀ ds, ds.length = n → F' ds ≠ .stuck → F ds = F' ds) : Callee P w K mg base x k n F' := by
  obtain ⟨f, fd, ps, G, hm, hk, hb⟩ := c.ex
  exact ⟨⟨f, fd, ps, fn_imp G e, hm, hk, hb⟩⟩
theorem callee_of {x : Str} {f : Addr} {fd : FuncData} {ps : List Str} {k n : Nat} {F : List D → Rs} (G : FnOk P w K mg base (L2.CX P w) k f fd ps (spP K mg n F)) (hm : mg x = some (.ref f)) (hk : PySem.W.keepIn K (.ref f) = true) (hb : Binds K fd ps []) : Callee P w K mg base x k n F := ⟨⟨f, fd, ps, G, hm, hk, hb⟩⟩
end
/-- the law's promise: the script, its bits; it hands back True -/
def spL (K : PySem.W.Frag) : Sp := fun vs H Q _ => ∃ (a : Addr) (ns : List Int), vs = [.ref a] ∧ SqL K H a (ns.map V.int) ∧ ns.length ≤ 63 ∧ (∀ z ∈ ns, Builtin.Int.intBits z ≤ 1048576) ∧ ∀ H', Q (.bl true) H'
theorem rps_ofInts {K : PySem.W.Frag} {mg : MG} {H : Hp} : ∀ ns : List Int, Rps K mg H (ns.map V.int) (ns.map D.int)
  | [] => .nil
  | n :: r => .cons (.int n) (rps_ofInts r)
theorem law_of {P : Program} {w : World} {K : PySem.W.Frag} {mg : MG} {base : Heap} {k : Nat} {f : Addr} {fd : FuncData} {ps : List Str} {F : List D → Rs}
    (G : FnOk P w K mg base (L2.CX P w) k f fd ps (spP K mg 1 F)) (h : ∀ ns : List Int, ns.length ≤ 63 → (∀ z ∈ ns, Builtin.Int.intBits z ≤ 1048576) → F [.lst (ns.map .int)] = .ok (.bl true)) :
    FnOk P w K mg base (L2.CX P w) k f fd ps (spL K) := by
  refine G.imp fun vs H Q E q => ?_
  obtain ⟨a, ns, rfl, hS, hl, hb, q⟩ := q
  refine ⟨rfl, H, [.lst (ns.map .int)], Ex.refl H, .cons (.lst hS (rps_ofInts ns)) .nil, ?_⟩
  rw [h ns hl hb]
  exact fun v Hf' H' _ _ _ r => by rw [r.bl_inv]; exact q H'
theorem cx_end (P : Program) (w : World) : ∀ (H : Hp) (s : Shared) (e : Value) (s' : Shared), L2.CX P w [] H s (fun _ _ _ => False) e s' → False := fun H s e s' h => by
  obtain ⟨_, _, _, _, _, _, _, _, _, _, _, _, z⟩ := h
  exact z
end DL

/-! DLs: how a body's worth is reckoned. -/
namespace DL
open PySem PySem.Spec PyProof.Rows L2 Evl
theorem forL_nil {g : D → M Unit} {b : M Fl} {e : DEnv} : forL g b [] e = .ok .nx e := rfl
theorem forL_cons {g : D → M Unit} {b : M Fl} {d : D} {r : List D} {e : DEnv} : forL g b (d :: r) e = bnd (g d) (fun _ => again b (forL g b r)) e := rfl
/-- a loop by an invariant -/
theorem forL_inv {g : D → M Unit} {b : M Fl} (I : DEnv → Prop) : ∀ ds : List D, (∀ d ∈ ds, ∀ e, I e → ∃ e1 e2, g d e = .ok () e1 ∧ (b e1 = .ok .nx e2 ∨ b e1 = .ok .ct e2) ∧ I e2) → ∀ e, I e → ∃ e', forL g b ds e = .ok .nx e' ∧ I e'
  | [], _, e, h => ⟨e, rfl, h⟩
  | d :: r, hs, e, h => by
    obtain ⟨e1, e2, h1, h2, h3⟩ := hs d List.mem_cons_self e h
    obtain ⟨e', h4, h5⟩ := forL_inv I r (fun d' hd => hs d' (List.mem_cons_of_mem _ hd)) e2 h3
    refine ⟨e', ?_, h5⟩
    rw [forL_cons, bnd_ok h1]
    unfold again
    rcases h2 with h2 | h2 <;> rw [h2] <;> exact h4
theorem mem_rngD {d : D} {lo : Int} {n : Nat} (h : d ∈ rngD lo n) : ∃ k : Nat, k < n ∧ d = .int (lo + k) := by
  unfold rngD at h
  obtain ⟨k, hk, rfl⟩ := List.mem_map.mp h
  exact ⟨k, by simpa using hk, rfl⟩
abbrev ib := Builtin.Int.intBits
theorem ib_of {x : Int} {m : Nat} (h : x.natAbs < 2 ^ m) : ib x ≤ m := PySem.intBits_le_iff.mpr h
theorem divOk_of {j : Int} {m : Nat} (h0 : j ≠ 0) (h : ib j ≤ m) (hm : m ≤ 9000) : DivOk j := by
  refine ⟨h0, ?_⟩
  have h1 : j.natAbs < 2 ^ 9000 := Nat.lt_of_lt_of_le (PySem.intBits_le_iff.mp h) (Nat.pow_le_pow_right (by decide) hm)
  exact (Nat.log2_lt (by omega)).mpr h1
theorem atI_ints {ns : List Int} {k : Int} (h0 : 0 ≤ k) (h1 : k < ns.length) : atI (ns.map D.int) k = some (.int (ns.getD k.toNat 0)) := by
  obtain ⟨j, rfl⟩ := Int.eq_ofNat_of_zero_le h0
  have hj : j < ns.length := by omega
  refine atI_nat (j := j) ?_
  rw [List.getElem?_map, List.getElem?_eq_getElem hj]
  simp [List.getD, hj]
end DL
namespace DL
open PySem PySem.Spec PyProof.Rows L2 Evl
/-! ### a worth at an environment -/
section
variable {α β : Type} {a : α} {e e' : DEnv} {m : M α} {f : α → M β} {x : Str} {p : Option D} {d d' : D} {i j : Int} {n k : Nat} {fa fb : M D} {g : D → D → M D} {s t : M Fl} {c : M Bool} {b : Bool}
def rB (r : Res α) (f : α → M β) : Res β := match r with | .ok a e => f a e | .exc x p e => .exc x p e | .stuck => .stuck
def sQ (r : Res Fl) (g : M Fl) : Res Fl := match r with | .ok .nx e => g e | r => r
def aG (r : Res Fl) (k : M Fl) : Res Fl := match r with | .ok .nx e => k e | .ok .ct e => k e | .ok .bk e => .ok .nx e | r => r
def oS (o : Option Sl) (e : DEnv) (i : Nat) : Res D := match o with | some (.val d) => .ok d e | some (.own none (.lst l)) => .ok (.lst l) (frz1 e i) | _ => .stuck
theorem a_ret : DL.ret a e = .ok a e := rfl
theorem a_stk : (stk e : Res α) = .stuck := rfl
theorem a_bnd : bnd m f e = rB (m e) f := rfl
theorem a_rok : rB (.ok a e) f = f a e := rfl
theorem a_rexc : rB (.exc x p e : Res α) f = .exc x p e := rfl
theorem a_rst : rB (.stuck : Res α) f = .stuck := rfl
theorem a_rite {q : Prop} [Decidable q] {r r' : Res α} : rB (if q then r else r') f = if q then rB r f else rB r' f := by split <;> rfl
theorem a_var : mVar n e = oS e[n]? e n := rfl
theorem a_oval : oS (some (.val d)) e n = .ok d e := rfl
theorem a_oown {l : List D} : oS (some (.own none (.lst l))) e n = .ok (.lst l) (frz1 e n) := rfl
theorem a_m2 : m2 fa fb g e = rB (fa e) (fun x => bnd fb fun y => g x y) := rfl
theorem a_g2i {h : Int → Int → M D} : g2i h (.int i) (.int j) e = h i j e := rfl
theorem a_add : iAdd i j e = .ok (.int (i + j)) e := rfl
theorem a_mAdd : mAdd (.int i) (.int j) e = .ok (.int (i + j)) e := rfl
theorem a_sub : iSub i j e = .ok (.int (i - j)) e := rfl
theorem a_mul : iMul i j e = if IntMulOk i j then .ok (.int (i * j)) e else .stuck := by unfold iMul; split <;> rfl
theorem a_div : iDiv i j e = if DivOk j then .ok (.int (i.fdiv j)) e else .stuck := by unfold iDiv; split <;> rfl
theorem a_mod : iMod i j e = if j ≠ 0 then .ok (.int (i.fmod j)) e else .stuck := by unfold iMod; split <;> rfl
theorem a_pow : iPow i j e = if PowOk i j then .ok (.int (i ^ j.toNat)) e else .stuck := by unfold iPow; split <;> rfl
theorem a_shr : iShr i j e = if 0 ≤ j then .ok (.int (i / 2 ^ j.toNat)) e else .stuck := by unfold iShr; split <;> rfl
theorem a_cmp {q : Int → Int → Bool} : iCmp q i j e = .ok (.bl (q i j)) e := rfl
theorem a_eq : mEq d d' e = if eqOk d d' = true then .ok (.bl (deq d d')) e else .stuck := by unfold mEq; split <;> rfl
theorem a_ne : mNe d d' e = if eqOk d d' = true then .ok (.bl (!deq d d')) e else .stuck := by unfold mNe; split <;> rfl
theorem a_u1i {h : Int → M D} : u1i h (.int i) e = h i e := rfl
theorem a_mB : mB (.bl b) e = .ok b e := rfl
theorem a_truB : mTru (.bl b) e = .ok b e := rfl
theorem a_truI : mTru (.int i) e = .ok (i != 0) e := rfl
theorem a_truN : mTru .non e = .ok false e := rfl
theorem a_truL {l : List D} : mTru (.lst l) e = .ok (!l.isEmpty) e := rfl
theorem a_truT {l : List D} : mTru (.tup l) e = .ok (!l.isEmpty) e := rfl
theorem a_bAnd {c' : M Bool} : bAnd c c' e = rB (c e) (fun b => if b = true then c' else DL.ret false) := rfl
theorem a_bOr {c' : M Bool} : bOr c c' e = rB (c e) (fun b => if b = true then DL.ret true else c') := rfl
theorem a_bNot : bNot c e = rB (c e) (fun b => DL.ret (!b)) := rfl
theorem a_vAnd : vAnd fa fb e = rB (fa e) (fun x => match x with | .bl c => if c = true then fb else DL.ret (.bl false) | _ => stk) := rfl
theorem a_vOr : vOr fa fb e = rB (fa e) (fun x => match x with | .bl c => if c = true then DL.ret (.bl true) else fb | _ => stk) := rfl
theorem a_vNot : vNot fa e = rB (fa e) (fun x => match x with | .bl c => DL.ret (.bl (!c)) | _ => stk) := rfl
theorem a_if {f g : M α} : mIf c f g e = rB (c e) (fun b => if b = true then f else g) := rfl
theorem a_ite {q : Prop} [Decidable q] {f g : M α} : (if q then f else g) e = if q then f e else g e := by split <;> rfl
theorem a_aNil : aNil e = .ok [] e := rfl
theorem a_aCons {h : M (List D)} : aCons fa h e = rB (fa e) (fun d => bnd h fun ds => DL.ret (d :: ds)) := rfl
theorem a_tup {h : M (List D)} : mTup h e = rB (h e) (fun ds => if szOk ds.length then DL.ret (.tup ds) else stk) := rfl
theorem a_lst {h : M (List D)} : mLst h e = rB (h e) (fun ds => if szOk ds.length then DL.ret (.lst ds) else stk) := rfl
theorem a_c1i {h : Int → M D} : c1i h [.int i] e = h i e := rfl
theorem a_c2i {h : Int → Int → M D} : c2i h [.int i, .int j] e = h i j e := rfl
theorem a_cIntI : cInt [.int i] e = .ok (.int i) e := rfl
theorem a_cIntB : cInt [.bl b] e = .ok (.int (if b then 1 else 0)) e := rfl
theorem a_lenL {l : List D} : cLen [.lst l] e = .ok (.int l.length) e := rfl
theorem a_lenT {l : List D} : cLen [.tup l] e = .ok (.int l.length) e := rfl
theorem a_lenS {z : Str} : cLen [.str z] e = if z.length ≤ sizeLine then .ok (.int z.length) e else .stuck := by
  show (if z.length ≤ sizeLine then DL.ret (D.int z.length) else stk) e = _
  split <;> rfl
theorem a_nx : nx e = .ok .nx e := rfl
theorem a_sq : sq s t e = sQ (s e) t := rfl
theorem a_snx : sQ (.ok .nx e) t = t e := rfl
theorem a_srt : sQ (.ok (.rt d) e) t = .ok (.rt d) e := rfl
theorem a_sbk : sQ (.ok .bk e) t = .ok .bk e := rfl
theorem a_sct : sQ (.ok .ct e) t = .ok .ct e := rfl
theorem a_sexc : sQ (.exc x p e) t = .exc x p e := rfl
theorem a_sst : sQ .stuck t = .stuck := rfl
theorem a_site {q : Prop} [Decidable q] {r r' : Res Fl} : sQ (if q then r else r') t = if q then sQ r t else sQ r' t := by split <;> rfl
theorem a_asg : mAsg n fa e = rB (fa e) (fun d e' => .ok .nx (e'.set n (.val d))) := rfl
theorem a_mRet : mRet fa e = rB (fa e) (fun d => DL.ret (.rt d)) := rfl
theorem a_drop : mDrop fa e = rB (fa e) (fun _ => nx) := rfl
def oA (o : Option Sl) (f : M D) (g : Int → Int → D) (n : Nat) (e : DEnv) : Res Fl := match o with | some (.val (.int a)) => bnd f (fun d env' => match d with | .int b => .ok .nx (env'.set n (.val (g a b))) | _ => .stuck) e | _ => .stuck
theorem a_aug {h : Int → Int → D} : mAug n fa h e = oA e[n]? fa h n e := rfl
theorem a_oA {h : Int → Int → D} : oA (some (.val (.int i))) fa h n e = rB (fa e) (fun d env' => match d with | .int b => .ok .nx (env'.set n (.val (h i b))) | _ => .stuck) := rfl
theorem a_gN : gN n d e = .ok () (e.set n (.val d)) := rfl
theorem a_gsNil : gsNil [] e = .ok () e := rfl
theorem a_gsCons {h : D → M Unit} {hs : List D → M Unit} {ds : List D} : gsCons h hs (d :: ds) e = rB (h d e) (fun _ => hs ds) := rfl
theorem a_gTpT {hs : List D → M Unit} {ds : List D} : gTp n hs (.tup ds) e = if ds.length = n then hs ds e else .stuck := by
  show (if ds.length = n then hs ds else stk) e = _
  split <;> rfl
theorem a_gTpL {hs : List D → M Unit} {ds : List D} : gTp n hs (.lst ds) e = if ds.length = n then hs ds e else .stuck := by
  show (if ds.length = n then hs ds else stk) e = _
  split <;> rfl
theorem a_asgT {h : D → M Unit} : mAsgT fa h e = rB (fa e) (fun d => bnd (h d) fun _ => nx) := rfl
theorem a_par {h : M (List D)} : mPar n k h e = rB (h e) (fun ds env => match ds with | [d, d'] => .ok .nx ((env.set n (.val d)).set k (.val d')) | _ => .stuck) := rfl
theorem a_again : again s t e = aG (s e) t := rfl
theorem a_gnx : aG (.ok .nx e) t = t e := rfl
theorem a_gct : aG (.ok .ct e) t = t e := rfl
theorem a_gbk : aG (.ok .bk e) t = .ok .nx e := rfl
theorem a_grt : aG (.ok (.rt d) e) t = .ok (.rt d) e := rfl
theorem a_gexc : aG (.exc x p e) t = .exc x p e := rfl
theorem a_gite {q : Prop} [Decidable q] {r r' : Res Fl} : aG (if q then r else r') t = if q then aG r t else aG r' t := by split <;> rfl
theorem a_rng1 {h : M (List D)} : mRng1 h e = rB (h e) (fun ds => match ds with | [.int j] => if rOk j then DL.ret (rngD 0 j.toNat) else stk | _ => stk) := rfl
theorem a_rng2 {h : M (List D)} : mRng2 h e = rB (h e) (fun ds => match ds with | [.int i, .int j] => if rOk i ∧ rOk j then DL.ret (rngD i (j - i).toNat) else stk | _ => stk) := rfl
theorem a_raise : mRaise x e = .exc x none e := rfl
def rsM (r : Rs) (e : DEnv) : Res D := match r with | .ok d => .ok d e | .exc x p => .exc x p e | .stuck => .stuck
theorem a_call {h : M (List D)} {F : List D → Rs} : mCall h F e = rB (h e) (fun ds e' => rsM (F ds) e') := by
  unfold mCall; rw [a_bnd]; congr
theorem a_rsok : rsM (.ok d) e = .ok d e := rfl
theorem a_rsexc : rsM (.exc x p) e = .exc x p e := rfl
theorem a_rsst : rsM .stuck e = .stuck := rfl
def hS (o : Option Sl) (f : M α) (e : DEnv) : Res α := match o with | some (.val _) => f e | some (.own _ _) => f e | _ => .stuck
theorem a_has : has n m e = hS e[n]? m e := rfl
theorem a_hval : hS (some (.val d)) m e = m e := rfl
theorem a_hown {q : Option Nat} {o : OD} : hS (some (.own q o)) m e = m e := rfl
def oD (o : Option D) (h : D → M D) (e : DEnv) : Res D := match o with | some d => h d e | none => .stuck
theorem a_onSl {h : D → M D} : onSl n h e = oD (slD e n) h e := rfl
def oDS (o : Option Sl) : Option D := match o with | some (.val d) => some d | some (.own _ (.lst l)) => some (.lst l) | _ => none
theorem a_slD : slD e n = oDS e[n]? := rfl
theorem a_oDv : oDS (some (.val d)) = some d := rfl
theorem a_oDo {q : Option Nat} {l : List D} : oDS (some (.own q (.lst l))) = some (.lst l) := rfl
theorem a_oDs {h : D → M D} : oD (some d) h e = h d e := rfl
theorem a_ixN : mIxN n fb e = has n (bnd fb fun y => onSl n fun x => mIx x y) e := rfl
theorem a_mIxI : mIx d (.int i) e = dIx d i e := rfl
theorem a_dIxL {l : List D} : dIx (.lst l) i e = oM (atI l i) e := rfl
theorem a_dIxT {l : List D} : dIx (.tup l) i e = oM (atI l i) e := rfl
theorem a_oM : oM (some d) e = .ok d e := rfl
def kM (o : Option Bool) (e : DEnv) : Res D := match o with | some b => .ok (.bl b) e | none => .stuck
theorem a_isiI {T : String} : cIsi T [.int i] e = kM (kitB "int" T) e := by
  show (match kitB (tyD (.int i)) T with | some b => DL.ret (D.bl b) | none => stk) e = _
  show (match kitB "int" T with | some b => DL.ret (D.bl b) | none => stk) e = _
  cases kitB "int" T <;> rfl
theorem a_isiB {T : String} : cIsi T [.bl b] e = kM (kitB "bool" T) e := by
  show (match kitB "bool" T with | some b => DL.ret (D.bl b) | none => stk) e = _
  cases kitB "bool" T <;> rfl
theorem a_kM : kM (some b) e = .ok (.bl b) e := rfl
theorem k_ii : kitB "int" "int" = some true := by decide +kernel
theorem k_ib : kitB "int" "bool" = some false := by decide +kernel
theorem k_bi : kitB "bool" "int" = some true := by decide +kernel
theorem k_bb : kitB "bool" "bool" = some true := by decide +kernel
def rF (r : Res Fl) : Rs := match r with | .ok (.rt d) _ => .ok d | .ok .nx _ => .ok .non | .exc x p _ => .exc x p | _ => .stuck
theorem a_runF {f : M Fl} {ds : List D} : runF n f ds = rF (f (DL.envOf n ds)) := rfl
theorem a_rFrt : rF (.ok (.rt d) e) = .ok d := rfl
theorem a_rFnx : rF (.ok .nx e) = .ok .non := rfl
theorem a_rFexc : rF (.exc x p e) = .exc x p := rfl
theorem a_rFite {q : Prop} [Decidable q] {r r' : Res Fl} : rF (if q then r else r') = if q then rF r else rF r' := by split <;> rfl
end
end DL
namespace DL
open PySem PySem.Spec PyProof.Rows L2 Evl
theorem eqOk_ii (i j : Int) : eqOk (.int i) (.int j) = true := by
  unfold eqOk shp SeqAt.shaped
  simp [D.py, D.toPy, PyData.canLay0, PyData.depth]
theorem deq_ii (i j : Int) : deq (.int i) (.int j) = decide (i = j) := by
  unfold deq D.toPy PyData.eqv
  by_cases h : i = j
  · subst h; simp
  · simp [h]
theorem iAbs_eq (i : Int) : iAbs i = (i.natAbs : Int) := by unfold iAbs; split <;> omega
/-! ### the greatest common divisor, by a loop -/
theorem fmod_nat (m n : Nat) : (m : Int).fmod (n : Int) = ((m % n : Nat) : Int) := by
  rw [Int.fmod_eq_emod_of_nonneg _ (by omega)]; rfl
/-- while b > 0: a, b = b, a % b -/
abbrev gcdC : M Bool := bnd (m2 (mVar 1) (DL.ret (.int 0)) (g2i (iCmp fun i j => decide (j < i)))) mB
abbrev gcdB : M Fl := mPar 0 1 (aCons (mVar 1) (aCons (m2 (mVar 0) (mVar 1) (g2i iMod)) aNil))
end DL

namespace G_crystalwords_k11_divisor
open PySem PySem.Spec PyProof.Rows L2 DL
/-! the text -/
def topS (i : Nat) : Stmt := PySem.Challenge.pw_crystalwords_k11_divisor.main.body.getD i (.Pass ⟨0, 0, 0, 0⟩)

abbrev s_divisor : Stmt := topS 1
theorem sc_divisor : FnScope ["one", "other"] ["one", "other"] (defScope s_divisor) := ⟨rfl, rfl, rfl, by decide +kernel, rfl, by decide +kernel, by decide +kernel⟩
noncomputable def b_divisor : M Fl :=
  (sq (mAsg 0 (bnd (aCons (mVar 0) aNil) (c1i fun i => ret (.int (iAbs i)))))
  (sq (mAsg 1 (bnd (aCons (mVar 1) aNil) (c1i fun i => ret (.int (iAbs i)))))
  (sq (mWh (bnd (m2 (mVar 1) (ret (.int 0)) (g2i (iCmp fun i j => decide (j < i)))) mB) (mPar 0 1 (aCons (mVar 1) (aCons (m2 (mVar 0) (mVar 1) (g2i iMod)) aNil))))
  (mRet (mVar 0)))))
noncomputable def F_divisor : List D → Rs := runF 2 b_divisor
abbrev N_divisor : List Str := ["one", "other"]
abbrev sk_divisor : Scope := defScope s_divisor
theorem v_divisor_0 : okV N_divisor sk_divisor 0 "one" = true := by decide +kernel
theorem v_divisor_1 : okV N_divisor sk_divisor 1 "other" = true := by decide +kernel
theorem w_divisor_0 : okS N_divisor sk_divisor sk_divisor 0 "one" = true := by decide +kernel
theorem w_divisor_1 : okS N_divisor sk_divisor sk_divisor 1 "other" = true := by decide +kernel
theorem g_divisor_abs : okG sk_divisor "abs" = true := by decide +kernel
set_option maxHeartbeats 4000000 in
theorem j_divisor {X : Cx} {W : WX} (C : CtxOk X W) (V : Nm X N_divisor sk_divisor sk_divisor) (z_abs : X.mg "abs" = none) : JSs X W (defBody s_divisor) b_divisor :=
  (jss_cons (js_asg V w_divisor_0 (je_abs V g_divisor_abs z_abs (ja_cons (je_var V v_divisor_0) ja_nil)))
    (jss_cons (js_asg V w_divisor_1 (je_abs V g_divisor_abs z_abs (ja_cons (je_var V v_divisor_1) ja_nil)))
    (jss_cons (js_while C (jt_gt (je_var V v_divisor_1) je_int) (jss_one (js_par C V w_divisor_0 w_divisor_1 (by decide +kernel) (ja_cons (je_var V v_divisor_1) (ja_cons (je_mod (je_var V v_divisor_0) (je_var V v_divisor_1)) ja_nil)))))
    (jss_one (js_ret (je_var V v_divisor_0))))))
theorem ok_divisor {P : Program} {w : World} {K : PySem.W.Frag} {mg : MG} {base : Heap} {f : Addr} {fd : FuncData} (F : Fun K "divisor" "divisor" s_divisor f fd) (gm : mg "divisor" = some (.ref f)) (z_abs : mg "abs" = none) :
    FnOk P w K mg base (L2.CX P w) 1 f fd ["one", "other"] (spP K mg 2 F_divisor) ∧ Callee P w K mg base "divisor" 1 2 F_divisor := by
  have G : FnOk P w K mg base (L2.CX P w) 1 f fd ["one", "other"] (spP K mg 2 F_divisor) := by
    have G0 := fn_ok (P := P) (w := w) (K := K) (mg := mg) (base := base) (N := N_divisor) (ps := ["one", "other"]) (k := 0) (g := b_divisor) F sc_divisor (fun X W hP hw hK hmg hb hr C V => by subst hP hw hK hmg hb; exact j_divisor C V z_abs)
    exact G0
  exact ⟨G, callee_of G gm F.kp (F.binds (ps := ["one", "other"]) fun _ _ _ _ _ _ us hl => match us, hl with | [_, _], _ => rfl)⟩

abbrev s_law_cell_at : Stmt := topS 3
theorem sc_law_cell_at : FnScope ["_law_script", "_law_k"] ["_law_script", "_law_k"] (defScope s_law_cell_at) := ⟨rfl, rfl, rfl, by decide +kernel, rfl, by decide +kernel, by decide +kernel⟩
noncomputable def b_law_cell_at : M Fl :=
  (sq (mIf (bnd (m2 (mVar 1) (has 0 (onSl 0 fun d => cLen [d])) (g2i (iCmp fun i j => decide (i < j)))) mB) (mRet (mIxN 0 (mVar 1))) nx)
  (mRet (ret (.int 0))))
noncomputable def F_law_cell_at : List D → Rs := runF 2 b_law_cell_at
abbrev N_law_cell_at : List Str := ["_law_script", "_law_k"]
abbrev sk_law_cell_at : Scope := defScope s_law_cell_at
theorem v_law_cell_at_0 : okV N_law_cell_at sk_law_cell_at 0 "_law_script" = true := by decide +kernel
theorem v_law_cell_at_1 : okV N_law_cell_at sk_law_cell_at 1 "_law_k" = true := by decide +kernel
theorem g_law_cell_at_len : okG sk_law_cell_at "len" = true := by decide +kernel
set_option maxHeartbeats 4000000 in
theorem j_law_cell_at {X : Cx} {W : WX} (C : CtxOk X W) (V : Nm X N_law_cell_at sk_law_cell_at sk_law_cell_at) (z_len : X.mg "len" = none) : JSs X W (defBody s_law_cell_at) b_law_cell_at :=
  (jss_cons (js_if (jt_lt (je_var V v_law_cell_at_1) (je_lenN V v_law_cell_at_0 g_law_cell_at_len z_len)) (jss_one (js_ret (je_ixN V v_law_cell_at_0 (je_var V v_law_cell_at_1)))) jss_nil)
    (jss_one (js_ret je_int)))
theorem ok_law_cell_at {P : Program} {w : World} {K : PySem.W.Frag} {mg : MG} {base : Heap} {f : Addr} {fd : FuncData} (F : Fun K "_law_cell_at" "_law_cell_at" s_law_cell_at f fd) (gm : mg "_law_cell_at" = some (.ref f)) (z_len : mg "len" = none) :
    FnOk P w K mg base (L2.CX P w) 1 f fd ["_law_script", "_law_k"] (spP K mg 2 F_law_cell_at) ∧ Callee P w K mg base "_law_cell_at" 1 2 F_law_cell_at := by
  have G : FnOk P w K mg base (L2.CX P w) 1 f fd ["_law_script", "_law_k"] (spP K mg 2 F_law_cell_at) := by
    have G0 := fn_ok (P := P) (w := w) (K := K) (mg := mg) (base := base) (N := N_law_cell_at) (ps := ["_law_script", "_law_k"]) (k := 0) (g := b_law_cell_at) F sc_law_cell_at (fun X W hP hw hK hmg hb hr C V => by subst hP hw hK hmg hb; exact j_law_cell_at C V z_len)
    exact G0
  exact ⟨G, callee_of G gm F.kp (F.binds (ps := ["_law_script", "_law_k"]) fun _ _ _ _ _ _ us hl => match us, hl with | [_, _], _ => rfl)⟩

abbrev s_law_whole : Stmt := topS 4
theorem sc_law_whole : FnScope ["_law_found"] ["_law_found"] (defScope s_law_whole) := ⟨rfl, rfl, rfl, by decide +kernel, rfl, by decide +kernel, by decide +kernel⟩
noncomputable def b_law_whole : M Fl :=
  (mRet (vAnd (bnd (mVar 0) fun d => cIsi "int" [d]) (vNot (bnd (mVar 0) fun d => cIsi "bool" [d]))))
noncomputable def F_law_whole : List D → Rs := runF 1 b_law_whole
abbrev N_law_whole : List Str := ["_law_found"]
abbrev sk_law_whole : Scope := defScope s_law_whole
theorem v_law_whole_0 : okV N_law_whole sk_law_whole 0 "_law_found" = true := by decide +kernel
theorem g_law_whole_bool : okG sk_law_whole "bool" = true := by decide +kernel
theorem g_law_whole_int : okG sk_law_whole "int" = true := by decide +kernel
theorem g_law_whole_isinstance : okG sk_law_whole "isinstance" = true := by decide +kernel
set_option maxHeartbeats 4000000 in
theorem j_law_whole {X : Cx} {W : WX} (C : CtxOk X W) (V : Nm X N_law_whole sk_law_whole sk_law_whole) (z_bool : X.mg "bool" = none) (z_int : X.mg "int" = none) (z_isinstance : X.mg "isinstance" = none) : JSs X W (defBody s_law_whole) b_law_whole :=
  (jss_one (js_ret (je_and (je_isi (T := "int") V g_law_whole_isinstance g_law_whole_int z_isinstance z_int (by decide +kernel) (je_var V v_law_whole_0)) (je_one (je_not (je_isi (T := "bool") V g_law_whole_isinstance g_law_whole_bool z_isinstance z_bool (by decide +kernel) (je_var V v_law_whole_0)))))))
theorem ok_law_whole {P : Program} {w : World} {K : PySem.W.Frag} {mg : MG} {base : Heap} {f : Addr} {fd : FuncData} (F : Fun K "_law_whole" "_law_whole" s_law_whole f fd) (gm : mg "_law_whole" = some (.ref f)) (z_bool : mg "bool" = none) (z_int : mg "int" = none) (z_isinstance : mg "isinstance" = none) :
    FnOk P w K mg base (L2.CX P w) 1 f fd ["_law_found"] (spP K mg 1 F_law_whole) ∧ Callee P w K mg base "_law_whole" 1 1 F_law_whole := by
  have G : FnOk P w K mg base (L2.CX P w) 1 f fd ["_law_found"] (spP K mg 1 F_law_whole) := by
    have G0 := fn_ok (P := P) (w := w) (K := K) (mg := mg) (base := base) (N := N_law_whole) (ps := ["_law_found"]) (k := 0) (g := b_law_whole) F sc_law_whole (fun X W hP hw hK hmg hb hr C V => by subst hP hw hK hmg hb; exact j_law_whole C V z_bool z_int z_isinstance)
    exact G0
  exact ⟨G, callee_of G gm F.kp (F.binds (ps := ["_law_found"]) fun _ _ _ _ _ _ us hl => match us, hl with | [_], _ => rfl)⟩

abbrev s_law_number : Stmt := topS 5
theorem sc_law_number : FnScope ["_law_cell", "_law_great"] ["_law_cell"] (defScope s_law_number) := ⟨rfl, rfl, rfl, by decide +kernel, rfl, by decide +kernel, by decide +kernel⟩
noncomputable def b_law_number : M Fl :=
  (sq (mAsg 1 (m2 (m2 (ret (.int 10)) (ret (.int 50)) (g2i iPow)) (m2 (ret (.int 10)) (ret (.int 50)) (g2i iPow)) (g2i iMul)))
  (sq (mIf (bnd (m2 (m2 (mVar 0) (ret (.int 4)) (g2i iMod)) (ret (.int 3)) mEq) mB) (mRet (m2 (m2 (m2 (m2 (m2 (m2 (mVar 0) (ret (.int 4)) (g2i iDiv)) (m2 (ret (.int 13)) (ret (.int 60)) (g2i iPow)) (g2i iMul)) (m2 (ret (.int 17)) (ret (.int 26)) (g2i iPow)) (g2i iMul)) (m2 (m2 (ret (.int 2)) (mVar 1) (g2i iMul)) (ret (.int 1)) (g2i iSub)) (g2i iMod)) (mVar 1) (g2i iSub)) (ret (.int 1)) mAdd)) nx)
  (sq (mIf (bnd (m2 (m2 (mVar 0) (ret (.int 4)) (g2i iMod)) (ret (.int 2)) mEq) mB) (mRet (m2 (m2 (m2 (m2 (mVar 0) (ret (.int 4)) (g2i iDiv)) (ret (.int 1000)) mAdd) (ret (.int 2001)) (g2i iMod)) (ret (.int 1000)) (g2i iSub))) nx)
  (mRet (m2 (m2 (m2 (m2 (mVar 0) (ret (.int 4)) (g2i iDiv)) (ret (.int 6)) mAdd) (ret (.int 13)) (g2i iMod)) (ret (.int 6)) (g2i iSub))))))
noncomputable def F_law_number : List D → Rs := runF 2 b_law_number
abbrev N_law_number : List Str := ["_law_cell", "_law_great"]
abbrev sk_law_number : Scope := defScope s_law_number
theorem v_law_number_0 : okV N_law_number sk_law_number 0 "_law_cell" = true := by decide +kernel
theorem v_law_number_1 : okV N_law_number sk_law_number 1 "_law_great" = true := by decide +kernel
theorem w_law_number_1 : okS N_law_number sk_law_number sk_law_number 1 "_law_great" = true := by decide +kernel
set_option maxHeartbeats 4000000 in
theorem j_law_number {X : Cx} {W : WX} (C : CtxOk X W) (V : Nm X N_law_number sk_law_number sk_law_number) : JSs X W (defBody s_law_number) b_law_number :=
  (jss_cons (js_asg V w_law_number_1 (je_mul (je_pow je_int je_int) (je_pow je_int je_int)))
    (jss_cons (js_if (jt_eq C (je_mod (je_var V v_law_number_0) je_int) je_int) (jss_one (js_ret (je_add (je_sub (je_mod (je_mul (je_mul (je_fdiv (je_var V v_law_number_0) je_int) (je_pow je_int je_int)) (je_pow je_int je_int)) (je_sub (je_mul je_int (je_var V v_law_number_1)) je_int)) (je_var V v_law_number_1)) je_int))) jss_nil)
    (jss_cons (js_if (jt_eq C (je_mod (je_var V v_law_number_0) je_int) je_int) (jss_one (js_ret (je_sub (je_mod (je_add (je_fdiv (je_var V v_law_number_0) je_int) je_int) je_int) je_int))) jss_nil)
    (jss_one (js_ret (je_sub (je_mod (je_add (je_fdiv (je_var V v_law_number_0) je_int) je_int) je_int) je_int))))))
theorem ok_law_number {P : Program} {w : World} {K : PySem.W.Frag} {mg : MG} {base : Heap} {f : Addr} {fd : FuncData} (F : Fun K "_law_number" "_law_number" s_law_number f fd) (gm : mg "_law_number" = some (.ref f)) :
    FnOk P w K mg base (L2.CX P w) 1 f fd ["_law_cell"] (spP K mg 1 F_law_number) ∧ Callee P w K mg base "_law_number" 1 1 F_law_number := by
  have G : FnOk P w K mg base (L2.CX P w) 1 f fd ["_law_cell"] (spP K mg 1 F_law_number) := by
    have G0 := fn_ok (P := P) (w := w) (K := K) (mg := mg) (base := base) (N := N_law_number) (ps := ["_law_cell"]) (k := 0) (g := b_law_number) F sc_law_number (fun X W hP hw hK hmg hb hr C V => by subst hP hw hK hmg hb; exact j_law_number C V )
    exact G0
  exact ⟨G, callee_of G gm F.kp (F.binds (ps := ["_law_cell"]) fun _ _ _ _ _ _ us hl => match us, hl with | [_], _ => rfl)⟩

abbrev s_law_common : Stmt := topS 6
theorem sc_law_common : FnScope ["_law_one", "_law_other"] ["_law_one", "_law_other"] (defScope s_law_common) := ⟨rfl, rfl, rfl, by decide +kernel, rfl, by decide +kernel, by decide +kernel⟩
noncomputable def b_law_common : M Fl :=
  (sq (mAsg 0 (bnd (aCons (mVar 0) aNil) (c1i fun i => ret (.int (iAbs i)))))
  (sq (mAsg 1 (bnd (aCons (mVar 1) aNil) (c1i fun i => ret (.int (iAbs i)))))
  (sq (mWh (bnd (m2 (mVar 1) (ret (.int 0)) (g2i (iCmp fun i j => decide (j < i)))) mB) (mPar 0 1 (aCons (mVar 1) (aCons (m2 (mVar 0) (mVar 1) (g2i iMod)) aNil))))
  (mRet (mVar 0)))))
noncomputable def F_law_common : List D → Rs := runF 2 b_law_common
abbrev N_law_common : List Str := ["_law_one", "_law_other"]
abbrev sk_law_common : Scope := defScope s_law_common
theorem v_law_common_0 : okV N_law_common sk_law_common 0 "_law_one" = true := by decide +kernel
theorem v_law_common_1 : okV N_law_common sk_law_common 1 "_law_other" = true := by decide +kernel
theorem w_law_common_0 : okS N_law_common sk_law_common sk_law_common 0 "_law_one" = true := by decide +kernel
theorem w_law_common_1 : okS N_law_common sk_law_common sk_law_common 1 "_law_other" = true := by decide +kernel
theorem g_law_common_abs : okG sk_law_common "abs" = true := by decide +kernel
set_option maxHeartbeats 4000000 in
theorem j_law_common {X : Cx} {W : WX} (C : CtxOk X W) (V : Nm X N_law_common sk_law_common sk_law_common) (z_abs : X.mg "abs" = none) : JSs X W (defBody s_law_common) b_law_common :=
  (jss_cons (js_asg V w_law_common_0 (je_abs V g_law_common_abs z_abs (ja_cons (je_var V v_law_common_0) ja_nil)))
    (jss_cons (js_asg V w_law_common_1 (je_abs V g_law_common_abs z_abs (ja_cons (je_var V v_law_common_1) ja_nil)))
    (jss_cons (js_while C (jt_gt (je_var V v_law_common_1) je_int) (jss_one (js_par C V w_law_common_0 w_law_common_1 (by decide +kernel) (ja_cons (je_var V v_law_common_1) (ja_cons (je_mod (je_var V v_law_common_0) (je_var V v_law_common_1)) ja_nil)))))
    (jss_one (js_ret (je_var V v_law_common_0))))))
theorem ok_law_common {P : Program} {w : World} {K : PySem.W.Frag} {mg : MG} {base : Heap} {f : Addr} {fd : FuncData} (F : Fun K "_law_common" "_law_common" s_law_common f fd) (gm : mg "_law_common" = some (.ref f)) (z_abs : mg "abs" = none) :
    FnOk P w K mg base (L2.CX P w) 1 f fd ["_law_one", "_law_other"] (spP K mg 2 F_law_common) ∧ Callee P w K mg base "_law_common" 1 2 F_law_common := by
  have G : FnOk P w K mg base (L2.CX P w) 1 f fd ["_law_one", "_law_other"] (spP K mg 2 F_law_common) := by
    have G0 := fn_ok (P := P) (w := w) (K := K) (mg := mg) (base := base) (N := N_law_common) (ps := ["_law_one", "_law_other"]) (k := 0) (g := b_law_common) F sc_law_common (fun X W hP hw hK hmg hb hr C V => by subst hP hw hK hmg hb; exact j_law_common C V z_abs)
    exact G0
  exact ⟨G, callee_of G gm F.kp (F.binds (ps := ["_law_one", "_law_other"]) fun _ _ _ _ _ _ us hl => match us, hl with | [_, _], _ => rfl)⟩

abbrev s_law_right : Stmt := topS 7
theorem sc_law_right : FnScope ["_law_one", "_law_other", "_law_found"] ["_law_one", "_law_other"] (defScope s_law_right) := ⟨rfl, rfl, rfl, by decide +kernel, rfl, by decide +kernel, by decide +kernel⟩
noncomputable def b_law_right : M Fl :=
  (sq (mAsg 2 (mCall (aCons (mVar 0) (aCons (mVar 1) aNil)) F_divisor))
  (sq (mIf (bOr (bNot (bnd (mCall (aCons (mVar 2) aNil) F_law_whole) mTru)) (bOr (bnd (m2 (mVar 2) (ret (.int 0)) (g2i (iCmp fun i j => decide (i < j)))) mB) (bnd (m2 (mCall (aCons (mVar 1) (aCons (mVar 0) aNil)) F_divisor) (mVar 2) mNe) mB))) (mRet (ret (.bl false))) nx)
  (sq (mIf (bnd (m2 (mVar 2) (ret (.int 0)) mEq) mB) (mRet (vAnd (m2 (mVar 0) (ret (.int 0)) mEq) (m2 (mVar 1) (ret (.int 0)) mEq))) nx)
  (sq (mIf (bOr (bnd (m2 (m2 (mVar 0) (mVar 2) (g2i iMod)) (ret (.int 0)) mNe) mB) (bnd (m2 (m2 (mVar 1) (mVar 2) (g2i iMod)) (ret (.int 0)) mNe) mB)) (mRet (ret (.bl false))) nx)
  (mRet (m2 (mCall (aCons (m2 (mVar 0) (mVar 2) (g2i iDiv)) (aCons (m2 (mVar 1) (mVar 2) (g2i iDiv)) aNil)) F_law_common) (ret (.int 1)) mEq))))))
noncomputable def F_law_right : List D → Rs := runF 3 b_law_right
abbrev N_law_right : List Str := ["_law_one", "_law_other", "_law_found"]
abbrev sk_law_right : Scope := defScope s_law_right
theorem v_law_right_0 : okV N_law_right sk_law_right 0 "_law_one" = true := by decide +kernel
theorem v_law_right_1 : okV N_law_right sk_law_right 1 "_law_other" = true := by decide +kernel
theorem v_law_right_2 : okV N_law_right sk_law_right 2 "_law_found" = true := by decide +kernel
theorem w_law_right_2 : okS N_law_right sk_law_right sk_law_right 2 "_law_found" = true := by decide +kernel
theorem g_law_right_law_common : okG sk_law_right "_law_common" = true := by decide +kernel
theorem g_law_right_law_whole : okG sk_law_right "_law_whole" = true := by decide +kernel
theorem g_law_right_divisor : okG sk_law_right "divisor" = true := by decide +kernel
set_option maxHeartbeats 4000000 in
theorem j_law_right {X : Cx} {W : WX} (C : CtxOk X W) (V : Nm X N_law_right sk_law_right sk_law_right) (c_divisor : Cal X "divisor" 2 F_divisor) (c_law_whole : Cal X "_law_whole" 1 F_law_whole) (c_law_common : Cal X "_law_common" 2 F_law_common) : JSs X W (defBody s_law_right) b_law_right :=
  (jss_cons (js_asg V w_law_right_2 (je_call C V g_law_right_divisor c_divisor (ja_cons (je_var V v_law_right_0) (ja_cons (je_var V v_law_right_1) ja_nil)) (alen_cons (alen_cons alen_nil))))
    (jss_cons (js_if (JW.jt (jw_or (jt_not (jt_tru (je_call C V g_law_right_law_whole c_law_whole (ja_cons (je_var V v_law_right_2) ja_nil) (alen_cons alen_nil)))) (jw_or (jt_lt (je_var V v_law_right_2) je_int) (jw_or1 (jt_ne C (je_call C V g_law_right_divisor c_divisor (ja_cons (je_var V v_law_right_1) (ja_cons (je_var V v_law_right_0) ja_nil)) (alen_cons (alen_cons alen_nil))) (je_var V v_law_right_2)))))) (jss_one (js_ret je_bl)) jss_nil)
    (jss_cons (js_if (jt_eq C (je_var V v_law_right_2) je_int) (jss_one (js_ret (je_and (je_eq C (je_var V v_law_right_0) je_int) (je_one (je_eq C (je_var V v_law_right_1) je_int))))) jss_nil)
    (jss_cons (js_if (JW.jt (jw_or (jt_ne C (je_mod (je_var V v_law_right_0) (je_var V v_law_right_2)) je_int) (jw_or1 (jt_ne C (je_mod (je_var V v_law_right_1) (je_var V v_law_right_2)) je_int)))) (jss_one (js_ret je_bl)) jss_nil)
    (jss_one (js_ret (je_eq C (je_call C V g_law_right_law_common c_law_common (ja_cons (je_fdiv (je_var V v_law_right_0) (je_var V v_law_right_2)) (ja_cons (je_fdiv (je_var V v_law_right_1) (je_var V v_law_right_2)) ja_nil)) (alen_cons (alen_cons alen_nil))) je_int)))))))
theorem ok_law_right {P : Program} {w : World} {K : PySem.W.Frag} {mg : MG} {base : Heap} {f : Addr} {fd : FuncData} (F : Fun K "_law_right" "_law_right" s_law_right f fd) (gm : mg "_law_right" = some (.ref f)) (c_divisor : Callee P w K mg base "divisor" 1 2 F_divisor) (c_law_whole : Callee P w K mg base "_law_whole" 1 1 F_law_whole) (c_law_common : Callee P w K mg base "_law_common" 1 2 F_law_common) :
    FnOk P w K mg base (L2.CX P w) 2 f fd ["_law_one", "_law_other"] (spP K mg 2 F_law_right) ∧ Callee P w K mg base "_law_right" 2 2 F_law_right := by
  have G : FnOk P w K mg base (L2.CX P w) 2 f fd ["_law_one", "_law_other"] (spP K mg 2 F_law_right) := by
    have G0 := fn_ok (P := P) (w := w) (K := K) (mg := mg) (base := base) (N := N_law_right) (ps := ["_law_one", "_law_other"]) (k := 1) (g := b_law_right) F sc_law_right (fun X W hP hw hK hmg hb hr C V => by subst hP hw hK hmg hb; exact j_law_right C V (c_divisor.cal hr) (c_law_whole.cal hr) (c_law_common.cal hr))
    exact G0
  exact ⟨G, callee_of G gm F.kp (F.binds (ps := ["_law_one", "_law_other"]) fun _ _ _ _ _ _ us hl => match us, hl with | [_, _], _ => rfl)⟩

abbrev s_law : Stmt := topS 8
theorem sc_law : FnScope ["_law_script", "_law_k", "_law_cell", "_law_one", "_law_other", "_law_way", "_law_by"] ["_law_script"] (defScope s_law) := ⟨rfl, rfl, rfl, by decide +kernel, rfl, by decide +kernel, by decide +kernel⟩
noncomputable def b_law : M Fl :=
  (sq (bnd (mRng1 (aCons (bnd (aCons (ret (.int 1)) (aCons (has 0 (onSl 0 fun d => cLen [d])) aNil)) (c2i fun i j => ret (.int (if j > i then j else i)))) aNil)) (forL (gN 1) (sq (mAsg 2 (mCall (aCons (mVar 0) (aCons (mVar 1) aNil)) F_law_cell_at))
  (sq (mAsg 3 (mCall (aCons (mVar 2) aNil) F_law_number))
  (sq (mAsg 4 (mCall (aCons (mCall (aCons (mVar 0) (aCons (m2 (mVar 1) (ret (.int 1)) mAdd) aNil)) F_law_cell_at) aNil) F_law_number))
  (sq (mAsg 5 (m2 (m2 (m2 (mVar 2) (ret (.int 8)) (g2i iDiv)) (mVar 1) mAdd) (ret (.int 35)) (g2i iMod)))
  (sq (mIf (bnd (m2 (m2 (mVar 5) (ret (.int 5)) (g2i iMod)) (ret (.int 2)) mEq) mB) (sq (mAsg 6 (m2 (ret (.int 1)) (m2 (m2 (mVar 2) (ret (.int 280)) (g2i iDiv)) (m2 (ret (.int 10)) (ret (.int 50)) (g2i iPow)) (g2i iMod)) mAdd))
  (sq (mAsg 3 (m2 (m2 (mVar 3) (m2 (ret (.int 10)) (ret (.int 50)) (g2i iPow)) (g2i iMod)) (mVar 6) (g2i iMul)))
  (mAsg 4 (bnd (m2 (m2 (mVar 4) (m2 (ret (.int 10)) (ret (.int 50)) (g2i iPow)) (g2i iMod)) (mVar 6) (g2i iMul)) (u1i fun i => ret (.int (-i))))))) nx)
  (sq (mIf (bnd (m2 (m2 (mVar 5) (ret (.int 7)) (g2i iMod)) (ret (.int 1)) mEq) mB) (mAsg 3 (ret (.int 0))) nx)
  (sq (mIf (bOr (bnd (m2 (mVar 5) (ret (.int 1)) mEq) mB) (bOr (bnd (m2 (mVar 5) (ret (.int 3)) mEq) mB) (bnd (m2 (mVar 5) (ret (.int 10)) mEq) mB))) (mAsg 4 (ret (.int 0))) nx)
  (mIf (bNot (bnd (mCall (aCons (mVar 3) (aCons (mVar 4) aNil)) F_law_right) mTru)) (mRet (ret (.bl false))) nx))))))))))
  (mRet (ret (.bl true))))
noncomputable def F_law : List D → Rs := runF 7 b_law
abbrev N_law : List Str := ["_law_script", "_law_k", "_law_cell", "_law_one", "_law_other", "_law_way", "_law_by"]
abbrev sk_law : Scope := defScope s_law
theorem v_law_0 : okV N_law sk_law 0 "_law_script" = true := by decide +kernel
theorem v_law_1 : okV N_law sk_law 1 "_law_k" = true := by decide +kernel
theorem v_law_2 : okV N_law sk_law 2 "_law_cell" = true := by decide +kernel
theorem v_law_3 : okV N_law sk_law 3 "_law_one" = true := by decide +kernel
theorem v_law_4 : okV N_law sk_law 4 "_law_other" = true := by decide +kernel
theorem v_law_5 : okV N_law sk_law 5 "_law_way" = true := by decide +kernel
theorem v_law_6 : okV N_law sk_law 6 "_law_by" = true := by decide +kernel
theorem w_law_1 : okS N_law sk_law sk_law 1 "_law_k" = true := by decide +kernel
theorem w_law_2 : okS N_law sk_law sk_law 2 "_law_cell" = true := by decide +kernel
theorem w_law_3 : okS N_law sk_law sk_law 3 "_law_one" = true := by decide +kernel
theorem w_law_4 : okS N_law sk_law sk_law 4 "_law_other" = true := by decide +kernel
theorem w_law_5 : okS N_law sk_law sk_law 5 "_law_way" = true := by decide +kernel
theorem w_law_6 : okS N_law sk_law sk_law 6 "_law_by" = true := by decide +kernel
theorem g_law_law_cell_at : okG sk_law "_law_cell_at" = true := by decide +kernel
theorem g_law_law_number : okG sk_law "_law_number" = true := by decide +kernel
theorem g_law_law_right : okG sk_law "_law_right" = true := by decide +kernel
theorem g_law_len : okG sk_law "len" = true := by decide +kernel
theorem g_law_max : okG sk_law "max" = true := by decide +kernel
theorem g_law_range : okG sk_law "range" = true := by decide +kernel
set_option maxHeartbeats 4000000 in
theorem j_law {X : Cx} {W : WX} (C : CtxOk X W) (V : Nm X N_law sk_law sk_law) (c_law_cell_at : Cal X "_law_cell_at" 2 F_law_cell_at) (c_law_number : Cal X "_law_number" 1 F_law_number) (c_law_right : Cal X "_law_right" 2 F_law_right) (z_len : X.mg "len" = none) (z_max : X.mg "max" = none) (z_range : X.mg "range" = none) : JSs X W (defBody s_law) b_law :=
  (jss_cons (js_for C (ji_range1 V g_law_range z_range (ja_cons (je_max2 C V g_law_max z_max (ja_cons je_int (ja_cons (je_lenN V v_law_0 g_law_len z_len) ja_nil))) ja_nil)) (jg_name V w_law_1) (jss_cons (js_asg V w_law_2 (je_call C V g_law_law_cell_at c_law_cell_at (ja_cons (je_var V v_law_0) (ja_cons (je_var V v_law_1) ja_nil)) (alen_cons (alen_cons alen_nil))))
    (jss_cons (js_asg V w_law_3 (je_call C V g_law_law_number c_law_number (ja_cons (je_var V v_law_2) ja_nil) (alen_cons alen_nil)))
    (jss_cons (js_asg V w_law_4 (je_call C V g_law_law_number c_law_number (ja_cons (je_call C V g_law_law_cell_at c_law_cell_at (ja_cons (je_var V v_law_0) (ja_cons (je_add (je_var V v_law_1) je_int) ja_nil)) (alen_cons (alen_cons alen_nil))) ja_nil) (alen_cons alen_nil)))
    (jss_cons (js_asg V w_law_5 (je_mod (je_add (je_fdiv (je_var V v_law_2) je_int) (je_var V v_law_1)) je_int))
    (jss_cons (js_if (jt_eq C (je_mod (je_var V v_law_5) je_int) je_int) (jss_cons (js_asg V w_law_6 (je_add je_int (je_mod (je_fdiv (je_var V v_law_2) je_int) (je_pow je_int je_int))))
    (jss_cons (js_asg V w_law_3 (je_mul (je_mod (je_var V v_law_3) (je_pow je_int je_int)) (je_var V v_law_6)))
    (jss_one (js_asg V w_law_4 (je_neg (je_mul (je_mod (je_var V v_law_4) (je_pow je_int je_int)) (je_var V v_law_6))))))) jss_nil)
    (jss_cons (js_if (jt_eq C (je_mod (je_var V v_law_5) je_int) je_int) (jss_one (js_asg V w_law_3 je_int)) jss_nil)
    (jss_cons (js_if (JW.jt (jw_or (jt_eq C (je_var V v_law_5) je_int) (jw_or (jt_eq C (je_var V v_law_5) je_int) (jw_or1 (jt_eq C (je_var V v_law_5) je_int))))) (jss_one (js_asg V w_law_4 je_int)) jss_nil)
    (jss_one (js_if (jt_not (jt_tru (je_call C V g_law_law_right c_law_right (ja_cons (je_var V v_law_3) (ja_cons (je_var V v_law_4) ja_nil)) (alen_cons (alen_cons alen_nil))))) (jss_one (js_ret je_bl)) jss_nil))))))))))
    (jss_one (js_ret je_bl)))
theorem ok_law {P : Program} {w : World} {K : PySem.W.Frag} {mg : MG} {base : Heap} {f : Addr} {fd : FuncData} (F : Fun K "law" "law" s_law f fd) (gm : mg "law" = some (.ref f)) (c_law_cell_at : Callee P w K mg base "_law_cell_at" 1 2 F_law_cell_at) (c_law_number : Callee P w K mg base "_law_number" 1 1 F_law_number) (c_law_right : Callee P w K mg base "_law_right" 2 2 F_law_right) (z_len : mg "len" = none) (z_max : mg "max" = none) (z_range : mg "range" = none) :
    FnOk P w K mg base (L2.CX P w) 3 f fd ["_law_script"] (spP K mg 1 F_law) ∧ Callee P w K mg base "law" 3 1 F_law := by
  have G : FnOk P w K mg base (L2.CX P w) 3 f fd ["_law_script"] (spP K mg 1 F_law) := by
    have G0 := fn_ok (P := P) (w := w) (K := K) (mg := mg) (base := base) (N := N_law) (ps := ["_law_script"]) (k := 2) (g := b_law) F sc_law (fun X W hP hw hK hmg hb hr C V => by subst hP hw hK hmg hb; exact j_law C V (c_law_cell_at.cal hr) (c_law_number.cal hr) (c_law_right.cal hr) z_len z_max z_range)
    exact G0
  exact ⟨G, callee_of G gm F.kp (F.binds (ps := ["_law_script"]) fun _ _ _ _ _ _ us hl => match us, hl with | [_], _ => rfl)⟩

set_option maxHeartbeats 4000000 in
theorem all_mk {P : Program} {w : World} {K : PySem.W.Frag} {h : Heap} {mg : MG} {fa : Addr} (hlaw : ∀ ns : List Int, ns.length ≤ 63 → (∀ z ∈ ns, Builtin.Int.intBits z ≤ 1048576) → F_law [.lst (ns.map .int)] = .ok (.bl true)) (X : K.In h) (G : h.Ns mainGlobals mg) (hfa : mg "law" = some (.ref fa))
    {f1 : Addr} {od1 an1 : Option Addr} {sl1 : Array (Option Value)} {oc1 kV1 dc1 pm1 cd1 ct1 : Value}
    (a1 : PySem.W.nsIn K mainGlobals "divisor" = some (some (.ref f1))) (l1 : K.lookup f1 = some ⟨oc1, od1, .func (PySem.W.fnOf "divisor" "divisor" (defArgs s_divisor) (defBody s_divisor) (defScope s_divisor) .none kV1 dc1 pm1 an1 cd1 ct1), sl1⟩) (c1 : PySem.W.codeIn K cd1 "divisor" = true) (k1 : PySem.W.keepIn K (.ref f1) = true)
    {f2 : Addr} {od2 an2 : Option Addr} {sl2 : Array (Option Value)} {oc2 kV2 dc2 pm2 cd2 ct2 : Value}
    (a2 : PySem.W.nsIn K mainGlobals "_law_cell_at" = some (some (.ref f2))) (l2 : K.lookup f2 = some ⟨oc2, od2, .func (PySem.W.fnOf "_law_cell_at" "_law_cell_at" (defArgs s_law_cell_at) (defBody s_law_cell_at) (defScope s_law_cell_at) .none kV2 dc2 pm2 an2 cd2 ct2), sl2⟩) (c2 : PySem.W.codeIn K cd2 "_law_cell_at" = true) (k2 : PySem.W.keepIn K (.ref f2) = true)
    {f3 : Addr} {od3 an3 : Option Addr} {sl3 : Array (Option Value)} {oc3 kV3 dc3 pm3 cd3 ct3 : Value}
    (a3 : PySem.W.nsIn K mainGlobals "_law_whole" = some (some (.ref f3))) (l3 : K.lookup f3 = some ⟨oc3, od3, .func (PySem.W.fnOf "_law_whole" "_law_whole" (defArgs s_law_whole) (defBody s_law_whole) (defScope s_law_whole) .none kV3 dc3 pm3 an3 cd3 ct3), sl3⟩) (c3 : PySem.W.codeIn K cd3 "_law_whole" = true) (k3 : PySem.W.keepIn K (.ref f3) = true)
    {f4 : Addr} {od4 an4 : Option Addr} {sl4 : Array (Option Value)} {oc4 kV4 dc4 pm4 cd4 ct4 : Value}
    (a4 : PySem.W.nsIn K mainGlobals "_law_number" = some (some (.ref f4))) (l4 : K.lookup f4 = some ⟨oc4, od4, .func (PySem.W.fnOf "_law_number" "_law_number" (defArgs s_law_number) (defBody s_law_number) (defScope s_law_number) .none kV4 dc4 pm4 an4 cd4 ct4), sl4⟩) (c4 : PySem.W.codeIn K cd4 "_law_number" = true) (k4 : PySem.W.keepIn K (.ref f4) = true)
    {f5 : Addr} {od5 an5 : Option Addr} {sl5 : Array (Option Value)} {oc5 kV5 dc5 pm5 cd5 ct5 : Value}
    (a5 : PySem.W.nsIn K mainGlobals "_law_common" = some (some (.ref f5))) (l5 : K.lookup f5 = some ⟨oc5, od5, .func (PySem.W.fnOf "_law_common" "_law_common" (defArgs s_law_common) (defBody s_law_common) (defScope s_law_common) .none kV5 dc5 pm5 an5 cd5 ct5), sl5⟩) (c5 : PySem.W.codeIn K cd5 "_law_common" = true) (k5 : PySem.W.keepIn K (.ref f5) = true)
    {f6 : Addr} {od6 an6 : Option Addr} {sl6 : Array (Option Value)} {oc6 kV6 dc6 pm6 cd6 ct6 : Value}
    (a6 : PySem.W.nsIn K mainGlobals "_law_right" = some (some (.ref f6))) (l6 : K.lookup f6 = some ⟨oc6, od6, .func (PySem.W.fnOf "_law_right" "_law_right" (defArgs s_law_right) (defBody s_law_right) (defScope s_law_right) .none kV6 dc6 pm6 an6 cd6 ct6), sl6⟩) (c6 : PySem.W.codeIn K cd6 "_law_right" = true) (k6 : PySem.W.keepIn K (.ref f6) = true)
    {f7 : Addr} {od7 an7 : Option Addr} {sl7 : Array (Option Value)} {oc7 kV7 dc7 pm7 cd7 ct7 : Value}
    (a7 : PySem.W.nsIn K mainGlobals "law" = some (some (.ref f7))) (l7 : K.lookup f7 = some ⟨oc7, od7, .func (PySem.W.fnOf "law" "law" (defArgs s_law) (defBody s_law) (defScope s_law) .none kV7 dc7 pm7 an7 cd7 ct7), sl7⟩) (c7 : PySem.W.codeIn K cd7 "law" = true) (k7 : PySem.W.keepIn K (.ref f7) = true)
    (n_abs : PySem.W.nsIn K mainGlobals "abs" = some none)
    (n_bool : PySem.W.nsIn K mainGlobals "bool" = some none)
    (n_int : PySem.W.nsIn K mainGlobals "int" = some none)
    (n_isinstance : PySem.W.nsIn K mainGlobals "isinstance" = some none)
    (n_len : PySem.W.nsIn K mainGlobals "len" = some none)
    (n_max : PySem.W.nsIn K mainGlobals "max" = some none)
    (n_range : PySem.W.nsIn K mainGlobals "range" = some none)
    : ∃ fd : FuncData, (∀ (s : Shared) (v : Value), BindsTo s fd ⟨[v], []⟩ [("_law_script", v)]) ∧ ∀ base : Heap, K.In base → base.Ns mainGlobals mg → FnOk P w K mg base (L2.CX P w) 3 fa fd ["_law_script"] (spL K) := by
  have e := hfa.symm.trans (PySem.W.mg_of X G a7)
  cases e
  have z_abs : mg "abs" = none := PySem.W.mg_none_of X G n_abs
  have z_bool : mg "bool" = none := PySem.W.mg_none_of X G n_bool
  have z_int : mg "int" = none := PySem.W.mg_none_of X G n_int
  have z_isinstance : mg "isinstance" = none := PySem.W.mg_none_of X G n_isinstance
  have z_len : mg "len" = none := PySem.W.mg_none_of X G n_len
  have z_max : mg "max" = none := PySem.W.mg_none_of X G n_max
  have z_range : mg "range" = none := PySem.W.mg_none_of X G n_range
  refine ⟨PySem.W.fnOf "law" "law" (defArgs s_law) (defBody s_law) (defScope s_law) .none kV7 dc7 pm7 an7 cd7 ct7, fun s v => .of_eq rfl, fun base hB hG => ?_⟩
  all_goals skip
  have c_divisor := (ok_divisor (P := P) (w := w) (base := base) (fun_mk (st := s_divisor) l1 c1 k1) (PySem.W.mg_of X G a1) z_abs).2
  have c_law_cell_at := (ok_law_cell_at (P := P) (w := w) (base := base) (fun_mk (st := s_law_cell_at) l2 c2 k2) (PySem.W.mg_of X G a2) z_len).2
  have c_law_whole := (ok_law_whole (P := P) (w := w) (base := base) (fun_mk (st := s_law_whole) l3 c3 k3) (PySem.W.mg_of X G a3) z_bool z_int z_isinstance).2
  have c_law_number := (ok_law_number (P := P) (w := w) (base := base) (fun_mk (st := s_law_number) l4 c4 k4) (PySem.W.mg_of X G a4) ).2
  have c_law_common := (ok_law_common (P := P) (w := w) (base := base) (fun_mk (st := s_law_common) l5 c5 k5) (PySem.W.mg_of X G a5) z_abs).2
  have c_law_right := (ok_law_right (P := P) (w := w) (base := base) (fun_mk (st := s_law_right) l6 c6 k6) (PySem.W.mg_of X G a6) c_divisor c_law_whole c_law_common).2
  exact law_of (ok_law (P := P) (w := w) (base := base) (fun_mk (st := s_law) l7 c7 k7) (PySem.W.mg_of X G a7) c_law_cell_at c_law_number c_law_right z_len z_max z_range).1 hlaw
end G_crystalwords_k11_divisor

local macro_rules | `(tactic| walk_at "dl") => `(tactic| simp -implicitDefEqProofs only [DL.a_ret, DL.a_stk, DL.a_bnd, DL.a_rok, DL.a_rexc, DL.a_rst, DL.a_rite, DL.a_var, DL.a_oval, DL.a_oown, DL.a_m2, DL.a_g2i, DL.a_add, DL.a_mAdd, DL.a_sub, DL.a_mul, DL.a_div, DL.a_mod, DL.a_pow, DL.a_shr, DL.a_cmp, DL.a_eq, DL.a_ne, DL.eqOk_ii, DL.deq_ii, DL.a_u1i, DL.a_mB, DL.a_truB, DL.a_truI, DL.a_truN, DL.a_truL, DL.a_truT, DL.a_bAnd, DL.a_bOr, DL.a_bNot, DL.a_vAnd, DL.a_vOr, DL.a_vNot, DL.a_if, DL.a_ite, DL.a_aNil, DL.a_aCons, DL.a_tup, DL.a_lst, DL.a_c1i, DL.a_c2i, DL.a_cIntI, DL.a_cIntB, DL.a_lenL, DL.a_lenT, DL.a_lenS, DL.a_nx, DL.a_sq, DL.a_snx, DL.a_srt, DL.a_sbk, DL.a_sct, DL.a_sexc, DL.a_sst, DL.a_site, DL.a_asg, DL.a_mRet, DL.a_drop, DL.a_aug, DL.a_oA, DL.a_gN, DL.a_gsNil, DL.a_gsCons, DL.a_gTpT, DL.a_gTpL, DL.a_asgT, DL.a_par, DL.a_again, DL.a_gnx, DL.a_gct, DL.a_gbk, DL.a_grt, DL.a_gexc, DL.a_gite, DL.a_rng1, DL.a_rng2, DL.a_raise, DL.a_call, DL.a_rsok, DL.a_rsexc, DL.a_rsst, DL.a_has, DL.a_hval, DL.a_hown, DL.a_onSl, DL.a_slD, DL.a_oDv, DL.a_oDo, DL.a_oDs, DL.a_ixN, DL.a_mIxI, DL.a_dIxL, DL.a_dIxT, DL.a_oM, DL.a_isiI, DL.a_isiB, DL.a_kM, DL.k_ii, DL.k_ib, DL.k_bi, DL.k_bb, DL.a_runF, DL.a_rFrt, DL.a_rFnx, DL.a_rFexc, DL.a_rFite, DL.envOf, List.map_cons, List.map_nil, List.length_cons, List.length_nil, List.cons_append, List.nil_append, List.getElem?_cons_zero, List.getElem?_cons_succ, List.set_cons_zero, List.set_cons_succ, List.replicate, if_true, if_false, Bool.false_eq_true, reduceIte, List.length_map, Nat.reduceAdd, Nat.reduceSub, Nat.zero_add, decide_eq_true_eq, Bool.not_eq_true', decide_eq_false_iff_not, Bool.not_true, Bool.not_false])
namespace DL
open PySem PySem.Spec PyProof.Rows L2 Evl
theorem gcd_wh : ∀ (k m n : Nat), n < k → whN gcdC gcdB k [.val (.int m), .val (.int n)] = .ok .nx [.val (.int (Nat.gcd m n : Nat)), .val (.int 0)]
  | 0, m, n, h => by omega
  | k + 1, m, n, h => by
    unfold whN
    walk_at "dl"
    by_cases hn : n = 0
    · subst hn
      rw [if_neg (by omega), Nat.gcd_zero_right]; rfl
    · rw [if_pos (by omega), if_pos (by omega)]
      rw [fmod_nat, gcd_wh k n (m % n) (by have := Nat.mod_lt m (show 0 < n by omega); omega), Nat.gcd_comm n, ← Nat.gcd_rec n m, Nat.gcd_comm]
theorem gcd_mWh (m n : Nat) : mWh gcdC gcdB [.val (.int m), .val (.int n)] = .ok .nx [.val (.int (Nat.gcd m n : Nat)), .val (.int 0)] := mWh_of (gcd_wh (n + 1) m n (Nat.lt_succ_self n)) (fun z => nomatch z)
end DL
namespace G_crystalwords_k11_divisor
open PySem PySem.Spec PyProof.Rows L2 DL
def gd (a b : Int) : Int := (Nat.gcd a.natAbs b.natAbs : Nat)
theorem e_divisor (a b : Int) : F_divisor [.int a, .int b] = .ok (.int (gd a b)) := by
  unfold F_divisor b_divisor
  walk_at "dl"
  rw [iAbs_eq, iAbs_eq, gcd_mWh]
  walk_at "dl"
  rfl
theorem e_common (a b : Int) : F_law_common [.int a, .int b] = .ok (.int (gd a b)) := by
  unfold F_law_common b_law_common
  walk_at "dl"
  rw [iAbs_eq, iAbs_eq, gcd_mWh]
  walk_at "dl"
  rfl
theorem e_whole (a : Int) : F_law_whole [.int a] = .ok (.bl true) := by
  unfold F_law_whole b_law_whole
  walk_at "dl"
def cellOf (ns : List Int) (k : Int) : Int := if k < ns.length then ns.getD k.toNat 0 else 0
theorem e_cell (ns : List Int) (k : Int) (h : 0 ≤ k) : F_law_cell_at [.lst (ns.map .int), .int k] = .ok (.int (cellOf ns k)) := by
  unfold F_law_cell_at b_law_cell_at cellOf
  walk_at "dl"
  split
  · rename_i h1
    rw [atI_ints h h1]
    walk_at "dl"
  · rfl
theorem cell_bits {ns : List Int} (hb : ∀ z ∈ ns, Builtin.Int.intBits z ≤ 1048576) (k : Int) : ib (cellOf ns k) ≤ 1048576 := by
  unfold cellOf
  split
  · rw [List.getD_eq_getElem?_getD]
    cases q : ns[k.toNat]? with
    | none => exact (by decide : ib 0 ≤ 1048576)
    | some z => exact hb z (List.mem_of_getElem? q)
  · exact (by decide : ib 0 ≤ 1048576)
theorem pw1 : PowOk 10 50 := by decide
theorem pw2 : PowOk 13 60 := by decide
theorem pw3 : PowOk 17 26 := by decide
theorem bg1 : ib ((10 : Int) ^ Int.toNat 50) ≤ 201 := intBits_pow_le (m := 4) (by decide) 50
theorem bg2 : ib ((13 : Int) ^ Int.toNat 60) ≤ 241 := intBits_pow_le (m := 4) (by decide) 60
theorem bg3 : ib ((17 : Int) ^ Int.toNat 26) ≤ 131 := intBits_pow_le (m := 5) (by decide) 26
theorem dk4 : DivOk 4 := divOk_of (m := 3) (by decide) (by decide) (by decide)
theorem e_number (c : Int) (hc : ib c ≤ 1048576) : ∃ v, F_law_number [.int c] = .ok (.int v) ∧ ib v ≤ 410 := by
  unfold F_law_number b_law_number
  walk_at "dl"
  have hd : ib (c.fdiv 4) ≤ 1048576 := intBits_fdiv_le hc
  have hg := intBits_mul_le bg1 bg1
  have h2 : ib (2 * ((10 : Int) ^ Int.toNat 50 * 10 ^ Int.toNat 50)) ≤ 404 := intBits_mul_le (m := 2) (by decide) hg
  have hne : (2 * ((10 : Int) ^ Int.toNat 50 * 10 ^ Int.toNat 50) - 1) ≠ 0 := by omega
  have m1 : IntMulOk ((10 : Int) ^ Int.toNat 50) (10 ^ Int.toNat 50) := IntMulOk.of_le bg1 bg1 (by decide)
  have m2 : IntMulOk (c.fdiv 4) (13 ^ Int.toNat 60) := IntMulOk.of_le hd bg2 (by decide)
  have m3 : IntMulOk (c.fdiv 4 * 13 ^ Int.toNat 60) (17 ^ Int.toNat 26) := IntMulOk.of_le (intBits_mul_le hd bg2) bg3 (by decide)
  have m4 : IntMulOk 2 ((10 : Int) ^ Int.toNat 50 * 10 ^ Int.toNat 50) := IntMulOk.of_le (m := 2) (by decide) hg (by decide)
  have n4 : (4 : Int) ≠ 0 := by decide
  have n5 : (2001 : Int) ≠ 0 := by decide
  have n6 : (13 : Int) ≠ 0 := by decide
  simp only [pw1, pw2, pw3, m1, m2, m3, m4, hne, dk4, n4, n5, n6, if_true, ne_eq, not_false_eq_true]
  split
  · refine ⟨_, rfl, ?_⟩
    have h3 : ib (2 * ((10 : Int) ^ Int.toNat 50 * 10 ^ Int.toNat 50) - 1) ≤ 405 := intBits_sub_le h2 (n := 1) (by decide)
    have h4 := bits_fmod_by (a := c.fdiv 4 * 13 ^ Int.toNat 60 * 17 ^ Int.toNat 26) hne h3
    exact Nat.le_trans (intBits_add_le (intBits_sub_le h4 hg) (n := 1) (by decide)) (by decide)
  · split
    · refine ⟨_, rfl, ?_⟩
      exact Nat.le_trans (intBits_sub_le (bits_fmod_by (n := 11) (by decide) (by decide)) (n := 11) (by decide)) (by decide)
    · refine ⟨_, rfl, ?_⟩
      exact Nat.le_trans (intBits_sub_le (bits_fmod_by (n := 4) (by decide) (by decide)) (n := 4) (by decide)) (by decide)
theorem gd_nonneg (a b : Int) : 0 ≤ gd a b := by unfold gd; omega
theorem gd_comm (a b : Int) : gd b a = gd a b := by unfold gd; rw [Nat.gcd_comm]
theorem gd_zero {a b : Int} (h : gd a b = 0) : a = 0 ∧ b = 0 := by
  unfold gd at h
  have h' : Nat.gcd a.natAbs b.natAbs = 0 := by omega
  have := Nat.gcd_eq_zero_iff.mp h'
  omega
theorem gd_l (a b : Int) : gd a b ∣ a := by unfold gd; exact Int.ofNat_dvd_left.mpr (Nat.gcd_dvd_left _ _)
theorem gd_r (a b : Int) : gd a b ∣ b := by unfold gd; exact Int.ofNat_dvd_left.mpr (Nat.gcd_dvd_right _ _)
theorem fmod_dvd {a b : Int} (h : b ∣ a) (h0 : 0 ≤ b) : a.fmod b = 0 := by rw [Int.fmod_eq_emod_of_nonneg _ h0]; exact Int.emod_eq_zero_of_dvd h
theorem gd_bits {a b : Int} {m : Nat} (ha : ib a ≤ m) (hb : ib b ≤ m) : ib (gd a b) ≤ m := by
  by_cases h : a = 0
  · refine intBits_le_of_natAbs (y := b) ?_ hb
    unfold gd; subst h; simp
  · refine intBits_le_of_natAbs (y := a) ?_ ha
    have := Nat.le_of_dvd (by omega) (Nat.gcd_dvd_left a.natAbs b.natAbs)
    unfold gd; omega
theorem gd_div {a b : Int} (h : gd a b ≠ 0) : gd (a.fdiv (gd a b)) (b.fdiv (gd a b)) = 1 := by
  have h0 := gd_nonneg a b
  have hp : 0 < Nat.gcd a.natAbs b.natAbs := by unfold gd at h; omega
  rw [Int.fdiv_eq_ediv_of_nonneg _ h0, Int.fdiv_eq_ediv_of_nonneg _ h0]
  have e : ∀ x y : Int, gd x y = (Nat.gcd x.natAbs y.natAbs : Nat) := fun _ _ => rfl
  rw [e (a / gd a b), Int.natAbs_ediv_of_dvd (gd_l a b), Int.natAbs_ediv_of_dvd (gd_r a b), e a b]
  rw [Int.natAbs_natCast, Nat.gcd_div (Nat.gcd_dvd_left _ _) (Nat.gcd_dvd_right _ _), Nat.div_self hp]
  rfl
theorem e_right (a b : Int) (ha : ib a ≤ 8000) (hb : ib b ≤ 8000) : F_law_right [.int a, .int b] = .ok (.bl true) := by
  unfold F_law_right b_law_right
  walk_at "dl"
  rw [e_divisor]
  walk_at "dl"
  rw [e_whole]
  walk_at "dl"
  have h0 := gd_nonneg a b
  rw [if_neg (by omega), e_divisor, gd_comm a b]
  walk_at "dl"
  rw [if_neg (by simp)]
  split
  · rename_i h
    obtain ⟨rfl, rfl⟩ := gd_zero h
    rfl
  · rename_i h
    rw [if_neg (by rw [fmod_dvd (gd_l a b) h0]; simp), if_neg (by rw [fmod_dvd (gd_r a b) h0]; simp), if_pos (divOk_of h (gd_bits ha hb) (by decide)), if_pos (divOk_of h (gd_bits ha hb) (by decide)), e_common, gd_div h]
    walk_at "dl"
    simp
theorem bg5 : ib ((10 : Int) ^ Int.toNat 50) ≤ 201 := bg1
/-- the loop's turn -/
noncomputable abbrev BODY : M Fl := (sq (mAsg 2 (mCall (aCons (mVar 0) (aCons (mVar 1) aNil)) F_law_cell_at))
  (sq (mAsg 3 (mCall (aCons (mVar 2) aNil) F_law_number))
  (sq (mAsg 4 (mCall (aCons (mCall (aCons (mVar 0) (aCons (m2 (mVar 1) (ret (.int 1)) mAdd) aNil)) F_law_cell_at) aNil) F_law_number))
  (sq (mAsg 5 (m2 (m2 (m2 (mVar 2) (ret (.int 8)) (g2i iDiv)) (mVar 1) mAdd) (ret (.int 35)) (g2i iMod)))
  (sq (mIf (bnd (m2 (m2 (mVar 5) (ret (.int 5)) (g2i iMod)) (ret (.int 2)) mEq) mB) (sq (mAsg 6 (m2 (ret (.int 1)) (m2 (m2 (mVar 2) (ret (.int 280)) (g2i iDiv)) (m2 (ret (.int 10)) (ret (.int 50)) (g2i iPow)) (g2i iMod)) mAdd))
  (sq (mAsg 3 (m2 (m2 (mVar 3) (m2 (ret (.int 10)) (ret (.int 50)) (g2i iPow)) (g2i iMod)) (mVar 6) (g2i iMul)))
  (mAsg 4 (bnd (m2 (m2 (mVar 4) (m2 (ret (.int 10)) (ret (.int 50)) (g2i iPow)) (g2i iMod)) (mVar 6) (g2i iMul)) (u1i fun i => ret (.int (-i))))))) nx)
  (sq (mIf (bnd (m2 (m2 (mVar 5) (ret (.int 7)) (g2i iMod)) (ret (.int 1)) mEq) mB) (mAsg 3 (ret (.int 0))) nx)
  (sq (mIf (bOr (bnd (m2 (mVar 5) (ret (.int 1)) mEq) mB) (bOr (bnd (m2 (mVar 5) (ret (.int 3)) mEq) mB) (bnd (m2 (mVar 5) (ret (.int 10)) mEq) mB))) (mAsg 4 (ret (.int 0))) nx)
  (mIf (bNot (bnd (mCall (aCons (mVar 3) (aCons (mVar 4) aNil)) F_law_right) mTru)) (mRet (ret (.bl false))) nx))))))))
theorem turn (ns : List Int) (hb : ∀ z ∈ ns, Builtin.Int.intBits z ≤ 1048576) (k : Nat) (x1 x2 x3 x4 x5 x6 : Sl) : ∃ y1 y2 y3 y4 y5 y6, BODY
    [Sl.val (D.lst (List.map D.int ns)), Sl.val (D.int (0 + (k : Int))), x2, x3, x4, x5, x6] = .ok .nx [Sl.val (D.lst (List.map D.int ns)), y1, y2, y3, y4, y5, y6] := by
  obtain ⟨v, hv, bv⟩ := e_number (cellOf ns (0 + (k : Int))) (cell_bits hb _)
  obtain ⟨u, hu, bu⟩ := e_number (cellOf ns (0 + (k : Int) + 1)) (cell_bits hb _)
  have key : ∀ p q : Int, ib p ≤ 8000 → ib q ≤ 8000 → F_law_right [.int p, .int q] = .ok (.bl true) := e_right
  walk_at "dl"
  rw [e_cell _ _ (by omega)]
  walk_at "dl"
  rw [hv]
  walk_at "dl"
  rw [e_cell _ _ (by omega)]
  walk_at "dl"
  rw [hu]
  walk_at "dl"
  have hne : (10 : Int) ^ Int.toNat 50 ≠ 0 := by decide
  have bb := bits_fmod_by (a := (cellOf ns (0 + (k : Int))).fdiv 280) hne bg1
  have bw : ib (1 + ((cellOf ns (0 + (k : Int))).fdiv 280).fmod (10 ^ Int.toNat 50)) ≤ 202 := intBits_add_le (m := 1) (by decide) bb
  have bv2 : ib (v.fmod (10 ^ Int.toNat 50)) ≤ 201 := bits_fmod_by hne bg1
  have bu2 : ib (u.fmod (10 ^ Int.toNat 50)) ≤ 201 := bits_fmod_by hne bg1
  have m1 := IntMulOk.of_le bv2 bw (by decide)
  have m2 := IntMulOk.of_le bu2 bw (by decide)
  have b1 : ib (v.fmod (10 ^ Int.toNat 50) * (1 + ((cellOf ns (0 + (k : Int))).fdiv 280).fmod (10 ^ Int.toNat 50))) ≤ 8000 := Nat.le_trans (intBits_mul_le bv2 bw) (by decide)
  have b2 : ib (-(u.fmod (10 ^ Int.toNat 50) * (1 + ((cellOf ns (0 + (k : Int))).fdiv 280).fmod (10 ^ Int.toNat 50)))) ≤ 8000 := intBits_neg_le (Nat.le_trans (intBits_mul_le bu2 bw) (by decide))
  have b0 : ib 0 ≤ 8000 := by decide
  have bv' : ib v ≤ 8000 := Nat.le_trans bv (by decide)
  have bu' : ib u ≤ 8000 := Nat.le_trans bu (by decide)
  have d8 : DivOk 8 := divOk_of (m := 4) (by decide) (by decide) (by decide)
  have d280 : DivOk 280 := divOk_of (m := 9) (by decide) (by decide) (by decide)
  have n35 : (35 : Int) ≠ 0 := by decide
  have n5 : (5 : Int) ≠ 0 := by decide
  have n7 : (7 : Int) ≠ 0 := by decide
  simp only [d8, d280, n35, n5, n7, pw1, hne, m1, m2, if_true, ne_eq, not_false_eq_true, key _ _ b0 b0, key _ _ b1 b0, key _ _ b0 b2, key _ _ b1 b2, key _ _ bv' b0, key _ _ b0 bu', key _ _ bv' bu']
  walk_at "dl"
  repeat' split
  all_goals exact ⟨_, _, _, _, _, _, rfl⟩
theorem law_true (ns : List Int) (hl : ns.length ≤ 63) (hb : ∀ z ∈ ns, Builtin.Int.intBits z ≤ 1048576) : F_law [.lst (ns.map .int)] = .ok (.bl true) := by
  unfold F_law b_law
  walk_at "dl"
  rw [if_pos (by unfold rOk; split <;> omega)]
  have H : ∀ d ∈ (rngD 0 (if (ns.length : Int) > 1 then (ns.length : Int) else 1).toNat), ∀ e, (∃ x1 x2 x3 x4 x5 x6, e = [Sl.val (D.lst (List.map D.int ns)), x1, x2, x3, x4, x5, x6]) → ∃ e1 e2, gN 1 d e = .ok () e1 ∧ (BODY e1 = .ok .nx e2 ∨ BODY e1 = .ok .ct e2) ∧ (∃ x1 x2 x3 x4 x5 x6, e2 = [Sl.val (D.lst (List.map D.int ns)), x1, x2, x3, x4, x5, x6]) := by
    rintro d hd e ⟨x1, x2, x3, x4, x5, x6, rfl⟩
    obtain ⟨k, hk, rfl⟩ := mem_rngD hd
    obtain ⟨y1, y2, y3, y4, y5, y6, h⟩ := turn ns hb k x1 x2 x3 x4 x5 x6
    exact ⟨_, _, rfl, .inl h, y1, y2, y3, y4, y5, y6, rfl⟩
  obtain ⟨e', h1, x1, x2, x3, x4, x5, x6, rfl⟩ := forL_inv _ _ H _ ⟨Sl.no, Sl.no, Sl.no, Sl.no, Sl.no, Sl.no, rfl⟩
  rw [h1]
  rfl
end G_crystalwords_k11_divisor

open PySem PySem.W PyProof.Rows
set_option maxHeartbeats 0 in
theorem PySem.Challenge.cw_crystalwords_k11_divisor_holds : PySem.Challenge.rw_crystalwords_k11_divisor.Holds := by
  w_on; o_law; k_head; (case hw => w_witness2)
  k_fill
  refine L2.walk_ofB (l := PySem.Challenge.rw_crystalwords_k11_divisor) (n := 63) (k := 3) (x := "_law_script") (CX := fun w => L2.CX (PySem.Challenge.rw_crystalwords_k11_divisor).prog w) (sp := fun w => DL.spL _) rfl (by decide) rfl ⟨rfl, by decide, by decide⟩ (fun w h Y => PySem.W.kIn_of Y) ?F (fun _ _ a ns hl hb _ hS => ⟨a, ns, rfl, hS, hl, hb, fun _ => rfl⟩) (fun w => DL.cx_end (PySem.Challenge.rw_crystalwords_k11_divisor).prog w)
  case F =>
    intro w mg fa h KX G hmg
    refine' G_crystalwords_k11_divisor.all_mk G_crystalwords_k11_divisor.law_true KX G hmg ?a1 ?l1 ?c1 ?k1 ?a2 ?l2 ?c2 ?k2 ?a3 ?l3 ?c3 ?k3 ?a4 ?l4 ?c4 ?k4 ?a5 ?l5 ?c5 ?k5 ?a6 ?l6 ?c6 ?k6 ?a7 ?l7 ?c7 ?k7 ?n_abs ?n_bool ?n_int ?n_isinstance ?n_len ?n_max ?n_range
    (case a1 => k_is); (case l1 => k_is); (case c1 => k_is); (case k1 => k_is); (case a2 => k_is); (case l2 => k_is); (case c2 => k_is); (case k2 => k_is); (case a3 => k_is); (case l3 => k_is); (case c3 => k_is); (case k3 => k_is); (case a4 => k_is); (case l4 => k_is); (case c4 => k_is); (case k4 => k_is); (case a5 => k_is); (case l5 => k_is); (case c5 => k_is); (case k5 => k_is); (case a6 => k_is); (case l6 => k_is); (case c6 => k_is); (case k6 => k_is); (case a7 => k_is); (case l7 => k_is); (case c7 => k_is); (case k7 => k_is); (case n_abs => k_is); (case n_bool => k_is); (case n_int => k_is); (case n_isinstance => k_is); (case n_len => k_is); (case n_max => k_is); (case n_range => k_is)
