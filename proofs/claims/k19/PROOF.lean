import PyProof.Rows.All
import Wide.All
import OpenK.AllK
import Wide.FinOn
import HandS.ForExc
import HandS.ForMost
import HandS.Wide
import HandS.Evl
import HandS.TryOnly
import HandS.SuiteRaise
import HandS.IsInst
import HandS.ExcCtx
import HandS.Zip
import HandS.EndBits
import HandS.ExcIs
import HandS.HotCalls
import HandS.TupAny
import HandS.Text
import HandS.List
import HandS.Iter
import HandS.Deep
import KE.IntBitsLaws
import PyProof.FitsInt
import KE.GoesEnum
import KE.GoesZip
import HandS.Codes
import PySem.Challenge.RW_crystalwords_k19_places_written
set_option Elab.async false
set_option linter.all false
set_option maxRecDepth 100000
/-! DLa: data, what bears it, slots, the state's relation. -/
namespace DL
open PySem PySem.Spec PyProof.Rows L2 Evl

/-- frozen data -/
inductive D where
  | non | bl (b : Bool) | int (i : Int) | str (x : Str) | tup (l : List D) | lst (l : List D)
  | obj (c : Str) (ns : List Str) (vs : List D)
  | opq (a : Addr)
instance : Inhabited D := ⟨.non⟩

mutual
def D.toPy : D → PyData
  | .non => .none | .bl b => .bool b | .int i => .int i | .str x => .str x
  | .tup l => .tuple (D.toPys l) | .lst l => .list (D.toPys l) | .obj _ _ _ => .dict [] | .opq _ => .dict []
def D.toPys : List D → List PyData
  | [] => [] | d :: r => d.toPy :: D.toPys r
end
theorem toPys_map : ∀ l : List D, D.toPys l = l.map D.toPy
  | [] => rfl
  | d :: r => by rw [D.toPys, toPys_map r]; rfl
def deq (d e : D) : Bool := PyData.eqv d.toPy e.toPy
def shp (d : D) : Bool := SeqAt.shaped d.toPy

abbrev MG := Str → Option Value
section
variable (K : PySem.W.Frag) (mg : MG)
mutual
/-- in H the value v is the data d -/
inductive Rp (H : Hp) : V → D → Prop
  | non : Rp H .non .non
  | bl (b : Bool) : Rp H (.bl b) (.bl b)
  | int (i : Int) : Rp H (.int i) (.int i)
  | str (x : Str) : Rp H (.str x) (.str x)
  | tup {a : Addr} {xs : List V} {ds : List D} : SqT K H a xs → Rps H xs ds → Rp H (.ref a) (.tup ds)
  | lst {a : Addr} {xs : List V} {ds : List D} : SqL K H a xs → Rps H xs ds → Rp H (.ref a) (.lst ds)
  | obj {a C dx : Addr} {c : Str} {ns : List Str} {xs : List V} {ds : List D} : H a = some (.ins C dx (ns.zip xs)) → mg c = some (.ref C) → ns.length = xs.length → Rps H xs ds → Rp H (.ref a) (.obj c ns ds)
  | opq (a : Addr) : Rp H (.ref a) (.opq a)
inductive Rps (H : Hp) : List V → List D → Prop
  | nil : Rps H [] []
  | cons {v : V} {vs : List V} {d : D} {ds : List D} : Rp H v d → Rps H vs ds → Rps H (v :: vs) (d :: ds)
end
end
variable {K : PySem.W.Frag} {mg : MG} {H H' H1 H2 Hf Hf' : Hp} {v : V} {d : D} {xs vs : List V} {ds : List D} {σ σ' : L2.St}

mutual
theorem Rp.mono (e : Ex H H') : ∀ {v : V} {d : D}, Rp K mg H v d → Rp K mg H' v d
  | _, _, .non => .non
  | _, _, .bl b => .bl b
  | _, _, .int i => .int i
  | _, _, .str x => .str x
  | _, _, .tup h r => .tup (ex_t e h) (Rps.mono e r)
  | _, _, .lst h r => .lst (ex_l e h) (Rps.mono e r)
  | _, _, .obj h c l r => .obj (e _ _ h) c l (Rps.mono e r)
  | _, _, .opq a => .opq a
theorem Rps.mono (e : Ex H H') : ∀ {v : List V} {d : List D}, Rps K mg H v d → Rps K mg H' v d
  | _, _, .nil => .nil
  | _, _, .cons h r => .cons (Rp.mono e h) (Rps.mono e r)
end
theorem Rps.length : ∀ {xs : List V} {ds : List D}, Rps K mg H xs ds → xs.length = ds.length
  | _, _, .nil => rfl
  | _, _, .cons _ r => congrArg (· + 1) (Rps.length r)
theorem Rps.get : ∀ {xs : List V} {ds : List D} {i : Nat} {d : D}, Rps K mg H xs ds → ds[i]? = some d → ∃ x, xs[i]? = some x ∧ Rp K mg H x d
  | _, _, _, _, .nil, e => by simp at e
  | _, _, 0, _, .cons r _, e => by simp at e; subst e; exact ⟨_, rfl, r⟩
  | _, _, i + 1, d, .cons _ t, e => by
    obtain ⟨u, h1, h2⟩ := Rps.get (i := i) (d := d) t (by simpa using e)
    exact ⟨u, by simpa using h1, h2⟩
theorem Rps.getV : ∀ {xs : List V} {ds : List D} {i : Nat} {x : V}, Rps K mg H xs ds → xs[i]? = some x → ∃ d, ds[i]? = some d ∧ Rp K mg H x d
  | _, _, _, _, .nil, e => by simp at e
  | _, _, 0, _, .cons r _, e => by simp at e; subst e; exact ⟨_, rfl, r⟩
  | _, _, i + 1, d, .cons _ t, e => by
    obtain ⟨u, h1, h2⟩ := Rps.getV (i := i) (x := d) t (by simpa using e)
    exact ⟨u, by simpa using h1, h2⟩
theorem Rps.append : ∀ {xs ys : List V} {ds es : List D}, Rps K mg H xs ds → Rps K mg H ys es → Rps K mg H (xs ++ ys) (ds ++ es)
  | _, _, _, _, .nil, s => s
  | _, _, _, _, .cons r t, s => .cons r (Rps.append t s)
theorem Rps.set {x : V} {d : D} (r : Rp K mg H x d) : ∀ {xs : List V} {ds : List D} (i : Nat), Rps K mg H xs ds → Rps K mg H (xs.set i x) (ds.set i d)
  | _, _, _, .nil => .nil
  | _, _, 0, .cons _ t => .cons r t
  | _, _, i + 1, .cons q t => .cons q (Rps.set r i t)
theorem Rps.take : ∀ {xs : List V} {ds : List D} (n : Nat), Rps K mg H xs ds → Rps K mg H (xs.take n) (ds.take n)
  | _, _, 0, _ => .nil
  | _, _, _ + 1, .nil => .nil
  | _, _, n + 1, .cons r t => .cons r (Rps.take n t)
theorem Rps.drop : ∀ {xs : List V} {ds : List D} (n : Nat), Rps K mg H xs ds → Rps K mg H (xs.drop n) (ds.drop n)
  | _, _, 0, r => r
  | _, _, _ + 1, .nil => .nil
  | _, _, n + 1, .cons _ t => Rps.drop n t
theorem Rps.reverse : ∀ {xs : List V} {ds : List D}, Rps K mg H xs ds → Rps K mg H xs.reverse ds.reverse
  | _, _, .nil => .nil
  | _, _, .cons r t => by
    rw [List.reverse_cons, List.reverse_cons]
    exact (Rps.reverse t).append (.cons r .nil)
theorem Rps.dropLast {xs : List V} {ds : List D} (h : Rps K mg H xs ds) : Rps K mg H xs.dropLast ds.dropLast := by
  rw [List.dropLast_eq_take, List.dropLast_eq_take, h.length]
  exact h.take _
theorem Rps.eraseIdx : ∀ {xs : List V} {ds : List D} (i : Nat), Rps K mg H xs ds → Rps K mg H (xs.eraseIdx i) (ds.eraseIdx i)
  | _, _, _, .nil => .nil
  | _, _, 0, .cons _ t => t
  | _, _, i + 1, .cons q t => .cons q (Rps.eraseIdx i t)

mutual
/-- plain data: no object within -/
def D.py : D → Bool
  | .obj _ _ _ => false
  | .opq _ => false
  | .tup l => D.pys l
  | .lst l => D.pys l
  | _ => true
def D.pys : List D → Bool
  | [] => true
  | d :: r => d.py && D.pys r
end
mutual
theorem Rp.dp : ∀ {v : V} {d : D}, Rp K mg H v d → d.py = true → Dp K H v d.toPy
  | _, _, .non, _ => .non
  | _, _, .bl b, _ => .bl b
  | _, _, .int i, _ => .int i
  | _, _, .str x, _ => .str x
  | _, _, .tup h r, p => .tup h (Rps.dps r (by rw [D.py] at p; exact p))
  | _, _, .lst h r, p => .lst h (Rps.dps r (by rw [D.py] at p; exact p))
  | _, _, .obj _ _ _ _, p => by rw [D.py] at p; cases p
  | _, _, .opq _, p => by rw [D.py] at p; cases p
theorem Rps.dps : ∀ {v : List V} {d : List D}, Rps K mg H v d → D.pys d = true → DpAll K H v (D.toPys d)
  | _, _, .nil, _ => .nil
  | _, _, .cons h r, p => by
    rw [D.pys, Bool.and_eq_true] at p
    exact .cons (Rp.dp h p.1) (Rps.dps r p.2)
end
theorem Rp.int_inv {v : V} {i : Int} (h : Rp K mg H v (.int i)) : v = .int i := by cases h; rfl
theorem Rp.bl_inv {v : V} {i : Bool} (h : Rp K mg H v (.bl i)) : v = .bl i := by cases h; rfl
theorem Rp.str_inv {v : V} {i : Str} (h : Rp K mg H v (.str i)) : v = .str i := by cases h; rfl
theorem Rp.non_inv {v : V} (h : Rp K mg H v .non) : v = .non := by cases h; rfl
theorem Rp.non_iff {v : V} {d : D} (h : Rp K mg H v d) : decide (v = .non) = (match d with | .non => true | _ => false) := by
  cases h <;> simp
theorem Rps.ints : ∀ {vs : List V} {ns : List Int}, Rps K mg H vs (ns.map D.int) → vs = ns.map V.int
  | _, [], .nil => rfl
  | _, n :: ns, .cons h r => by
    rw [h.int_inv, Rps.ints r]; rfl

/-! ### what a slot holds -/
/-- what an owned object holds -/
inductive OD where
  | lst (l : List D)
  | dK (ks : List Key) (ds : List D)
  | dT (ks : List (List Key)) (ds : List D)
inductive Sl where
  | no
  | val (d : D)
  | own (k : Option Nat) (o : OD)
abbrev DEnv := List Sl

/-- the object o is what od says, its parts frozen -/
def OdR (K : PySem.W.Frag) (mg : MG) (Hf : Hp) : OD → HO → Prop
  | .lst l, o => ∃ vs, o = .lst vs ∧ Rps K mg Hf vs l
  | .dK ks l, o => ∃ vs, o = .dK (ks.zip vs) ∧ ks.length = l.length ∧ Rps K mg Hf vs l
  | .dT ks l, o => ∃ vs, o = .dT (ks.zip vs) ∧ ks.length = l.length ∧ Rps K mg Hf vs l
theorem OdR.mono (e : Ex Hf Hf') {od : OD} {o : HO} (h : OdR K mg Hf od o) : OdR K mg Hf' od o := by
  cases od with
  | lst l => obtain ⟨vs, a, b⟩ := h; exact ⟨vs, a, b.mono e⟩
  | dK ks l => obtain ⟨vs, a, c, b⟩ := h; exact ⟨vs, a, c, b.mono e⟩
  | dT ks l => obtain ⟨vs, a, c, b⟩ := h; exact ⟨vs, a, c, b.mono e⟩

/-- ps: the addresses of what the caller handed in to be changed; g: what stands in the heap and is not ours -/
structure Fg where
  ps : List Addr
  g : Hp
def SlR (K : PySem.W.Frag) (mg : MG) (ps : List Addr) (Hf H : Hp) (x : Option V) : Sl → Prop
  | .no => True
  | .val d => ∃ v, x = some v ∧ Rp K mg Hf v d
  | .own k od => ∃ p o, x = some (.ref p) ∧ Hf p = none ∧ H p = some o ∧ OdR K mg Hf od o ∧ ∀ j, k = some j → ps[j]? = some p

structure SR (K : PySem.W.Frag) (mg : MG) (ps : Fg) (Hf H : Hp) (σ : L2.St) (e : DEnv) : Prop where
  ex : Ex Hf H
  len : σ.length = e.length
  sl : ∀ (i : Nat) (s : Sl), e[i]? = some s → ∃ x, σ[i]? = some x ∧ SlR K mg ps.ps Hf H x s
  ap : ∀ (i j : Nat) (k k' : Option Nat) (l l' : OD) (p : Addr), i ≠ j → e[i]? = some (.own k l) → e[j]? = some (.own k' l') → σ[i]? = some (some (.ref p)) → σ[j]? = some (some (.ref p)) → False
  fg : ∀ (a : Addr) (o : HO), ps.g a = some o → H a = some o ∧ Hf a = none ∧ ∀ (i : Nat) (k : Option Nat) (l : OD), e[i]? = some (.own k l) → σ[i]? = some (some (.ref a)) → False

variable {ps : Fg} {e e' : DEnv}
theorem SR.val (S : SR K mg ps Hf H σ e) {i : Nat} {d : D} (h : e[i]? = some (.val d)) : ∃ v, σ[i]? = some (some v) ∧ Rp K mg Hf v d := by
  obtain ⟨x, hx, v, rfl, r⟩ := S.sl i _ h
  exact ⟨v, hx, r⟩
theorem SR.own (S : SR K mg ps Hf H σ e) {i : Nat} {k : Option Nat} {od : OD} (h : e[i]? = some (.own k od)) :
    ∃ p o, σ[i]? = some (some (.ref p)) ∧ Hf p = none ∧ H p = some o ∧ OdR K mg Hf od o ∧ ∀ j, k = some j → ps.ps[j]? = some p := by
  obtain ⟨x, hx, p, o, rfl, r⟩ := S.sl i _ h
  exact ⟨p, o, hx, r⟩
/-- a new object, frozen at once -/
theorem SR.froze (S : SR K mg ps Hf H σ e) {p : Addr} {o : HO} (n : H p = none) : SR K mg ps (upd Hf p o) (upd H p o) σ e := by
  have ne : ∀ q u, H q = some u → q ≠ p := fun q u h => ne_of_none h n
  have nf : Hf p = none := fresh_back S.ex n
  refine ⟨fun a u h => ?_, S.len, fun i s h => ?_, S.ap, fun a u h => ?_⟩
  · by_cases hp : a = p
    · subst hp; rw [upd_same] at h ⊢; exact h
    · rw [upd_ne hp] at h ⊢; exact S.ex a u h
  · obtain ⟨x, hx, r⟩ := S.sl i s h
    refine ⟨x, hx, ?_⟩
    cases s with
    | no => trivial
    | val d => obtain ⟨v, a, b⟩ := r; exact ⟨v, a, b.mono (Ex.new nf)⟩
    | own k od =>
      obtain ⟨q, u, a, b, c, f, g⟩ := r
      exact ⟨q, u, a, by rw [upd_ne (ne q u c)]; exact b, by rw [upd_ne (ne q u c)]; exact c, f.mono (Ex.new nf), g⟩
  · obtain ⟨h1, h2, h3⟩ := S.fg a u h
    exact ⟨by rw [upd_ne (ne a u h1)]; exact h1, by rw [upd_ne (ne a u h1)]; exact h2, h3⟩
/-- a new object that nobody names -/
theorem SR.laid (S : SR K mg ps Hf H σ e) {p : Addr} {o : HO} (n : H p = none) : SR K mg ps Hf (upd H p o) σ e := by
  have ne : ∀ q u, H q = some u → q ≠ p := fun q u h => ne_of_none h n
  refine ⟨S.ex.trans (Ex.new n), S.len, fun i s h => ?_, S.ap, fun a u h => ?_⟩
  · obtain ⟨x, hx, r⟩ := S.sl i s h
    refine ⟨x, hx, ?_⟩
    cases s with
    | no => trivial
    | val d => exact r
    | own k od =>
      obtain ⟨q, u, a, b, c, f, g⟩ := r
      exact ⟨q, u, a, b, by rw [upd_ne (ne q u c)]; exact c, f, g⟩
  · obtain ⟨h1, h2, h3⟩ := S.fg a u h
    exact ⟨by rw [upd_ne (ne a u h1)]; exact h1, h2, h3⟩
/-- an object of H that nobody owns is frozen -/
theorem SR.freezes (S : SR K mg ps Hf H σ e) {p : Addr} {o : HO} (h : H p = some o) (nf : Hf p = none) (ng : ps.g p = none)
    (no : ∀ (i : Nat) (k : Option Nat) (l : OD), e[i]? = some (.own k l) → σ[i]? = some (some (.ref p)) → False) : SR K mg ps (upd Hf p o) H σ e := by
  refine ⟨fun a u q => ?_, S.len, fun i s q => ?_, S.ap, fun a u q => ?_⟩
  · by_cases hp : a = p
    · subst hp; rw [upd_same] at q; rw [h]; exact q
    · rw [upd_ne hp] at q; exact S.ex a u q
  · obtain ⟨x, hx, r⟩ := S.sl i s q
    refine ⟨x, hx, ?_⟩
    cases s with
    | no => trivial
    | val d => obtain ⟨v, a, b⟩ := r; exact ⟨v, a, b.mono (Ex.new nf)⟩
    | own k od =>
      obtain ⟨r0, u, a, b, c, f, g⟩ := r
      have hn : r0 ≠ p := fun z => by subst z; exact no i k od q (by rw [hx, a])
      exact ⟨r0, u, a, by rw [upd_ne hn]; exact b, c, f.mono (Ex.new nf), g⟩
  · obtain ⟨h1, h2, h3⟩ := S.fg a u q
    have hn : a ≠ p := fun z => by subst z; rw [ng] at q; cases q
    exact ⟨h1, by rw [upd_ne hn]; exact h2, h3⟩
theorem Ex.upd2 {Hf : Hp} {p : Addr} {o : HO} (n : Hf p = none) : Ex Hf (upd Hf p o) := Ex.new n
/-- a slot is given a value -/
theorem SR.put (S : SR K mg ps Hf H σ e) (i : Nat) {v : V} {d : D} (r : Rp K mg Hf v d) : SR K mg ps Hf H (σ.set i (some v)) (e.set i (.val d)) := by
  refine ⟨S.ex, by simp [S.len], fun j s h => ?_, fun a b k k' l l' p hab h1 h2 h3 h4 => ?_, fun a u h => ?_⟩
  · by_cases hj : i = j
    · subst hj
      have hl : i < e.length := by
        have := (List.getElem?_eq_some_iff.mp h).1; simpa using this
      rw [List.getElem?_set_self hl] at h
      cases h
      exact ⟨some v, List.getElem?_set_self (by rw [S.len]; exact hl), v, rfl, r⟩
    · rw [List.getElem?_set_ne hj] at h ⊢
      exact S.sl j s h
  · by_cases ha : i = a
    · subst ha
      have hl : i < e.length := by
        have := (List.getElem?_eq_some_iff.mp h1).1; simpa using this
      rw [List.getElem?_set_self hl] at h1; cases h1
    · by_cases hb : i = b
      · subst hb
        have hl : i < e.length := by
          have := (List.getElem?_eq_some_iff.mp h2).1; simpa using this
        rw [List.getElem?_set_self hl] at h2; cases h2
      · rw [List.getElem?_set_ne ha] at h1 h3
        rw [List.getElem?_set_ne hb] at h2 h4
        exact S.ap a b k k' l l' p hab h1 h2 h3 h4
  · obtain ⟨h1, h2, h3⟩ := S.fg a u h
    refine ⟨h1, h2, fun j k l q1 q2 => ?_⟩
    by_cases hj : i = j
    · subst hj
      have hl : i < e.length := by
        have := (List.getElem?_eq_some_iff.mp q1).1; simpa using this
      rw [List.getElem?_set_self hl] at q1; cases q1
    · rw [List.getElem?_set_ne hj] at q1 q2
      exact h3 j k l q1 q2
/-- a slot is forgotten -/
theorem SR.drop (S : SR K mg ps Hf H σ e) (i : Nat) (x : Option V) : SR K mg ps Hf H (σ.set i x) (e.set i .no) := by
  refine ⟨S.ex, by simp [S.len], fun j s h => ?_, fun a b k k' l l' p hab h1 h2 h3 h4 => ?_, fun a u h => ?_⟩
  · by_cases hj : i = j
    · subst hj
      have hl : i < e.length := by
        have := (List.getElem?_eq_some_iff.mp h).1; simpa using this
      rw [List.getElem?_set_self hl] at h
      cases h
      exact ⟨x, List.getElem?_set_self (by rw [S.len]; exact hl), trivial⟩
    · rw [List.getElem?_set_ne hj] at h ⊢
      exact S.sl j s h
  · by_cases ha : i = a
    · subst ha
      have hl : i < e.length := by
        have := (List.getElem?_eq_some_iff.mp h1).1; simpa using this
      rw [List.getElem?_set_self hl] at h1; cases h1
    · by_cases hb : i = b
      · subst hb
        have hl : i < e.length := by
          have := (List.getElem?_eq_some_iff.mp h2).1; simpa using this
        rw [List.getElem?_set_self hl] at h2; cases h2
      · rw [List.getElem?_set_ne ha] at h1 h3
        rw [List.getElem?_set_ne hb] at h2 h4
        exact S.ap a b k k' l l' p hab h1 h2 h3 h4
  · obtain ⟨h1, h2, h3⟩ := S.fg a u h
    refine ⟨h1, h2, fun j k l q1 q2 => ?_⟩
    by_cases hj : i = j
    · subst hj
      have hl : i < e.length := by
        have := (List.getElem?_eq_some_iff.mp q1).1; simpa using this
      rw [List.getElem?_set_self hl] at q1; cases q1
    · rw [List.getElem?_set_ne hj] at q1 q2
      exact h3 j k l q1 q2
/-- a slot is given a new object of its own, which H bears and nobody else names -/
theorem SR.take (S : SR K mg ps Hf H σ e) (i : Nat) {p : Addr} {o : HO} {od : OD} (hp : H p = some o) (nf : Hf p = none) (ng : ps.g p = none) (r : OdR K mg Hf od o)
    (no : ∀ (i : Nat) (k : Option Nat) (l : OD), e[i]? = some (.own k l) → σ[i]? = some (some (.ref p)) → False) : SR K mg ps Hf H (σ.set i (some (.ref p))) (e.set i (.own none od)) := by
  refine ⟨S.ex, by simp [S.len], fun j s h => ?_, fun a b k k' l l' q hab h1 h2 h3 h4 => ?_, fun a u h => ?_⟩
  · by_cases hj : i = j
    · subst hj
      have hl : i < e.length := by
        have := (List.getElem?_eq_some_iff.mp h).1; simpa using this
      rw [List.getElem?_set_self hl] at h
      cases h
      exact ⟨some (.ref p), List.getElem?_set_self (by rw [S.len]; exact hl), p, o, rfl, nf, hp, r, fun _ z => by cases z⟩
    · rw [List.getElem?_set_ne hj] at h ⊢
      exact S.sl j s h
  · have hlen : ∀ {a : Nat} {s : Sl}, (e.set i (.own none od))[a]? = some s → a < e.length := fun h => by
      have := (List.getElem?_eq_some_iff.mp h).1; simpa using this
    by_cases ha : i = a
    · subst ha
      have hb : i ≠ b := hab
      rw [List.getElem?_set_self (by rw [S.len]; exact hlen h1)] at h3
      rw [List.getElem?_set_ne hb] at h2 h4
      cases h3
      exact no b k' l' h2 h4
    · rw [List.getElem?_set_ne ha] at h1 h3
      by_cases hb : i = b
      · subst hb
        rw [List.getElem?_set_self (by rw [S.len]; exact hlen h2)] at h4
        cases h4
        exact no a k l h1 h3
      · rw [List.getElem?_set_ne hb] at h2 h4
        exact S.ap a b k k' l l' q hab h1 h2 h3 h4
  · obtain ⟨h1, h2, h3⟩ := S.fg a u h
    refine ⟨h1, h2, fun j k l q1 q2 => ?_⟩
    by_cases hj : i = j
    · subst hj
      have hl : i < e.length := by
        have := (List.getElem?_eq_some_iff.mp q1).1; simpa using this
      rw [List.getElem?_set_self (by rw [S.len]; exact hl)] at q2
      cases q2
      rw [ng] at h; cases h
    · rw [List.getElem?_set_ne hj] at q1 q2
      exact h3 j k l q1 q2
/-- what a slot owns is changed -/
theorem SR.turn (S : SR K mg ps Hf H σ e) {i : Nat} {p : Addr} {o' : HO} {k : Option Nat} {od od' : OD} (h : e[i]? = some (.own k od)) (hp : σ[i]? = some (some (.ref p))) (r : OdR K mg Hf od' o') :
    SR K mg ps Hf (upd H p o') σ (e.set i (.own k od')) := by
  obtain ⟨p', o, hp', nf, hh, _, hk⟩ := S.own h
  rw [hp] at hp'; cases hp'
  have hl : i < e.length := (List.getElem?_eq_some_iff.mp h).1
  have back : ∀ {a : Nat} {k2 l2}, (e.set i (.own k od'))[a]? = some (.own k2 l2) → ∃ k3 l3, e[a]? = some (.own k3 l3) := fun {a k2 l2} q => by
    by_cases ha : i = a
    · subst ha; exact ⟨_, _, h⟩
    · rw [List.getElem?_set_ne ha] at q; exact ⟨_, _, q⟩
  refine ⟨fun a u q => ?_, by simp [S.len], fun j s q => ?_, fun a b k1 k' l l' q hab h1 h2 h3 h4 => ?_, fun a u q => ?_⟩
  · rw [upd_ne (ne_of_none q nf)]; exact S.ex a u q
  · by_cases hj : i = j
    · subst hj
      rw [List.getElem?_set_self hl] at q
      cases q
      exact ⟨_, hp, p, o', rfl, nf, upd_same, r, hk⟩
    · rw [List.getElem?_set_ne hj] at q
      obtain ⟨x, hx, z⟩ := S.sl j s q
      refine ⟨x, hx, ?_⟩
      cases s with
      | no => trivial
      | val d => exact z
      | own k2 od2 =>
        obtain ⟨q2, u, a, b, c, f, g⟩ := z
        have hn : q2 ≠ p := fun z => by subst z; exact S.ap i j _ _ _ _ q2 hj h q hp (by rw [hx, a])
        exact ⟨q2, u, a, b, by rw [upd_ne hn]; exact c, f, g⟩
  · obtain ⟨_, _, g1⟩ := back h1
    obtain ⟨_, _, g2⟩ := back h2
    exact S.ap a b _ _ _ _ q hab g1 g2 h3 h4
  · obtain ⟨h1, h2, h3⟩ := S.fg a u q
    refine ⟨by rw [upd_ne (fun z => by subst z; exact h3 i _ _ h hp)]; exact h1, h2, fun j k2 l2 q1 q2 => ?_⟩
    obtain ⟨_, _, g1⟩ := back q1
    exact h3 j _ _ g1 q2
/-- an own slot is frozen -/
def frz1 (e : DEnv) (i : Nat) : DEnv := match e[i]? with
  | some (.own none (.lst l)) => e.set i (.val (.lst l))
  | _ => e
theorem SR.frz (S : SR K mg ps Hf H σ e) (i : Nat) : ∃ Hf', Ex Hf Hf' ∧ SR K mg ps Hf' H σ (frz1 e i) := by
  unfold frz1
  split
  · rename_i l h
    obtain ⟨p, o, hp, nf, hh, ⟨vs, rfl, r⟩, hk⟩ := S.own h
    have hl : i < e.length := (List.getElem?_eq_some_iff.mp h).1
    have S1 := S.drop i (some (.ref p))
    rw [show σ.set i (some (.ref p)) = σ from by
      apply List.ext_getElem?
      intro j
      by_cases hj : i = j
      · subst hj; rw [List.getElem?_set_self (by rw [S.len]; exact hl), hp]
      · rw [List.getElem?_set_ne hj]] at S1
    have ng : ps.g p = none := by
      cases q : ps.g p with
      | none => rfl
      | some u => exact ((S.fg p u q).2.2 i _ _ h hp).elim
    have S2 := S1.freezes hh nf ng (fun j k l2 q1 q2 => by
      by_cases hj : i = j
      · subst hj; rw [List.getElem?_set_self hl] at q1; cases q1
      · rw [List.getElem?_set_ne hj] at q1
        exact S.ap i j _ _ _ _ p hj h q1 hp q2)
    refine ⟨upd Hf p (.lst vs), Ex.new nf, ?_⟩
    have S3 := S2.put i (v := .ref p) (d := .lst l) (.lst (.inl (.inl upd_same)) (r.mono (Ex.new nf)))
    rw [List.set_set] at S3
    rw [show σ.set i (some (.ref p)) = σ from by
      apply List.ext_getElem?
      intro j
      by_cases hj : i = j
      · subst hj; rw [List.getElem?_set_self (by rw [S.len]; exact hl), hp]
      · rw [List.getElem?_set_ne hj]] at S3
    exact S3
  · exact ⟨Hf, Ex.refl Hf, S⟩
end DL

/-! DLb: what an expression, a test, a statement is worth over data; the core's rules. -/
namespace DL
open PySem PySem.Spec PyProof.Rows L2 Evl

inductive Res (α : Type) where
  | ok (a : α) (e : DEnv) | exc (x : Str) (p : Option D) (e : DEnv) | stuck
abbrev M (α : Type) := DEnv → Res α
def ret {α : Type} (a : α) : M α := fun e => .ok a e
def stk {α : Type} : M α := fun _ => .stuck
def bnd {α β : Type} (m : M α) (f : α → M β) : M β := fun e => match m e with
  | .ok a e' => f a e' | .exc x p e' => .exc x p e' | .stuck => .stuck
@[simp] theorem ret_ap {α : Type} (a : α) (e : DEnv) : ret a e = .ok a e := rfl
@[simp] theorem stk_ap {α : Type} (e : DEnv) : (stk e : Res α) = .stuck := rfl
theorem bnd_ok {α β : Type} {m : M α} {f : α → M β} {e e' : DEnv} {a : α} (h : m e = .ok a e') : bnd m f e = f a e' := by unfold bnd; rw [h]
theorem bnd_exc {α β : Type} {m : M α} {f : α → M β} {e e' : DEnv} {x : Str} {p : Option D} (h : m e = .exc x p e') : bnd m f e = .exc x p e' := by unfold bnd; rw [h]

def IsExc (K : PySem.W.Frag) (mg : MG) (Hf : Hp) (x : Str) (p : Option D) (cls : Value) (dd : Option Addr) : Prop :=
  mg x = some cls ∧ match p with
    | none => dd = none
    | some d => ∃ a v, dd = some a ∧ Hf a = some (.xd [("apart", v)]) ∧ Rp K mg Hf v d

section
variable (K : PySem.W.Frag) (mg : MG) (ps : Fg) (W : WX)
/-- what is wanted behind an expression: P of what it is worth -/
def EG {α : Type} (Hf : Hp) (σ : L2.St) (P : α → Hp → Hp → Prop) : Res α → Prop
  | .ok a e' => ∀ Hf' H', Ex Hf Hf' → SR K mg ps Hf' H' σ e' → P a Hf' H'
  | .exc x p e' => ∀ cls dd Hf' H', Ex Hf Hf' → SR K mg ps Hf' H' σ e' → IsExc K mg Hf' x p cls dd → W cls dd σ H'
  | .stuck => False
def Pd (Q : VK) : D → Hp → Hp → Prop := fun d Hf H => ∀ v, Rp K mg Hf v d → Q v H
def Pds (Q : List V → Hp → Prop) : List D → Hp → Hp → Prop := fun d Hf H => ∀ v, Rps K mg Hf v d → Q v H
def Pb (Q : Bool → Hp → Prop) : Bool → Hp → Hp → Prop := fun b _ H => Q b H
end
section
variable {K : PySem.W.Frag} {mg : MG} {ps : Fg} {W : WX} {Hf Hf' H H' : Hp} {σ : L2.St} {α β : Type} {e : DEnv}
theorem EG.mono {P : α → Hp → Hp → Prop} (x : Ex Hf Hf') : ∀ {r : Res α}, EG K mg ps W Hf σ P r → EG K mg ps W Hf' σ P r
  | .ok _ _, h => fun Hf2 H2 y s => h Hf2 H2 (x.trans y) s
  | .exc _ _ _, h => fun c d Hf2 H2 y s z => h c d Hf2 H2 (x.trans y) s z
  | .stuck, h => h
theorem EG.imp {P P' : α → Hp → Hp → Prop} : ∀ {r : Res α}, EG K mg ps W Hf σ P r → (∀ a Hf' H' , Ex Hf Hf' → P a Hf' H' → P' a Hf' H') → EG K mg ps W Hf σ P' r
  | .ok a _, h, i => fun Hf2 H2 y s => i a Hf2 H2 y (h Hf2 H2 y s)
  | .exc _ _ _, h, _ => h
  | .stuck, h, _ => h
/-- first m, then f -/
theorem EG.bnd {P : β → Hp → Hp → Prop} {P1 : α → Hp → Hp → Prop} {m : M α} {f : α → M β} (h : EG K mg ps W Hf σ P (bnd m f e))
    (hk : ∀ a e' Hf' H', Ex Hf Hf' → SR K mg ps Hf' H' σ e' → EG K mg ps W Hf' σ P (f a e') → P1 a Hf' H') : EG K mg ps W Hf σ P1 (m e) := by
  unfold DL.bnd at h
  cases q : m e with
  | ok a e' =>
    rw [q] at h
    exact fun Hf2 H2 y s => hk a e' Hf2 H2 y s (EG.mono y h)
  | exc x p e' => rw [q] at h; exact h
  | stuck => rw [q] at h; exact h
theorem EG.ret {P : α → Hp → Hp → Prop} {a : α} (h : EG K mg ps W Hf σ P (ret a e)) (S : SR K mg ps Hf H σ e) : P a Hf H := h Hf H (Ex.refl Hf) S
end

/-! ### the judgements -/
section
variable (X : Cx) (W : WX)
structure JE (e : Expr) (f : M D) : Prop where
  ex : ∃ t, PE X e t ∧ ∀ (ps : Fg) (σ : L2.St) (Hf H : Hp) (env : DEnv), SR X.K X.mg ps Hf H σ env → ∀ Q : VK, EG X.K X.mg ps W Hf σ (Pd X.K X.mg Q) (f env) → t σ H Q
structure JT (e : Expr) (f : M Bool) : Prop where
  ex : ∃ t, PT X e t ∧ ∀ (ps : Fg) (σ : L2.St) (Hf H : Hp) (env : DEnv), SR X.K X.mg ps Hf H σ env → ∀ Q : Bool → Hp → Prop, EG X.K X.mg ps W Hf σ (Pb Q) (f env) → t σ H Q
structure JW (e : Expr) (f : M Bool) : Prop where
  ex : ∃ t, PW X e t ∧ ∀ (ps : Fg) (σ : L2.St) (Hf H : Hp) (env : DEnv), SR X.K X.mg ps Hf H σ env → ∀ Q : Bool → Hp → Prop, EG X.K X.mg ps W Hf σ (Pb Q) (f env) → t σ H Q
structure JA (es : List Expr) (f : M (List D)) : Prop where
  ex : ∃ t, PA X es t ∧ ∀ (ps : Fg) (σ : L2.St) (Hf H : Hp) (env : DEnv), SR X.K X.mg ps Hf H σ env → ∀ Q : List V → Hp → Prop, EG X.K X.mg ps W Hf σ (Pds X.K X.mg Q) (f env) → t σ H Q
end
/-- what the context bears -/
structure CtxOk (X : Cx) (W : WX) : Prop where
  calm : X.calm = true
  hu : X.A.units + 64 < cLine
  po : PassesOwn (model X.prog X.w) X.A X.env X.xe
  tk : L2N.Takes X W


/-! ### names -/
/-- which names the code's block has -/
structure Nm (X : Cx) (N : List Str) (sc raw : Scope) : Prop where
  hN : X.N = N
  hs : X.env.scope = sc
  nd : N.Nodup
  kind : sc.kind = .function
  fn : ∀ x, raw.names.lookup x = some .cell → X.fn x = true
def okV (N : List Str) (sc : Scope) (i : Nat) (x : Str) : Bool := decide (N[i]? = some x) && (decide (sc.names.lookup x = some .local) || decide (sc.names.lookup x = some .cell) || decide (sc.names.lookup x = some .free)) && !(x == ("__debug__" : Str)) && !(x == ("__classdict__" : Str))
def okS (N : List Str) (sc raw : Scope) (i : Nat) (x : Str) : Bool := decide (N[i]? = some x) && (decide (sc.names.lookup x = some .local) || (decide (sc.names.lookup x = some .cell) && decide (raw.names.lookup x = some .cell)))
def okG (sc : Scope) (x : Str) : Bool := decide (sc.names.lookup x = some .globalImplicit) && !(x == ("__debug__" : Str)) && !decide (x = ("__name__" : Str))
section
variable {X : Cx} {N : List Str} {sc raw : Scope} {i : Nat} {x : Str}
theorem Nm.v (V : Nm X N sc raw) (h : okV N sc i x = true) : X.N[i]? = some x ∧ Vis X.env.scope x ∧ (x == ("__debug__" : Str)) = false ∧ (x == ("__classdict__" : Str)) = false := by
  unfold okV at h
  simp only [Bool.and_eq_true, Bool.or_eq_true, decide_eq_true_eq, Bool.not_eq_true'] at h
  obtain ⟨⟨⟨h1, h2⟩, h3⟩, h4⟩ := h
  refine ⟨by rw [V.hN]; exact h1, ?_, h3, h4⟩
  unfold Vis
  rw [V.hs]
  rcases h2 with (h2 | h2) | h2
  · exact .inl h2
  · exact .inr (.inl h2)
  · exact .inr (.inr h2)
theorem Nm.s (V : Nm X N sc raw) (h : okS N sc raw i x = true) : X.N[i]? = some x ∧ L2.Loc X.env.scope x ∧ (X.fn x = true ∨ X.env.scope.names.lookup x = some .local) := by
  unfold okS at h
  simp only [Bool.and_eq_true, Bool.or_eq_true, decide_eq_true_eq] at h
  obtain ⟨h1, h2⟩ := h
  refine ⟨by rw [V.hN]; exact h1, ?_⟩
  unfold L2.Loc
  rw [V.hs]
  rcases h2 with h2 | ⟨h2, h3⟩
  · exact ⟨.inl h2, .inr h2⟩
  · exact ⟨.inr h2, .inl (V.fn x h3)⟩
theorem Nm.g (V : Nm X N sc raw) (h : okG sc x = true) : Gl X x ∧ (x == ("__debug__" : Str)) = false ∧ x ≠ "__name__" := by
  unfold okG at h
  simp only [Bool.and_eq_true, decide_eq_true_eq, Bool.not_eq_true', decide_eq_false_iff_not] at h
  obtain ⟨⟨h1, h2⟩, h3⟩ := h
  refine ⟨?_, h2, h3⟩
  unfold Gl Env.kindOf
  rw [V.hs]; exact h1
theorem Nm.nodup (V : Nm X N sc raw) : X.N.Nodup := by rw [V.hN]; exact V.nd
end
section
variable {X : Cx} {W : WX} {a b c e : Expr} {es : List Expr} {fa fb fc : M D} {pos : Pos} {N : List Str} {sc raw : Scope}
/-! ### constants -/
def mVar (i : Nat) : M D := fun env => match env[i]? with
  | some (.val d) => .ok d env
  | some (.own none (.lst l)) => .ok (.lst l) (frz1 env i)
  | _ => .stuck
theorem je_var (V : Nm X N sc raw) {i : Nat} {x : Str} (hv : okV N sc i x = true) : JE X W (.Name x pos) (mVar i) := by
  obtain ⟨hN, hv, hd, hcd⟩ := V.v hv
  refine ⟨⟨_, pe_var hN hv hd hcd, fun ps σ Hf H env S Q h => ?_⟩⟩
  unfold mVar at h
  split at h
  · rename_i d q
    obtain ⟨v, h1, h2⟩ := S.val q
    exact ⟨v, h1, h Hf H (Ex.refl Hf) S v h2⟩
  · rename_i l q
    obtain ⟨Hf', ex, S'⟩ := S.frz i
    have hl : i < env.length := (List.getElem?_eq_some_iff.mp q).1
    have q' : (frz1 env i)[i]? = some (.val (.lst l)) := by
      unfold frz1; rw [q]; exact List.getElem?_set_self hl
    obtain ⟨v, h1, h2⟩ := S'.val q'
    exact ⟨v, h1, h Hf' H ex S' v h2⟩
  · exact h.elim
theorem je_c {d : D} {v : V} {t : TE} (h : PE X e (tC v)) (r : ∀ K mg H, Rp K mg H v d) : JE X W e (ret d) :=
  ⟨⟨_, h, fun ps σ Hf H env S Q q => q.ret S v (r _ _ _)⟩⟩
theorem je_int {i : Int} {j : Nat} : JE X W (.Constant (.int i) j pos) (ret (.int i)) := ⟨⟨_, pe_int, fun ps σ Hf H env S Q q => q.ret S _ (.int i)⟩⟩
theorem je_bl {i : Bool} {j : Nat} : JE X W (.Constant (.bool i) j pos) (ret (.bl i)) := ⟨⟨_, pe_bl, fun ps σ Hf H env S Q q => q.ret S _ (.bl i)⟩⟩
theorem je_str {i : Str} {j : Nat} : JE X W (.Constant (.str i) j pos) (ret (.str i)) := ⟨⟨_, pe_str, fun ps σ Hf H env S Q q => q.ret S _ (.str i)⟩⟩
theorem je_non {j : Nat} : JE X W (.Constant .none j pos) (ret .non) := ⟨⟨_, pe_non, fun ps σ Hf H env S Q q => q.ret S _ .non⟩⟩

/-! ### operators -/
/-- a two-place operation's rule is worth g -/
def RJ (X : Cx) (W : WX) (r : R2) (g : D → D → M D) : Prop := ∀ (ps : Fg) (σ : L2.St) (Hf H : Hp) (env : DEnv) (x y : V) (dx dy : D) (Q : VK), SR X.K X.mg ps Hf H σ env → Rp X.K X.mg Hf x dx → Rp X.K X.mg Hf y dy →
  EG X.K X.mg ps W Hf σ (Pd X.K X.mg Q) (g dx dy env) → r x y H Q
def RU1 (X : Cx) (W : WX) (r : V → Hp → VK → Prop) (g : D → M D) : Prop := ∀ (ps : Fg) (σ : L2.St) (Hf H : Hp) (env : DEnv) (x : V) (dx : D) (Q : VK), SR X.K X.mg ps Hf H σ env → Rp X.K X.mg Hf x dx →
  EG X.K X.mg ps W Hf σ (Pd X.K X.mg Q) (g dx env) → r x H Q
def m2 (fa fb : M D) (g : D → D → M D) : M D := bnd fa fun x => bnd fb fun y => g x y
theorem tOp_ok {ta tb : TE} {r : R2} {g : D → D → M D} (ha : ∀ (ps : Fg) (σ : L2.St) (Hf H : Hp) (env : DEnv), SR X.K X.mg ps Hf H σ env → ∀ Q : VK, EG X.K X.mg ps W Hf σ (Pd X.K X.mg Q) (fa env) → ta σ H Q)
    (hb : ∀ (ps : Fg) (σ : L2.St) (Hf H : Hp) (env : DEnv), SR X.K X.mg ps Hf H σ env → ∀ Q : VK, EG X.K X.mg ps W Hf σ (Pd X.K X.mg Q) (fb env) → tb σ H Q) (hr : RJ X W r g)
    {ps : Fg} {σ : L2.St} {Hf H : Hp} {env : DEnv} (S : SR X.K X.mg ps Hf H σ env) {Q : VK} (h : EG X.K X.mg ps W Hf σ (Pd X.K X.mg Q) (m2 fa fb g env)) : tOp r ta tb σ H Q := by
  refine ha ps σ Hf H env S _ (EG.bnd h fun x e1 Hf1 H1 x1 S1 h1 v rv => ?_)
  refine hb ps σ Hf1 H1 e1 S1 _ (EG.bnd h1 fun y e2 Hf2 H2 x2 S2 h2 u ru => ?_)
  exact hr ps σ Hf2 H2 e2 v u x y Q S2 (rv.mono x2) ru h2
theorem je_op {op : Operator} {r : R2} {g : D → D → M D} (ho : OpR X (binaryOp op) r) (hr : RJ X W r g) (ja : JE X W a fa) (jb : JE X W b fb) : JE X W (.BinOp a op b pos) (m2 fa fb g) := by
  obtain ⟨ta, pa, ha⟩ := ja.ex
  obtain ⟨tb, pb, hb⟩ := jb.ex
  exact ⟨⟨_, pe_op ho pa pb, fun ps σ Hf H env S Q h => tOp_ok ha hb hr S h⟩⟩
theorem je_cmp {op : CmpOp} {r : R2} {g : D → D → M D} (ho : OpR X (compareOp op) r) (hr : RJ X W r g) (ja : JE X W a fa) (jb : JE X W b fb) (hm : behindInMarks op b = false := by first | exact nomark _ | rfl) : JE X W (.Compare a [op] [b] pos) (m2 fa fb g) := by
  obtain ⟨ta, pa, ha⟩ := ja.ex
  obtain ⟨tb, pb, hb⟩ := jb.ex
  exact ⟨⟨_, pe_cmpR ho pa pb hm, fun ps σ Hf H env S Q h => tOp_ok ha hb hr S h⟩⟩
theorem je_un {op : UnaryOp} {r : V → Hp → VK → Prop} {g : D → M D} (ho : UnR X (unaryOp op) r) (hr : RU1 X W r g) (ja : JE X W a fa) : JE X W (.UnaryOp op a pos) (bnd fa g) := by
  obtain ⟨ta, pa, ha⟩ := ja.ex
  refine ⟨⟨_, pe_un ho pa, fun ps σ Hf H env S Q h => ?_⟩⟩
  exact ha ps σ Hf H env S _ (EG.bnd h fun x e1 Hf1 H1 x1 S1 h1 v rv => hr ps σ Hf1 H1 e1 v x Q S1 rv h1)

/-- on two whole numbers -/
def g2i (g : Int → Int → M D) : D → D → M D := fun x y => match x, y with
  | .int i, .int j => g i j
  | _, _ => stk
theorem rj_i {r : R2} {g : Int → Int → M D} (h : ∀ (ps : Fg) (σ : L2.St) (Hf H : Hp) (env : DEnv) (i j : Int) (Q : VK), SR X.K X.mg ps Hf H σ env → EG X.K X.mg ps W Hf σ (Pd X.K X.mg Q) (g i j env) → r (.int i) (.int j) H Q) : RJ X W r (g2i g) := by
  intro ps σ Hf H env x y dx dy Q S rx ry q
  unfold g2i at q
  split at q
  · rw [rx.int_inv, ry.int_inv]; exact h ps σ Hf H env _ _ Q S q
  · exact q.elim
instance (i j : Int) : Decidable (IntMulOk i j) := by unfold IntMulOk; infer_instance
def iAdd : Int → Int → M D := fun i j => ret (.int (i + j))
def iSub : Int → Int → M D := fun i j => ret (.int (i - j))
def iMul : Int → Int → M D := fun i j => if IntMulOk i j then ret (.int (i * j)) else stk
def DivOk (j : Int) : Prop := j ≠ 0 ∧ j.natAbs.log2 < 9000
instance (j : Int) : Decidable (DivOk j) := by unfold DivOk; infer_instance
def iDiv : Int → Int → M D := fun i j => if DivOk j then ret (.int (i.fdiv j)) else stk
def iMod : Int → Int → M D := fun i j => if j ≠ 0 then ret (.int (i.fmod j)) else stk
def PowOk (i j : Int) : Prop := 0 ≤ j ∧ j ≤ 1000000 ∧ i.natAbs < 2 ^ 64
instance (i j : Int) : Decidable (PowOk i j) := by unfold PowOk; infer_instance
def iPow : Int → Int → M D := fun i j => if PowOk i j then ret (.int (i ^ j.toNat)) else stk
def iCmp (p : Int → Int → Bool) : Int → Int → M D := fun i j => ret (.bl (p i j))
theorem op_mulX : OpR X (binaryOp .Mult) (rI IntMulOk fun i j => .int (i * j)) := opI fun _ _ _ _ _ _ _ hc q => mul_int q hc
theorem op_fdivX : OpR X (binaryOp .FloorDiv) (rI (fun _ j => DivOk j) fun i j => .int (i.fdiv j)) := opI fun i j _ _ _ _ _ hc q =>
  floordiv_int hc.1 q (.inl (PyProof.noPylong_of_log2 hc.2))
theorem rj_rI0 {g : Int → Int → V} {gd : Int → Int → D} (h : ∀ K mg H i j, Rp K mg H (g i j) (gd i j)) : RJ X W (rI0 g) (g2i fun i j => ret (gd i j)) :=
  rj_i fun ps σ Hf H env i j Q S q => ⟨i, j, rfl, rfl, q.ret S _ (h _ _ _ _ _)⟩
theorem rj_rI {C : Int → Int → Prop} [∀ i j, Decidable (C i j)] {g : Int → Int → V} {gd : Int → Int → D} (h : ∀ K mg H i j, Rp K mg H (g i j) (gd i j)) : RJ X W (rI C g) (g2i fun i j => if C i j then ret (gd i j) else stk) :=
  rj_i fun ps σ Hf H env i j Q S q => by
    split at q
    · rename_i hc; exact ⟨i, j, rfl, rfl, hc, q.ret S _ (h _ _ _ _ _)⟩
    · exact q.elim
theorem je_sub (ja : JE X W a fa) (jb : JE X W b fb) : JE X W (.BinOp a .Sub b pos) (m2 fa fb (g2i iSub)) := je_op op_sub (rj_rI0 fun _ _ _ _ _ => .int _) ja jb
theorem je_fdiv (ja : JE X W a fa) (jb : JE X W b fb) : JE X W (.BinOp a .FloorDiv b pos) (m2 fa fb (g2i iDiv)) := je_op op_fdivX (rj_rI (C := fun _ j => DivOk j) fun _ _ _ _ _ => .int _) ja jb
theorem je_mod (ja : JE X W a fa) (jb : JE X W b fb) : JE X W (.BinOp a .Mod b pos) (m2 fa fb (g2i iMod)) := je_op op_modN (rj_rI (C := fun _ j => j ≠ 0) fun _ _ _ _ _ => .int _) ja jb
theorem je_pow (ja : JE X W a fa) (jb : JE X W b fb) : JE X W (.BinOp a .Pow b pos) (m2 fa fb (g2i iPow)) := je_op op_pow (rj_rI (C := PowOk) fun _ _ _ _ _ => .int _) ja jb
def iShr : Int → Int → M D := fun i j => if 0 ≤ j then ret (.int (i / 2 ^ j.toNat)) else stk
def iShl : Int → Int → M D := fun i j => if PowOk i j then ret (.int (i * 2 ^ j.toNat)) else stk
theorem je_shr (ja : JE X W a fa) (jb : JE X W b fb) : JE X W (.BinOp a .RShift b pos) (m2 fa fb (g2i iShr)) := je_op op_shr (rj_rI (C := fun _ j => 0 ≤ j) fun _ _ _ _ _ => .int _) ja jb
theorem je_shl (ja : JE X W a fa) (jb : JE X W b fb) : JE X W (.BinOp a .LShift b pos) (m2 fa fb (g2i iShl)) := je_op op_shl (rj_rI (C := PowOk) fun _ _ _ _ _ => .int _) ja jb
theorem je_band (ja : JE X W a fa) (jb : JE X W b fb) : JE X W (.BinOp a .BitAnd b pos) (m2 fa fb (g2i fun i j => ret (.int (Builtin.bitAnd i j)))) := je_op op_and (rj_rI0 fun _ _ _ _ _ => .int _) ja jb
theorem je_bor (ja : JE X W a fa) (jb : JE X W b fb) : JE X W (.BinOp a .BitOr b pos) (m2 fa fb (g2i fun i j => ret (.int (Builtin.bitOr i j)))) := je_op op_or (rj_rI0 fun _ _ _ _ _ => .int _) ja jb
theorem je_bxor (ja : JE X W a fa) (jb : JE X W b fb) : JE X W (.BinOp a .BitXor b pos) (m2 fa fb (g2i fun i j => ret (.int (Builtin.bitXor i j)))) := je_op op_xor (rj_rI0 fun _ _ _ _ _ => .int _) ja jb
theorem je_lt (ja : JE X W a fa) (jb : JE X W b fb) : JE X W (.Compare a [.Lt] [b] pos) (m2 fa fb (g2i (iCmp fun i j => decide (i < j)))) := je_cmp op_lt (rj_rI0 fun _ _ _ _ _ => .bl _) ja jb
theorem je_le (ja : JE X W a fa) (jb : JE X W b fb) : JE X W (.Compare a [.LtE] [b] pos) (m2 fa fb (g2i (iCmp fun i j => decide (i ≤ j)))) := je_cmp op_le (rj_rI0 fun _ _ _ _ _ => .bl _) ja jb
theorem je_gt (ja : JE X W a fa) (jb : JE X W b fb) : JE X W (.Compare a [.Gt] [b] pos) (m2 fa fb (g2i (iCmp fun i j => decide (j < i)))) := je_cmp op_gt (rj_rI0 fun _ _ _ _ _ => .bl _) ja jb
theorem je_ge (ja : JE X W a fa) (jb : JE X W b fb) : JE X W (.Compare a [.GtE] [b] pos) (m2 fa fb (g2i (iCmp fun i j => decide (j ≤ i)))) := je_cmp op_ge (rj_rI0 fun _ _ _ _ _ => .bl _) ja jb
/-- == of data -/
def eqOk (x y : D) : Bool := x.py && y.py && shp x && shp y
def mEq (x y : D) : M D := if eqOk x y then ret (.bl (deq x y)) else stk
def mNe (x y : D) : M D := if eqOk x y then ret (.bl (!deq x y)) else stk
theorem eqOk_of {x y : D} (h : eqOk x y = true) : x.py = true ∧ y.py = true ∧ shp x = true ∧ shp y = true := by
  unfold eqOk at h
  simp only [Bool.and_eq_true] at h
  exact ⟨h.1.1.1, h.1.1.2, h.1.2, h.2⟩
theorem rj_eq : RJ X W (rEqD X.K) mEq := by
  intro ps σ Hf H env x y dx dy Q S rx ry q
  unfold mEq at q
  split at q
  · rename_i hc
    obtain ⟨p1, p2, s1, s2⟩ := eqOk_of hc
    exact ⟨_, _, (rx.mono S.ex).dp p1, (ry.mono S.ex).dp p2, s1, s2, q.ret S _ (.bl _)⟩
  · exact q.elim
theorem rj_ne : RJ X W (rNeD X.K) mNe := by
  intro ps σ Hf H env x y dx dy Q S rx ry q
  unfold mNe at q
  split at q
  · rename_i hc
    obtain ⟨p1, p2, s1, s2⟩ := eqOk_of hc
    exact ⟨_, _, (rx.mono S.ex).dp p1, (ry.mono S.ex).dp p2, s1, s2, q.ret S _ (.bl _)⟩
  · exact q.elim
theorem je_eq (C : CtxOk X W) (ja : JE X W a fa) (jb : JE X W b fb) : JE X W (.Compare a [.Eq] [b] pos) (m2 fa fb mEq) := je_cmp (op_eqD C.hu) rj_eq ja jb
theorem je_ne (C : CtxOk X W) (ja : JE X W a fa) (jb : JE X W b fb) : JE X W (.Compare a [.NotEq] [b] pos) (m2 fa fb mNe) := je_cmp (op_neD C.hu) rj_ne ja jb
def isNon : D → Bool | .non => true | _ => false
theorem je_isN {j : Nat} {p2 : Pos} (ja : JE X W a fa) : JE X W (.Compare a [.Is] [.Constant .none j p2] pos) (bnd fa fun x => ret (.bl (isNon x))) := by
  obtain ⟨ta, pa, ha⟩ := ja.ex
  refine ⟨⟨_, pe_cmpR op_isN pa pe_non (nomark _), fun ps σ Hf H env S Q h => ?_⟩⟩
  refine ha ps σ Hf H env S _ (EG.bnd h fun x e1 Hf1 H1 x1 S1 h1 v rv => ⟨rfl, ?_⟩)
  rw [rv.non_iff]
  exact h1.ret S1 _ (by cases x <;> exact .bl _)
theorem je_isNN {j : Nat} {p2 : Pos} (ja : JE X W a fa) : JE X W (.Compare a [.IsNot] [.Constant .none j p2] pos) (bnd fa fun x => ret (.bl (!isNon x))) := by
  obtain ⟨ta, pa, ha⟩ := ja.ex
  refine ⟨⟨_, pe_cmpR op_notN pa pe_non (nomark _), fun ps σ Hf H env S Q h => ?_⟩⟩
  refine ha ps σ Hf H env S _ (EG.bnd h fun x e1 Hf1 H1 x1 S1 h1 v rv => ⟨rfl, ?_⟩)
  rw [rv.non_iff]
  exact h1.ret S1 _ (by cases x <;> exact .bl _)
def u1i (g : Int → M D) : D → M D := fun x => match x with | .int i => g i | _ => stk
theorem je_neg (ja : JE X W a fa) : JE X W (.UnaryOp .USub a pos) (bnd fa (u1i fun i => ret (.int (-i)))) := by
  refine je_un un_neg (fun ps σ Hf H env x dx Q S rx q => ?_) ja
  unfold u1i at q
  split at q
  · rw [rx.int_inv]; exact ⟨_, rfl, q.ret S _ (.int _)⟩
  · exact q.elim

/-! ### tests -/
def mB : D → M Bool := fun x => match x with | .bl b => ret b | _ => stk
theorem jt_val (ja : JE X W a fa) (he : ∀ whole, isTrue a X.env whole = (do let v ← whole; standAt a.pos; holding [v] (truthy v)) := by intro _; rfl) : JT X W a (bnd fa mB) := by
  obtain ⟨ta, pa, ha⟩ := ja.ex
  refine ⟨⟨_, pt_val pa he, fun ps σ Hf H env S Q h => ?_⟩⟩
  refine ha ps σ Hf H env S _ (EG.bnd h fun x e1 Hf1 H1 x1 S1 h1 v rv => ?_)
  unfold mB at h1
  split at h1
  · exact ⟨_, rv.bl_inv, h1.ret S1⟩
  · exact h1.elim
/-- truth of any kind -/
def mTru : D → M Bool := fun x => match x with
  | .bl b => ret b
  | .int i => ret (i != 0)
  | .non => ret false
  | .str s => if s.length ≤ sizeLine then ret ((s.length : Int) != 0) else stk
  | .lst l => ret (!l.isEmpty)
  | .tup l => ret (!l.isEmpty)
  | _ => stk
theorem isEmpty_rps {K : PySem.W.Frag} {mg : MG} {H : Hp} {vs : List V} {ds : List D} (r : Rps K mg H vs ds) : (!vs.isEmpty) = !ds.isEmpty := by
  cases r <;> rfl
theorem jt_tru (ja : JE X W a fa) (he : ∀ whole, isTrue a X.env whole = (do let v ← whole; standAt a.pos; holding [v] (truthy v)) := by intro _; rfl) : JT X W a (bnd fa mTru) := by
  obtain ⟨ta, pa, ha⟩ := ja.ex
  refine ⟨⟨_, pt_truth pa he, fun ps σ Hf H env S Q h => ?_⟩⟩
  refine ha ps σ Hf H env S _ (EG.bnd h fun x e1 Hf1 H1 x1 S1 h1 v rv => ?_)
  cases x with
  | bl b => rw [rv.bl_inv]; exact ⟨b, rfl, h1.ret S1⟩
  | int i => rw [rv.int_inv]; exact ⟨_, rfl, h1.ret S1⟩
  | non => rw [rv.non_inv]; exact ⟨_, rfl, h1.ret S1⟩
  | str s =>
    rw [rv.str_inv]
    unfold mTru at h1
    dsimp only at h1
    split at h1
    · rename_i hs; exact ⟨_, ⟨hs, rfl⟩, h1.ret S1⟩
    · exact h1.elim
  | lst l =>
    cases rv with
    | lst hq r => exact ⟨_, .inl ⟨_, ex_l S1.ex hq, isEmpty_rps r ▸ rfl⟩, (isEmpty_rps r) ▸ h1.ret S1⟩
  | tup l =>
    cases rv with
    | tup hq r => exact ⟨_, .inr (.inl ⟨_, ex_t S1.ex hq, isEmpty_rps r ▸ rfl⟩), (isEmpty_rps r) ▸ h1.ret S1⟩
  | obj c ns vs => exact h1.elim
  | opq a => exact h1.elim
def bAnd (f g : M Bool) : M Bool := bnd f fun c => if c = true then g else ret false
def bOr (f g : M Bool) : M Bool := bnd f fun c => if c = true then ret true else g
variable {ga gb : M Bool} {rest : List Expr}
theorem JW.jt (j : JW X W a ga) : JT X W a ga := by
  obtain ⟨t, p, h⟩ := j.ex
  exact ⟨⟨t, p.pt, h⟩⟩
theorem jw_and1 (ja : JT X W a ga) : JW X W (.BoolOp .And [a] pos) ga := by
  obtain ⟨t, p, h⟩ := ja.ex
  exact ⟨⟨t, pw_and1 p, h⟩⟩
theorem jw_or1 (ja : JT X W a ga) : JW X W (.BoolOp .Or [a] pos) ga := by
  obtain ⟨t, p, h⟩ := ja.ex
  exact ⟨⟨t, pw_or1 p, h⟩⟩
theorem jw_and (ja : JT X W a ga) (jb : JW X W (.BoolOp .And (b :: rest) pos) gb) : JW X W (.BoolOp .And (a :: b :: rest) pos) (bAnd ga gb) := by
  obtain ⟨t, p, h⟩ := ja.ex
  obtain ⟨u, q, k⟩ := jb.ex
  refine ⟨⟨_, pw_and p q, fun ps σ Hf H env S Q z => ?_⟩⟩
  refine h ps σ Hf H env S _ (EG.bnd z fun x e1 Hf1 H1 x1 S1 h1 => ?_)
  cases x with
  | true => show (if true = true then u σ H1 Q else Q false H1); rw [if_pos rfl]; exact k ps σ Hf1 H1 e1 S1 _ h1
  | false => show (if false = true then u σ H1 Q else Q false H1); rw [if_neg Bool.false_ne_true]; exact EG.ret (W := W) (P := Pb Q) h1 S1
theorem jw_or (ja : JT X W a ga) (jb : JW X W (.BoolOp .Or (b :: rest) pos) gb) : JW X W (.BoolOp .Or (a :: b :: rest) pos) (bOr ga gb) := by
  obtain ⟨t, p, h⟩ := ja.ex
  obtain ⟨u, q, k⟩ := jb.ex
  refine ⟨⟨_, pw_or p q, fun ps σ Hf H env S Q z => ?_⟩⟩
  refine h ps σ Hf H env S _ (EG.bnd z fun x e1 Hf1 H1 x1 S1 h1 => ?_)
  cases x with
  | true => show (if true = true then Q true H1 else u σ H1 Q); rw [if_pos rfl]; exact EG.ret (W := W) (P := Pb Q) h1 S1
  | false => show (if false = true then Q true H1 else u σ H1 Q); rw [if_neg Bool.false_ne_true]; exact k ps σ Hf1 H1 e1 S1 _ h1
def bNot (f : M Bool) : M Bool := bnd f fun c => ret (!c)
theorem jt_not (ja : JT X W a ga) : JT X W (.UnaryOp .Not a pos) (bNot ga) := by
  obtain ⟨t, p, h⟩ := ja.ex
  refine ⟨⟨_, pt_not p, fun ps σ Hf H env S Q z => ?_⟩⟩
  exact h ps σ Hf H env S _ (EG.bnd z fun x e1 Hf1 H1 x1 S1 h1 => EG.ret (W := W) (P := Pb Q) (a := !x) h1 S1)
/-- and, or, not as values: all but the last True or False -/
def vAnd (f g : M D) : M D := bnd f fun x => match x with | .bl c => if c = true then g else ret (.bl false) | _ => stk
def vOr (f g : M D) : M D := bnd f fun x => match x with | .bl c => if c = true then ret (.bl true) else g | _ => stk
def vNot (f : M D) : M D := bnd f fun x => match x with | .bl c => ret (.bl (!c)) | _ => stk
theorem je_one {op : BoolOp} (ja : JE X W a fa) : JE X W (.BoolOp op [a] pos) fa := by
  obtain ⟨t, p, h⟩ := ja.ex
  exact ⟨⟨t, pe_one p, h⟩⟩
theorem je_and (ja : JE X W a fa) (jb : JE X W (.BoolOp .And (b :: rest) pos) fb) : JE X W (.BoolOp .And (a :: b :: rest) pos) (vAnd fa fb) := by
  obtain ⟨t, p, h⟩ := ja.ex
  obtain ⟨u, q, k⟩ := jb.ex
  refine ⟨⟨_, pe_and p q, fun ps σ Hf H env S Q z => ?_⟩⟩
  refine h ps σ Hf H env S _ (EG.bnd z fun x e1 Hf1 H1 x1 S1 h1 v rv => ?_)
  split at h1
  · rename_i c
    refine ⟨c, rv.bl_inv, ?_⟩
    cases c with
    | true => exact iteT (k ps σ Hf1 H1 e1 S1 _ h1)
    | false => exact iteF (EG.ret h1 S1 _ (.bl _))
  · exact h1.elim
theorem je_or (ja : JE X W a fa) (jb : JE X W (.BoolOp .Or (b :: rest) pos) fb) : JE X W (.BoolOp .Or (a :: b :: rest) pos) (vOr fa fb) := by
  obtain ⟨t, p, h⟩ := ja.ex
  obtain ⟨u, q, k⟩ := jb.ex
  refine ⟨⟨_, pe_or p q, fun ps σ Hf H env S Q z => ?_⟩⟩
  refine h ps σ Hf H env S _ (EG.bnd z fun x e1 Hf1 H1 x1 S1 h1 v rv => ?_)
  split at h1
  · rename_i c
    refine ⟨c, rv.bl_inv, ?_⟩
    cases c with
    | true => exact iteT (EG.ret h1 S1 _ (.bl _))
    | false => exact iteF (k ps σ Hf1 H1 e1 S1 _ h1)
  · exact h1.elim
theorem je_not (ja : JE X W a fa) : JE X W (.UnaryOp .Not a pos) (vNot fa) := by
  obtain ⟨t, p, h⟩ := ja.ex
  refine ⟨⟨_, pe_not p, fun ps σ Hf H env S Q z => ?_⟩⟩
  refine h ps σ Hf H env S _ (EG.bnd z fun x e1 Hf1 H1 x1 S1 h1 v rv => ?_)
  split at h1
  · exact ⟨_, rv.bl_inv, EG.ret h1 S1 _ (.bl _)⟩
  · exact h1.elim
def mIf {α : Type} (c : M Bool) (f g : M α) : M α := bnd c fun b => if b = true then f else g
theorem je_if {t : Expr} (jc : JT X W t ga) (ja : JE X W a fa) (jb : JE X W b fb) : JE X W (.IfExp t a b pos) (mIf ga fa fb) := by
  obtain ⟨tc, pc, hc⟩ := jc.ex
  obtain ⟨ta, pa, ha⟩ := ja.ex
  obtain ⟨tb, pb, hb⟩ := jb.ex
  refine ⟨⟨_, pe_ifExp pc pa pb, fun ps σ Hf H env S Q z => ?_⟩⟩
  refine hc ps σ Hf H env S _ (EG.bnd z fun x e1 Hf1 H1 x1 S1 h1 => ?_)
  cases x with
  | true => show (if true = true then ta σ H1 Q else tb σ H1 Q); rw [if_pos rfl]; exact ha ps σ Hf1 H1 e1 S1 _ h1
  | false => show (if false = true then ta σ H1 Q else tb σ H1 Q); rw [if_neg Bool.false_ne_true]; exact hb ps σ Hf1 H1 e1 S1 _ h1

/-! ### arguments, displays -/
def aNil : M (List D) := ret []
def aCons (f : M D) (g : M (List D)) : M (List D) := bnd f fun d => bnd g fun ds => ret (d :: ds)
theorem ja_nil : JA X W [] aNil := ⟨⟨_, pa_nil, fun ps σ Hf H env S Q z => z.ret S [] .nil⟩⟩
theorem ja_cons {g : M (List D)} (je : JE X W e fa) (jr : JA X W es g) (hs : starEach (e :: es) X.env = (false, eval e X.env) :: starEach es X.env := by rfl) : JA X W (e :: es) (aCons fa g) := by
  obtain ⟨t, p, h⟩ := je.ex
  obtain ⟨u, q, k⟩ := jr.ex
  refine ⟨⟨_, pa_cons p q hs, fun ps σ Hf H env S Q z => ?_⟩⟩
  refine h ps σ Hf H env S _ (EG.bnd z fun x e1 Hf1 H1 x1 S1 h1 v rv => ?_)
  refine k ps σ Hf1 H1 e1 S1 _ (EG.bnd h1 fun xs e2 Hf2 H2 x2 S2 h2 vs rvs => ?_)
  exact h2.ret S2 _ (.cons (rv.mono x2) rvs)
def szOk (n : Nat) : Prop := n ≤ sizeLine
instance (n : Nat) : Decidable (szOk n) := by unfold szOk; infer_instance
def mTup (g : M (List D)) : M D := bnd g fun ds => if szOk ds.length then ret (.tup ds) else stk
def mLst (g : M (List D)) : M D := bnd g fun ds => if szOk ds.length then ret (.lst ds) else stk
theorem je_tup {g : M (List D)} {x1 : Nat} (j : JA X W es g) : JE X W (.Tuple es x1 pos) (mTup g) := by
  obtain ⟨t, p, h⟩ := j.ex
  refine ⟨⟨_, pe_tup p, fun ps σ Hf H env S Q z => ?_⟩⟩
  refine h ps σ Hf H env S _ (EG.bnd z fun xs e1 Hf1 H1 x1 S1 h1 vs rvs => ?_)
  split at h1
  · rename_i hz
    refine ⟨by rw [rvs.length]; exact hz, fun p np => ?_⟩
    exact h1 _ _ (Ex.new (fresh_back S1.ex np)) (S1.froze np) _ (.tup (.inl (.inl upd_same)) (rvs.mono (Ex.new (fresh_back S1.ex np))))
  · exact h1.elim
theorem je_lst {g : M (List D)} (j : JA X W es g) : JE X W (.List es pos) (mLst g) := by
  obtain ⟨t, p, h⟩ := j.ex
  refine ⟨⟨_, pe_lst p, fun ps σ Hf H env S Q z => ?_⟩⟩
  refine h ps σ Hf H env S _ (EG.bnd z fun xs e1 Hf1 H1 x1 S1 h1 vs rvs => ?_)
  split at h1
  · rename_i hz
    refine ⟨by rw [rvs.length]; exact hz, fun p np => ?_⟩
    exact h1 _ _ (Ex.new (fresh_back S1.ex np)) (S1.froze np) _ (.lst (.inl (.inl upd_same)) (rvs.mono (Ex.new (fresh_back S1.ex np))))
  · exact h1.elim

/-! ### calls of built-ins -/
def CJ (X : Cx) (W : WX) (r : List V → Hp → VK → Prop) (g : List D → M D) : Prop := ∀ (ps : Fg) (σ : L2.St) (Hf H : Hp) (env : DEnv) (xs : List V) (ds : List D) (Q : VK), SR X.K X.mg ps Hf H σ env → Rps X.K X.mg Hf xs ds →
  EG X.K X.mg ps W Hf σ (Pd X.K X.mg Q) (g ds env) → r xs H Q
theorem je_callB {id : String} {r : List V → Hp → VK → Prop} {g : List D → M D} {x : Str} {p : Pos} {f : M (List D)} (hc : CallR X (.builtin id) r) (hj : CJ X W r g) (V : Nm X N sc raw) (hG : okG sc x = true) (hm : X.mg x = none) (ja : JA X W (e :: es) f) (hv : bootBuiltins x = some (.builtin id) := by decide +kernel)
    (he : starEach (e :: es) X.env = (false, eval e X.env) :: starEach es X.env := by rfl) (hpl : (backTo pos (starEach es X.env)).any (·.1) = false := by rfl) : JE X W (.Call (.Name x p) (e :: es) [] pos) (bnd f g) := by
  obtain ⟨hg, hdb, hn⟩ := V.g hG
  obtain ⟨t, q, h⟩ := ja.ex
  refine ⟨⟨_, pe_callB hc hg hm hv q hn hdb he hpl, fun ps σ Hf H env S Q z => ?_⟩⟩
  exact h ps σ Hf H env S _ (EG.bnd z fun xs e1 Hf1 H1 x1 S1 h1 vs rvs => hj ps σ Hf1 H1 e1 vs xs Q S1 rvs h1)
theorem je_callTy {T : String} {r : List V → Hp → VK → Prop} {g : List D → M D} {x : Str} {p : Pos} {f : M (List D)} (hc : CallR X (.type T) r) (hj : CJ X W r g) (V : Nm X N sc raw) (hG : okG sc x = true) (hm : X.mg x = none) (ja : JA X W (e :: es) f) (hv : bootBuiltins x = some (.type T) := by decide +kernel)
    (he : starEach (e :: es) X.env = (false, eval e X.env) :: starEach es X.env := by rfl) (hpl : (backTo pos (starEach es X.env)).any (·.1) = false := by rfl) : JE X W (.Call (.Name x p) (e :: es) [] pos) (bnd f g) := by
  obtain ⟨hg, hdb, hn⟩ := V.g hG
  obtain ⟨t, q, h⟩ := ja.ex
  refine ⟨⟨_, pe_callTy hc hg hm hv q hn hdb he hpl, fun ps σ Hf H env S Q z => ?_⟩⟩
  exact h ps σ Hf H env S _ (EG.bnd z fun xs e1 Hf1 H1 x1 S1 h1 vs rvs => hj ps σ Hf1 H1 e1 vs xs Q S1 rvs h1)
def c1i (g : Int → M D) : List D → M D := fun ds => match ds with | [.int i] => g i | _ => stk
theorem cj_i {r : List V → Hp → VK → Prop} {g : Int → M D} (h : ∀ (ps : Fg) (σ : L2.St) (Hf H : Hp) (env : DEnv) (i : Int) (Q : VK), SR X.K X.mg ps Hf H σ env → EG X.K X.mg ps W Hf σ (Pd X.K X.mg Q) (g i env) → r [.int i] H Q) : CJ X W r (c1i g) := by
  intro ps σ Hf H env xs ds Q S rx q
  unfold c1i at q
  split at q
  · cases rx with
    | cons r1 r2 => cases r2; rw [r1.int_inv]; exact h ps σ Hf H env _ Q S q
  · exact q.elim
def c2i (g : Int → Int → M D) : List D → M D := fun ds => match ds with | [.int i, .int j] => g i j | _ => stk
theorem cj_i2 {r : List V → Hp → VK → Prop} {g : Int → Int → M D} (h : ∀ (ps : Fg) (σ : L2.St) (Hf H : Hp) (env : DEnv) (i j : Int) (Q : VK), SR X.K X.mg ps Hf H σ env → EG X.K X.mg ps W Hf σ (Pd X.K X.mg Q) (g i j env) → r [.int i, .int j] H Q) : CJ X W r (c2i g) := by
  intro ps σ Hf H env xs ds Q S rx q
  unfold c2i at q
  split at q
  · cases rx with
    | cons r1 r2 => cases r2 with
      | cons r3 r4 => cases r4; rw [r1.int_inv, r3.int_inv]; exact h ps σ Hf H env _ _ Q S q
  · exact q.elim
def iAbs (i : Int) : Int := if i < 0 then -i else i
theorem je_abs {p : Pos} {f : M (List D)} (V : Nm X N sc raw) (hG : okG sc "abs" = true) (hm : X.mg "abs" = none) (ja : JA X W [a] f) (he : starEach [a] X.env = (false, eval a X.env) :: starEach [] X.env := by rfl) : JE X W (.Call (.Name "abs" p) [a] [] pos) (bnd f (c1i fun i => ret (.int (iAbs i)))) :=
  je_callB call_abs (cj_i fun ps σ Hf H env i Q S q => ⟨i, rfl, q.ret S _ (.int _)⟩) V hG hm ja (by decide +kernel) he
theorem je_max2 {p : Pos} {f : M (List D)} (C : CtxOk X W) (V : Nm X N sc raw) (hG : okG sc "max" = true) (hm : X.mg "max" = none) (ja : JA X W [a, b] f) (he : starEach [a, b] X.env = (false, eval a X.env) :: starEach [b] X.env := by rfl) (hpl : (backTo pos (starEach [b] X.env)).any (·.1) = false := by rfl) :
    JE X W (.Call (.Name "max" p) [a, b] [] pos) (bnd f (c2i fun i j => ret (.int (if j > i then j else i)))) :=
  je_callB (call_max2 C.calm) (cj_i2 fun ps σ Hf H env i j Q S q => ⟨i, j, rfl, q.ret S _ (.int _)⟩) V hG hm ja (by decide +kernel) he hpl
theorem je_min2 {p : Pos} {f : M (List D)} (C : CtxOk X W) (V : Nm X N sc raw) (hG : okG sc "min" = true) (hm : X.mg "min" = none) (ja : JA X W [a, b] f) (he : starEach [a, b] X.env = (false, eval a X.env) :: starEach [b] X.env := by rfl) (hpl : (backTo pos (starEach [b] X.env)).any (·.1) = false := by rfl) :
    JE X W (.Call (.Name "min" p) [a, b] [] pos) (bnd f (c2i fun i j => ret (.int (if j < i then j else i)))) :=
  je_callB (call_min2 C.calm) (cj_i2 fun ps σ Hf H env i j Q S q => ⟨i, j, rfl, q.ret S _ (.int _)⟩) V hG hm ja (by decide +kernel) he hpl
/-- int(n), int(flag) -/
def cInt : List D → M D := fun ds => match ds with | [.int i] => ret (.int i) | [.bl k] => ret (.int (if k then 1 else 0)) | _ => stk
theorem je_intC {p : Pos} {f : M (List D)} (V : Nm X N sc raw) (hG : okG sc "int" = true) (hm : X.mg "int" = none) (ja : JA X W [a] f) (he : starEach [a] X.env = (false, eval a X.env) :: starEach [] X.env := by rfl) : JE X W (.Call (.Name "int" p) [a] [] pos) (bnd f cInt) := by
  refine je_callTy call_int1 (fun ps σ Hf H env xs ds Q S rx q => ?_) V hG hm ja (by decide +kernel) he
  unfold cInt at q
  split at q
  · cases rx with
    | cons r1 r2 => cases r2; rw [r1.int_inv]; exact .inl ⟨_, rfl, q.ret S _ (.int _)⟩
  · cases rx with
    | cons r1 r2 => cases r2; rw [r1.bl_inv]; exact .inr ⟨_, rfl, q.ret S _ (.int _)⟩
  · exact q.elim
/-- len of text, list, tuple -/
def cLen : List D → M D := fun ds => match ds with | [.lst l] => ret (.int l.length) | [.tup l] => ret (.int l.length) | [.str s] => if s.length ≤ sizeLine then ret (.int s.length) else stk | _ => stk
theorem je_len {p : Pos} {f : M (List D)} (V : Nm X N sc raw) (hG : okG sc "len" = true) (hm : X.mg "len" = none) (ja : JA X W [a] f) (he : starEach [a] X.env = (false, eval a X.env) :: starEach [] X.env := by rfl) : JE X W (.Call (.Name "len" p) [a] [] pos) (bnd f cLen) := by
  refine je_callB (call_len_seq.or call_len_str) (fun ps σ Hf H env xs ds Q S rx q => ?_) V hG hm ja (by decide +kernel) he
  unfold cLen at q
  split at q
  · cases rx with
    | cons r1 r2 => cases r2; cases r1 with
      | lst hq r => exact .inl ⟨_, _, rfl, .inl (ex_l S.ex hq), by rw [r.length]; exact q.ret S _ (.int _)⟩
  · cases rx with
    | cons r1 r2 => cases r2; cases r1 with
      | tup hq r => exact .inl ⟨_, _, rfl, .inr (ex_t S.ex hq), by rw [r.length]; exact q.ret S _ (.int _)⟩
  · cases rx with
    | cons r1 r2 =>
      cases r2; rw [r1.str_inv]
      split at q
      · rename_i hz; exact .inr ⟨_, rfl, hz, q.ret S _ (.int _)⟩
      · exact q.elim
  · exact q.elim
/-- isinstance(x, T) for a built-in T -/
def tyD : D → String
  | .non => "NoneType" | .bl _ => "bool" | .int _ => "int" | .str _ => "str" | .tup _ => "tuple" | .lst _ => "list" | .obj _ _ _ => "object" | .opq _ => "object"
def cIsi (T : String) : List D → M D := fun ds => match ds with
  | [.obj _ _ _] => stk
  | [.opq _] => stk
  | [d] => match kitB (tyD d) T with | some b => ret (.bl b) | none => stk
  | _ => stk
end
end DL

/-! DLc: statements, targets, loops, raise, defs and their calls. -/
namespace DL
open PySem PySem.Spec PyProof.Rows L2 Evl

inductive Fl where
  | nx | rt (d : D) | bk | ct | ro (l : List D)
section
variable (K : PySem.W.Frag) (mg : MG) (ps : Fg) (W : WX)
def FP (De : Ends) : Fl → Hp → L2.St → Hp → Prop
  | .ro l, Hf, _, H => ∀ p vs, H p = some (.lst vs) → Hf p = none → ps.g p = none → Rps K mg Hf vs l → De.rt (.ref p) H
  | .nx, _, σ, H => De.nx σ H
  | .rt d, Hf, _, H => ∀ v, Rp K mg Hf v d → De.rt v H
  | .bk, _, σ, H => De.bk σ H
  | .ct, _, σ, H => De.ct σ H
def SG (De : Ends) (Hf : Hp) : Res Fl → Prop
  | .ok fl e' => ∀ σ' Hf' H', Ex Hf Hf' → SR K mg ps Hf' H' σ' e' → FP K mg ps De fl Hf' σ' H'
  | .exc x p e' => ∀ cls dd σ' Hf' H', Ex Hf Hf' → SR K mg ps Hf' H' σ' e' → IsExc K mg Hf' x p cls dd → W cls dd σ' H'
  | .stuck => False
def UG (Q : L2.St → Hp → Prop) (Hf : Hp) : Res Unit → Prop
  | .ok _ e' => ∀ σ' Hf' H', Ex Hf Hf' → SR K mg ps Hf' H' σ' e' → Q σ' H'
  | .exc x p e' => ∀ cls dd σ' Hf' H', Ex Hf Hf' → SR K mg ps Hf' H' σ' e' → IsExc K mg Hf' x p cls dd → W cls dd σ' H'
  | .stuck => False
end
section
variable {K : PySem.W.Frag} {mg : MG} {ps : Fg} {W : WX} {Hf Hf' H H' : Hp} {σ : L2.St} {α β : Type} {e : DEnv} {De De' : Ends} {Q : L2.St → Hp → Prop}
theorem SG.mono (x : Ex Hf Hf') : ∀ {r : Res Fl}, SG K mg ps W De Hf r → SG K mg ps W De Hf' r
  | .ok _ _, h => fun σ' Hf2 H2 y s => h σ' Hf2 H2 (x.trans y) s
  | .exc _ _ _, h => fun c d σ' Hf2 H2 y s z => h c d σ' Hf2 H2 (x.trans y) s z
  | .stuck, h => h
theorem UG.mono (x : Ex Hf Hf') : ∀ {r : Res Unit}, UG K mg ps W Q Hf r → UG K mg ps W Q Hf' r
  | .ok _ _, h => fun σ' Hf2 H2 y s => h σ' Hf2 H2 (x.trans y) s
  | .exc _ _ _, h => fun c d σ' Hf2 H2 y s z => h c d σ' Hf2 H2 (x.trans y) s z
  | .stuck, h => h
theorem SG.bnd {P1 : α → Hp → Hp → Prop} {m : M α} {f : α → M Fl} (h : SG K mg ps W De Hf (DL.bnd m f e))
    (hk : ∀ a e' Hf' H', Ex Hf Hf' → SR K mg ps Hf' H' σ e' → SG K mg ps W De Hf' (f a e') → P1 a Hf' H') : EG K mg ps W Hf σ P1 (m e) := by
  unfold DL.bnd at h
  cases q : m e with
  | ok a e' => rw [q] at h; exact fun Hf2 H2 y s => hk a e' Hf2 H2 y s (SG.mono y h)
  | exc x p e' => rw [q] at h; exact fun c d Hf2 H2 y s z => h c d σ Hf2 H2 y s z
  | stuck => rw [q] at h; exact h
theorem SG.ubnd {m : M Unit} {f : Unit → M Fl} (h : SG K mg ps W De Hf (DL.bnd m f e))
    (hk : ∀ e' σ' Hf' H', Ex Hf Hf' → SR K mg ps Hf' H' σ' e' → SG K mg ps W De Hf' (f () e') → Q σ' H') : UG K mg ps W Q Hf (m e) := by
  unfold DL.bnd at h
  cases q : m e with
  | ok a e' => rw [q] at h; exact fun σ2 Hf2 H2 y s => hk e' σ2 Hf2 H2 y s (SG.mono y h)
  | exc x p e' => rw [q] at h; exact h
  | stuck => rw [q] at h; exact h
theorem UG.bnd {P1 : α → Hp → Hp → Prop} {m : M α} {f : α → M Unit} (h : UG K mg ps W Q Hf (DL.bnd m f e))
    (hk : ∀ a e' Hf' H', Ex Hf Hf' → SR K mg ps Hf' H' σ e' → UG K mg ps W Q Hf' (f a e') → P1 a Hf' H') : EG K mg ps W Hf σ P1 (m e) := by
  unfold DL.bnd at h
  cases q : m e with
  | ok a e' => rw [q] at h; exact fun Hf2 H2 y s => hk a e' Hf2 H2 y s (UG.mono y h)
  | exc x p e' => rw [q] at h; exact fun c d Hf2 H2 y s z => h c d σ Hf2 H2 y s z
  | stuck => rw [q] at h; exact h
theorem UG.ubnd {Q' : L2.St → Hp → Prop} {m : M Unit} {f : Unit → M Unit} (h : UG K mg ps W Q Hf (DL.bnd m f e))
    (hk : ∀ e' σ' Hf' H', Ex Hf Hf' → SR K mg ps Hf' H' σ' e' → UG K mg ps W Q Hf' (f () e') → Q' σ' H') : UG K mg ps W Q' Hf (m e) := by
  unfold DL.bnd at h
  cases q : m e with
  | ok a e' => rw [q] at h; exact fun σ2 Hf2 H2 y s => hk e' σ2 Hf2 H2 y s (UG.mono y h)
  | exc x p e' => rw [q] at h; exact h
  | stuck => rw [q] at h; exact h
theorem UG.ret {e : DEnv} (h : UG K mg ps W Q Hf (ret () e)) (S : SR K mg ps Hf H σ e) : Q σ H := h σ Hf H (Ex.refl Hf) S
theorem SG.ret {e : DEnv} {fl : Fl} (h : SG K mg ps W De Hf (ret fl e)) (S : SR K mg ps Hf H σ e) : FP K mg ps De fl Hf σ H := h σ Hf H (Ex.refl Hf) S
end
section
variable (X : Cx) (W : WX)
structure JS (s : Stmt) (f : M Fl) : Prop where
  ex : ∃ t, PS X s t ∧ ∀ (ps : Fg) (σ : L2.St) (Hf H : Hp) (env : DEnv), SR X.K X.mg ps Hf H σ env → ∀ De : Ends, SG X.K X.mg ps W De Hf (f env) → t De σ H
structure JSs (s : List Stmt) (f : M Fl) : Prop where
  ex : ∃ t, PSs X s t ∧ ∀ (ps : Fg) (σ : L2.St) (Hf H : Hp) (env : DEnv), SR X.K X.mg ps Hf H σ env → ∀ De : Ends, SG X.K X.mg ps W De Hf (f env) → t De σ H
structure JG (tg : Expr) (g : D → M Unit) : Prop where
  ex : ∃ t, PG X tg t ∧ ∀ (ps : Fg) (σ : L2.St) (Hf H : Hp) (env : DEnv) (v : V) (d : D), SR X.K X.mg ps Hf H σ env → Rp X.K X.mg Hf v d → ∀ Q : L2.St → Hp → Prop, UG X.K X.mg ps W Q Hf (g d env) → t v σ H Q
structure JGs (tgs : List Expr) (g : List D → M Unit) : Prop where
  ex : ∃ t, PGs X tgs t ∧ ∀ (ps : Fg) (σ : L2.St) (Hf H : Hp) (env : DEnv) (v : List V) (d : List D), SR X.K X.mg ps Hf H σ env → Rps X.K X.mg Hf v d → ∀ Q : L2.St → Hp → Prop, UG X.K X.mg ps W Q Hf (g d env) → t v σ H Q
end
section
variable {X : Cx} {W : WX} {a b c e : Expr} {es : List Expr} {fa fb fc : M D} {pos : Pos} {s : Stmt} {ss : List Stmt} {f g : M Fl} {ga : M Bool} {N : List Str} {sc raw : Scope}
/-! ### blocks -/
def nx : M Fl := ret .nx
def sq (f g : M Fl) : M Fl := fun env => match f env with | .ok .nx e' => g e' | r => r
theorem jss_nil : JSs X W [] nx := ⟨⟨_, pss_nil, fun ps σ Hf H env S De h => h.ret S⟩⟩
theorem sq_ok {t u : TS} (ht : ∀ (ps : Fg) (σ : L2.St) (Hf H : Hp) (env : DEnv), SR X.K X.mg ps Hf H σ env → ∀ De : Ends, SG X.K X.mg ps W De Hf (f env) → t De σ H)
    (hu : ∀ (ps : Fg) (σ : L2.St) (Hf H : Hp) (env : DEnv), SR X.K X.mg ps Hf H σ env → ∀ De : Ends, SG X.K X.mg ps W De Hf (g env) → u De σ H)
    {ps : Fg} {σ : L2.St} {Hf H : Hp} {env : DEnv} (S : SR X.K X.mg ps Hf H σ env) {De : Ends} (h : SG X.K X.mg ps W De Hf (sq f g env)) : tSeq t u De σ H := by
  refine ht ps σ Hf H env S _ ?_
  unfold sq at h
  cases q : f env with
  | ok fl e' =>
    rw [q] at h
    cases fl with
    | nx => exact fun σ' Hf' H' x S' => hu ps σ' Hf' H' e' S' De (SG.mono x h)
    | rt d => exact h
    | ro l => exact h
    | bk => exact h
    | ct => exact h
  | exc x p e' => rw [q] at h; exact h
  | stuck => rw [q] at h; exact h
theorem jss_cons (j : JS X W s f) (k : JSs X W ss g) : JSs X W (s :: ss) (sq f g) := by
  obtain ⟨t, p, h⟩ := j.ex
  obtain ⟨u, q, r⟩ := k.ex
  exact ⟨⟨_, pss_cons p q, fun ps σ Hf H env S De z => sq_ok h r S z⟩⟩
theorem jss_one (j : JS X W s f) : JSs X W [s] f := by
  obtain ⟨t, p, h⟩ := j.ex
  exact ⟨⟨_, pss_one p, h⟩⟩
theorem js_pass : JS X W (.Pass pos) nx := ⟨⟨_, ps_pass, fun ps σ Hf H env S De h => h.ret S⟩⟩
theorem js_break : JS X W (.Break pos) (ret .bk) := ⟨⟨_, ps_break, fun ps σ Hf H env S De h => h.ret S⟩⟩
theorem js_continue : JS X W (.Continue pos) (ret .ct) := ⟨⟨_, ps_continue, fun ps σ Hf H env S De h => h.ret S⟩⟩
theorem js_doc {x : Str} {j : Nat} {pos' : Pos} : JS X W (.Expr (.Constant (.str x) j pos) pos') nx := ⟨⟨_, ps_doc, fun ps σ Hf H env S De h => h.ret S⟩⟩
/-! ### simple statements -/
def mAsg (i : Nat) (f : M D) : M Fl := bnd f fun d env => .ok .nx (env.set i (.val d))
theorem js_asg (V : Nm X N sc raw) {i : Nat} {x : Str} {pos' : Pos} (hS : okS N sc raw i x = true) (j : JE X W e fa)
    (hs : swapsWith e (some (.Name x pos')) pos.line X.env = pure false := by rfl) : JS X W (.Assign [.Name x pos'] e pos) (mAsg i fa) := by
  obtain ⟨hi, hx, hf⟩ := V.s hS
  have hN := V.nodup
  obtain ⟨t, p, h⟩ := j.ex
  refine ⟨⟨_, ps_set (i := i) hN hi hx p hs hf, fun ps σ Hf H env S De z => ?_⟩⟩
  exact h ps σ Hf H env S _ (SG.bnd z fun d e' Hf' H' x S' h1 v r => h1 _ Hf' H' (Ex.refl _) (S'.put i r))
def mRet (f : M D) : M Fl := bnd f fun d => ret (.rt d)
theorem js_ret (j : JE X W e fa) : JS X W (.Return (some e) pos) (mRet fa) := by
  obtain ⟨t, p, h⟩ := j.ex
  refine ⟨⟨_, ps_ret p, fun ps σ Hf H env S De z => ?_⟩⟩
  exact h ps σ Hf H env S _ (SG.bnd z fun d e' Hf' H' x S' h1 v r => h1.ret S' v r)
theorem js_retN : JS X W (.Return none pos) (ret (.rt .non)) := ⟨⟨_, ps_retN, fun ps σ Hf H env S De h => h.ret S _ .non⟩⟩
def mDrop (f : M D) : M Fl := bnd f fun _ => nx
theorem js_expr (j : JE X W e fa) (hs : swapsWith e none pos.line X.env = pure false := by rfl) : JS X W (.Expr e pos) (mDrop fa) := by
  obtain ⟨t, p, h⟩ := j.ex
  refine ⟨⟨_, ps_expr p hs, fun ps σ Hf H env S De z => ?_⟩⟩
  exact h ps σ Hf H env S _ (SG.bnd z fun d e' Hf' H' x S' h1 v r => h1.ret S')
theorem js_if {A B : List Stmt} (jc : JT X W c ga) (ja : JSs X W A f) (jb : JSs X W B g) : JS X W (.If c A B pos) (mIf ga f g) := by
  obtain ⟨tc, pc, hc⟩ := jc.ex
  obtain ⟨t, p, h⟩ := ja.ex
  obtain ⟨u, q, r⟩ := jb.ex
  refine ⟨⟨_, ps_if pc p q, fun ps σ Hf H env S De z => ?_⟩⟩
  refine hc ps σ Hf H env S _ (SG.bnd z fun c0 e' Hf' H' x S' h1 => ?_)
  cases c0 with
  | true => show (if true = true then t De σ H' else u De σ H'); rw [if_pos rfl]; exact h ps σ Hf' H' e' S' De h1
  | false => show (if false = true then t De σ H' else u De σ H'); rw [if_neg Bool.false_ne_true]; exact r ps σ Hf' H' e' S' De h1
/-- x += e, whole numbers -/
def mAug (i : Nat) (f : M D) (g : Int → Int → D) : M Fl := fun env => match env[i]? with
  | some (.val (.int a)) => bnd f (fun d env' => match d with | .int b => .ok .nx (env'.set i (.val (g a b))) | _ => .stuck) env
  | _ => .stuck
theorem js_add (V : Nm X N sc raw) {i : Nat} {x : Str} {pos' : Pos} (hS : okS N sc raw i x = true) (j : JE X W e fa) : JS X W (.AugAssign (.Name x pos') .Add e pos) (mAug i fa fun a b => .int (a + b)) := by
  obtain ⟨hi, hx, hf⟩ := V.s hS
  have hN := V.nodup
  obtain ⟨t, p, h⟩ := j.ex
  refine ⟨⟨_, ps_aug (i := i) hN hi hx p ip_add hf, fun ps σ Hf H env S De z => ?_⟩⟩
  unfold mAug at z
  split at z
  · rename_i k q
    obtain ⟨v, h1, h2⟩ := S.val q
    refine ⟨v, h1, h ps σ Hf H env S _ (SG.bnd z fun d e' Hf' H' x S' z1 v2 r => ?_)⟩
    split at z1
    · rw [h2.int_inv, r.int_inv]
      exact ⟨_, _, rfl, rfl, z1 _ Hf' H' (Ex.refl _) (S'.put i (.int _))⟩
    · exact z1.elim
  · exact z.elim

/-! ### targets -/
def gN (i : Nat) : D → M Unit := fun d env => .ok () (env.set i (.val d))
theorem jg_name (V : Nm X N sc raw) {i : Nat} {x : Str} (hS : okS N sc raw i x = true) : JG X W (.Name x pos) (gN i) :=
  ⟨⟨_, pg_name (i := i) V.nodup (V.s hS).1 (V.s hS).2.1 (V.s hS).2.2, fun ps σ Hf H env v d S r Q z => z _ Hf H (Ex.refl _) (S.put i r)⟩⟩
def gsNil : List D → M Unit := fun ds => match ds with | [] => ret () | _ => stk
def gsCons (g : D → M Unit) (gs : List D → M Unit) : List D → M Unit := fun ds => match ds with | d :: r => bnd (g d) fun _ => gs r | [] => stk
theorem jgs_nil : JGs X W [] gsNil := ⟨⟨_, pgs_nil, fun ps σ Hf H env v d S r Q z => by
  cases r with
  | nil => exact ⟨rfl, z.ret S⟩
  | cons _ _ => exact z.elim⟩⟩
theorem jgs_cons {g1 : D → M Unit} {gs : List D → M Unit} (j : JG X W e g1) (k : JGs X W es gs) (hs : (assignEach (e :: es) X.env).map (·.2) = assign e X.env :: (assignEach es X.env).map (·.2) := by rfl) : JGs X W (e :: es) (gsCons g1 gs) := by
  obtain ⟨t, p, h⟩ := j.ex
  obtain ⟨u, q, hu⟩ := k.ex
  refine ⟨⟨_, pgs_cons p q hs, fun ps σ Hf H env v d S r Q z => ?_⟩⟩
  cases r with
  | nil => exact z.elim
  | cons r1 r2 => exact ⟨_, _, rfl, h ps σ Hf H env _ _ S r1 _ (UG.ubnd z fun e' σ' Hf' H' x S' z1 => hu ps σ' Hf' H' e' _ _ S' (r2.mono x) Q z1)⟩
def gTp (n : Nat) (gs : List D → M Unit) : D → M Unit := fun d => match d with
  | .tup ds => if ds.length = n then gs ds else stk
  | .lst ds => if ds.length = n then gs ds else stk
  | _ => stk
theorem pg_or {tg : Expr} {t u : TG} (h : PG X tg t) (k : PG X tg u) : PG X tg (fun v σ H Q => t v σ H Q ∨ u v σ H Q) :=
  ⟨fun pins s σ H v w Q I r z => z.elim (h.run pins s σ H v w Q I r) (k.run pins s σ H v w Q I r)⟩
theorem jg_tup {gs : List D → M Unit} {k n : Nat} (C : CtxOk X W) (j : JGs X W es gs) (hn : (assignEach es X.env).length = n := by rfl) (hst : (assignEach es X.env).findIdx? (·.1) = none := by rfl) : JG X W (.Tuple es k pos) (gTp n gs) := by
  obtain ⟨t, p, h⟩ := j.ex
  refine ⟨⟨_, pg_or (pg_tup C.calm p hn hst) (pg_lst C.calm p hn hst), fun ps σ Hf H env v d S r Q z => ?_⟩⟩
  unfold gTp at z
  split at z
  · split at z
    · rename_i hl
      cases r with
      | tup hq rr => exact .inl ⟨_, _, rfl, ex_t S.ex hq, by rw [rr.length]; exact hl, h ps σ Hf H env _ _ S rr Q z⟩
    · exact z.elim
  · split at z
    · rename_i hl
      cases r with
      | lst hq rr => exact .inr ⟨_, _, rfl, ex_l S.ex hq, by rw [rr.length]; exact hl, h ps σ Hf H env _ _ S rr Q z⟩
    · exact z.elim
  · exact z.elim
def mAsgT (f : M D) (g : D → M Unit) : M Fl := bnd f fun d => bnd (g d) fun _ => nx
theorem js_asgT {tg : Expr} {g1 : D → M Unit} (j : JE X W e fa) (k : JG X W tg g1) (hs : swapsWithSole [tg] e pos.line X.env = pure false := by rfl) (hw : swappedStores [tg] e X.env = pure none := by rfl) (h1 : (assignEach [tg] X.env).map (·.2) = [assign tg X.env] := by rfl) : JS X W (.Assign [tg] e pos) (mAsgT fa g1) := by
  obtain ⟨t, p, h⟩ := j.ex
  obtain ⟨u, q, hu⟩ := k.ex
  refine ⟨⟨_, ps_asg p q hs hw h1, fun ps σ Hf H env S De z => ?_⟩⟩
  refine h ps σ Hf H env S _ (SG.bnd z fun d e' Hf' H' x S' h1 v r => ?_)
  exact hu ps σ Hf' H' e' v d S' r _ (SG.ubnd h1 fun e2 σ2 Hf2 H2 x2 S2 z2 => z2.ret S2)
/-- a, b = e1, e2 -/
def mPar (i j : Nat) (f : M (List D)) : M Fl := bnd f fun ds env => match ds with | [d, d'] => .ok .nx ((env.set i (.val d)).set j (.val d')) | _ => .stuck
/-- two local names, one line, the values no constants alone -/
def okP (sc : Scope) (x y : Str) (px py : Pos) (a b : Expr) : Bool := decide (sc.names.lookup x = some .local) && decide (sc.names.lookup y = some .local) && !(x == y) && (px.line == py.line) && !([a, b].all (foldedForSure 8)) && !([a, b].all (constantsAlone 8)) &&
  !([a, b].any fun | .Starred .. => true | _ => false)
theorem sw_par {x y : Str} {px py pt pt2 : Pos} {kt k2 : Nat} (V : Nm X N sc raw) (h : okP sc x y px py a b = true) : swappedStores [.Tuple [.Name x px, .Name y py] kt pt] (.Tuple [a, b] k2 pt2) X.env = pure (some [x, y]) := by
  unfold okP at h
  simp only [Bool.and_eq_true, decide_eq_true_eq, Bool.not_eq_true'] at h
  obtain ⟨⟨⟨⟨⟨⟨h1, h2⟩, h3⟩, h4⟩, h5⟩, h6⟩, h7⟩ := h
  have e1 : X.env.kindOf x = some .local := by unfold Env.kindOf; rw [V.hs]; exact h1
  have e2 : X.env.kindOf y = some .local := by unfold Env.kindOf; rw [V.hs]; exact h2
  have e3 : X.env.blockKind = .function := by unfold Env.blockKind; rw [V.hs, V.kind]; rfl
  have h3' : (y == x) = false := by
    cases q : (y == x) with
    | false => rfl
    | true => rw [beq_iff_eq] at q; subst q; simp at h3
  have h4' : (py.line == px.line) = true := by rw [beq_iff_eq] at h4 ⊢; exact h4.symm
  unfold swappedStores
  simp only [e3, h5, h6, h7, List.filterMap_cons, List.filterMap_nil, e1, e2, List.length_cons, List.length_nil, List.head?_cons, Option.map_some, Option.getD_some, Expr.pos, h4', beq_self_eq_true, Bool.and_self, if_true, List.eraseDups_cons, List.eraseDups_nil, List.filter_cons, List.filter_nil, h3', Bool.not_false]
  rw [if_neg (by decide)]
  refine (if_neg fun z => ?_).trans rfl
  exact Bool.false_ne_true (h7.symm.trans z)
theorem js_par {i j : Nat} {x y : Str} {px py pt pt2 : Pos} {kt k2 : Nat} {f : M (List D)} (C : CtxOk X W) (V : Nm X N sc raw) (hi : okS N sc raw i x = true) (hj : okS N sc raw j y = true) (hP : okP sc x y px py a b = true) (ja : JA X W [a, b] f)  (hij : i ≠ j := by decide)
    (hs : swapsWithSole [.Tuple [.Name x px, .Name y py] kt pt] (.Tuple [a, b] k2 pt2) pos.line X.env = pure false := by rfl) :
    JS X W (.Assign [.Tuple [.Name x px, .Name y py] kt pt] (.Tuple [a, b] k2 pt2) pos) (mPar i j f) := by
  have hw := sw_par (pt := pt) (pt2 := pt2) (kt := kt) (k2 := k2) V hP
  have hN := V.nodup
  have hi := (V.s hi).1
  have hj := (V.s hj).1
  unfold okP at hP
  simp only [Bool.and_eq_true, decide_eq_true_eq] at hP
  have hx : X.env.scope.names.lookup x = some .local := by rw [V.hs]; exact hP.1.1.1.1.1.1
  have hy : X.env.scope.names.lookup y = some .local := by rw [V.hs]; exact hP.1.1.1.1.1.2
  obtain ⟨t, p, h⟩ := ja.ex
  refine ⟨⟨_, ps_par C.calm hN hi hj hij hx hy p hw hs, fun ps σ Hf H env S De z => ?_⟩⟩
  refine h ps σ Hf H env S _ (SG.bnd z fun ds e' Hf' H' x S' h1 vs r => ?_)
  split at h1
  · cases r with
    | cons r1 r2 => cases r2 with
      | cons r3 r4 => cases r4; exact ⟨_, _, rfl, h1 _ Hf' H' (Ex.refl _) ((S'.put i r1).put j r3)⟩
  · exact h1.elim

/-! ### while -/
/-- one more turn behind a body -/
def again (b : M Fl) (k : M Fl) : M Fl := fun env => match b env with
  | .ok .nx e' => k e' | .ok .ct e' => k e' | .ok .bk e' => .ok .nx e' | r => r
def whN (c : M Bool) (b : M Fl) : Nat → M Fl
  | 0 => stk
  | n + 1 => mIf c (again b (whN c b n)) nx
theorem again_lift {b k k' : M Fl} {env : DEnv} {r : Res Fl} (h : again b k env = r) (hr : r ≠ .stuck) (hk : ∀ e' r, k e' = r → r ≠ .stuck → k' e' = r) : again b k' env = r := by
  unfold again at h ⊢
  cases q : b env with
  | ok fl e' =>
    rw [q] at h
    cases fl with
    | nx => exact hk _ _ h hr
    | ct => exact hk _ _ h hr
    | bk => exact h
    | rt d => exact h
    | ro l => exact h
  | exc x p e' => rw [q] at h; exact h
  | stuck => rw [q] at h; exact h
theorem whN_succ {c : M Bool} {b : M Fl} : ∀ {n : Nat} {env : DEnv} {r : Res Fl}, whN c b n env = r → r ≠ .stuck → whN c b (n + 1) env = r
  | 0, env, r, h, hr => absurd h.symm hr
  | n + 1, env, r, h, hr => by
    unfold whN mIf bnd at h ⊢
    cases q : c env with
    | ok t e' =>
      rw [q] at h
      cases t with
      | true => exact again_lift h hr fun e' r h hr => whN_succ h hr
      | false => exact h
    | exc x p e' => rw [q] at h; exact h
    | stuck => rw [q] at h; exact h
theorem whN_le {c : M Bool} {b : M Fl} {n m : Nat} {env : DEnv} {r : Res Fl} (h : whN c b n env = r) (hr : r ≠ .stuck) (hm : n ≤ m) : whN c b m env = r := by
  induction hm with
  | refl => exact h
  | step _ ih => exact whN_succ ih hr
open Classical in
noncomputable def mWh (c : M Bool) (b : M Fl) : M Fl := fun env => if h : ∃ n, whN c b n env ≠ .stuck then whN c b (choose h) env else .stuck
theorem mWh_of {c : M Bool} {b : M Fl} {n : Nat} {env : DEnv} {r : Res Fl} (h : whN c b n env = r) (hr : r ≠ .stuck) : mWh c b env = r := by
  have hx : ∃ n, whN c b n env ≠ .stuck := ⟨n, by rw [h]; exact hr⟩
  unfold mWh
  rw [dif_pos hx]
  have hc := Classical.choose_spec hx
  rcases Nat.le_total n (Classical.choose hx) with hle | hle
  · exact whN_le h hr hle
  · have := whN_le (rfl : whN c b (Classical.choose hx) env = _) hc hle
    rw [h] at this; exact this.symm
theorem mWh_ex {c : M Bool} {b : M Fl} {env : DEnv} (h : mWh c b env ≠ .stuck) : ∃ n, whN c b n env = mWh c b env := by
  unfold mWh at h ⊢
  split
  · rename_i hx; exact ⟨_, rfl⟩
  · rename_i hx; rw [dif_neg hx] at h; exact absurd rfl h
theorem SG.ns {K : PySem.W.Frag} {mg : MG} {ps : Fg} {W : WX} {Hf : Hp} {De : Ends} {r : Res Fl} (h : SG K mg ps W De Hf r) : r ≠ .stuck := fun z => by subst z; exact h
theorem js_while {B : List Stmt} (C : CtxOk X W) (jc : JT X W c ga) (jb : JSs X W B f) : JS X W (.While c B [] pos) (mWh ga f) := by
  obtain ⟨tc, pc, hc⟩ := jc.ex
  obtain ⟨t, p, h⟩ := jb.ex
  refine ⟨⟨_, ps_while C.po pc p, fun ps σ Hf H env S De z => ?_⟩⟩
  obtain ⟨n, hn⟩ := mWh_ex z.ns
  rw [← hn] at z
  refine ⟨fun m σ H => ∃ env Hf, SR X.K X.mg ps Hf H σ env ∧ SG X.K X.mg ps W De Hf (whN ga f m env), ⟨n, env, Hf, S, z⟩, ?_⟩
  rintro m σ H ⟨env, Hf, S, z⟩
  cases m with
  | zero => exact z.elim
  | succ m =>
    refine hc ps σ Hf H env S _ (SG.bnd z fun x e' Hf' H' x1 S' h1 => ?_)
    cases x with
    | false =>
      unfold Pb
      dsimp only
      rw [if_neg Bool.false_ne_true]; exact h1.ret S'
    | true =>
      unfold Pb
      dsimp only
      rw [if_pos rfl]
      refine ⟨fun σ H => ∃ env Hf, SR X.K X.mg ps Hf H σ env ∧ SG X.K X.mg ps W De Hf (whN ga f m env), fun σ' H' w => ⟨m, Nat.lt_succ_self _, w⟩, ?_⟩
      refine h ps σ Hf' H' e' S' _ ?_
      have h1 : SG X.K X.mg ps W De Hf' (again f (whN ga f m) e') := h1
      unfold again at h1
      cases q : f e' with
      | ok fl e2 =>
        rw [q] at h1
        cases fl with
        | nx => exact fun σ2 Hf2 H2 x2 S2 => ⟨e2, Hf2, S2, SG.mono x2 h1⟩
        | ct => exact fun σ2 Hf2 H2 x2 S2 => ⟨e2, Hf2, S2, SG.mono x2 h1⟩
        | bk => exact h1
        | rt d => exact h1
        | ro l => exact h1
      | exc x p e' => rw [q] at h1; exact h1
      | stuck => rw [q] at h1; exact h1

/-! ### for -/
/-- the walk J yields ds, one after another, from Hf on -/
structure ItOk (K : PySem.W.Frag) (mg : MG) (Hf : Hp) (J : It) (ds : List D) : Prop where
  go : ∀ (i : Nat) (d : D), ds[i]? = some d → ∀ (ps : Fg) (σ : L2.St) (env : DEnv) (Hf2 H2 : Hp), Ex Hf Hf2 → SR K mg ps Hf2 H2 σ env → J.go i H2 ∧ ∀ x H3, J.yld i H2 x H3 → ∃ Hf3, Ex Hf2 Hf3 ∧ SR K mg ps Hf3 H3 σ env ∧ Rp K mg Hf3 x d
  stop : ∀ (i : Nat), ds.length ≤ i → ∀ (ps : Fg) (σ : L2.St) (env : DEnv) (Hf2 H2 : Hp), Ex Hf Hf2 → SR K mg ps Hf2 H2 σ env → J.stop i H2
structure JI (X : Cx) (W : WX) (tg iter : Expr) (f : M (List D)) : Prop where
  ex : ∃ wi, PI X tg iter wi ∧ ∀ (ps : Fg) (σ : L2.St) (Hf H : Hp) (env : DEnv), SR X.K X.mg ps Hf H σ env → ∀ R : It → Hp → Prop, EG X.K X.mg ps W Hf σ (fun ds Hf' H' => ∀ J, ItOk X.K X.mg Hf' J ds → R J H') (f env) → wi σ H R
def forL (g : D → M Unit) (b : M Fl) : List D → M Fl
  | [] => nx
  | d :: r => bnd (g d) fun _ => again b (forL g b r)
theorem js_for {B : List Stmt} {tg iter : Expr} {fi : M (List D)} {g1 : D → M Unit} (C : CtxOk X W) (ji : JI X W tg iter fi) (jg : JG X W tg g1) (jb : JSs X W B f) (hs : ∀ x, foldedSetIterable iter X.env x = pure x := by intro _; rfl) :
    JS X W (.For tg iter B [] pos) (bnd fi (forL g1 f)) := by
  obtain ⟨wi, pi, hi⟩ := ji.ex
  obtain ⟨tg, pg, hg⟩ := jg.ex
  obtain ⟨t, p, h⟩ := jb.ex
  refine ⟨⟨_, ps_for C.po C.calm pi pg p hs, fun ps σ Hf H env S De z => ?_⟩⟩
  refine hi ps σ Hf H env S _ (SG.bnd z fun ds e1 Hf1 H1 x1 S1 z1 J ok => ?_)
  refine ⟨fun i m σ H => i + m = ds.length ∧ ∃ env Hf, Ex Hf1 Hf ∧ SR X.K X.mg ps Hf H σ env ∧ SG X.K X.mg ps W De Hf (forL g1 f (ds.drop i) env), ⟨ds.length, Nat.zero_add _, e1, Hf1, Ex.refl _, S1, z1⟩, ?_⟩
  rintro i m σ H ⟨hm, env, Hf, x, S, z⟩
  by_cases hlt : i < ds.length
  · obtain ⟨d, hd⟩ : ∃ d, ds[i]? = some d := ⟨ds[i], List.getElem?_eq_getElem hlt⟩
    obtain ⟨go, yld⟩ := ok.go i d hd ps σ env Hf H x S
    have e0 : ds.drop i = d :: ds.drop (i + 1) := by
      rw [List.drop_eq_getElem_cons hlt]
      have := List.getElem?_eq_getElem hlt
      rw [hd] at this; cases this; rfl
    rw [e0] at z
    refine .inr ⟨go, fun σ H => i + 1 + (m - 1) = ds.length ∧ ∃ env Hf, Ex Hf1 Hf ∧ SR X.K X.mg ps Hf H σ env ∧ SG X.K X.mg ps W De Hf (forL g1 f (ds.drop (i + 1)) env), fun σ' H' w => ⟨m - 1, by omega, w⟩, fun v H3 y => ?_⟩
    obtain ⟨Hf3, x3, S3, r3⟩ := yld v H3 y
    refine hg ps σ Hf3 H3 env v d S3 r3 _ (SG.ubnd (SG.mono x3 z) fun e4 σ4 Hf4 H4 x4 S4 z4 => ?_)
    refine h ps σ4 Hf4 H4 e4 S4 _ ?_
    unfold again at z4
    cases q : f e4 with
    | ok fl e5 =>
      rw [q] at z4
      cases fl with
      | nx => exact fun σ2 Hf2 H2 x2 S2 => ⟨by omega, e5, Hf2, ((x.trans x3).trans x4).trans x2, S2, SG.mono x2 z4⟩
      | ct => exact fun σ2 Hf2 H2 x2 S2 => ⟨by omega, e5, Hf2, ((x.trans x3).trans x4).trans x2, S2, SG.mono x2 z4⟩
      | bk => exact z4
      | rt d => exact z4
      | ro l => exact z4
    | exc x p e' => rw [q] at z4; exact z4
    | stuck => rw [q] at z4; exact z4
  · refine .inl ⟨ok.stop i (by omega) ps σ env Hf H x S, ?_⟩
    rw [List.drop_eq_nil_of_le (by omega)] at z
    exact z.ret S
/-! ### what is walked -/
def rngD (lo : Int) (n : Nat) : List D := (List.range n).map fun k => .int (lo + (k : Nat))
theorem itok_range {K : PySem.W.Frag} {mg : MG} {Hf : Hp} {lo : Int} {n : Nat} : ItOk K mg Hf (Itr lo n) (rngD lo n) where
  go := fun i d hd ps σ env Hf2 H2 x S => by
    unfold rngD at hd
    rw [List.getElem?_map] at hd
    have hi : i < n := by
      cases q : (List.range n)[i]? with
      | none => rw [q] at hd; cases hd
      | some k => have := (List.getElem?_eq_some_iff.mp q).1; simpa using this
    rw [List.getElem?_range hi] at hd
    cases hd
    exact ⟨hi, fun x H3 y => ⟨Hf2, Ex.refl _, by rw [y.1]; exact S, by rw [y.2]; exact .int _⟩⟩
  stop := fun i hi ps σ env Hf2 H2 x S => by
    unfold rngD at hi
    have hi' : n ≤ i := by simpa using hi
    exact hi'
def rOk (j : Int) : Prop := -(2 ^ 62) ≤ j ∧ j < 2 ^ 62
instance (j : Int) : Decidable (rOk j) := by unfold rOk; infer_instance
def mRng1 (f : M (List D)) : M (List D) := bnd f fun ds => match ds with | [.int j] => if rOk j then ret (rngD 0 j.toNat) else stk | _ => stk
def mRng2 (f : M (List D)) : M (List D) := bnd f fun ds => match ds with | [.int i, .int j] => if rOk i ∧ rOk j then ret (rngD i (j - i).toNat) else stk | _ => stk
theorem ji_range1 {tg : Expr} {p : Pos} {f : M (List D)} (V : Nm X N sc raw) (hG : okG sc "range" = true) (hm : X.mg "range" = none) (ja : JA X W [a] f) (hs : starEach [a] X.env = [(false, eval a X.env)] := by rfl) : JI X W tg (.Call (.Name "range" p) [a] [] pos) (mRng1 f) := by
  have hg := (V.g hG).1
  obtain ⟨t, q, h⟩ := ja.ex
  refine ⟨⟨_, pi_range1 hg hm q hs, fun ps σ Hf H env S R z => ?_⟩⟩
  refine h ps σ Hf H env S _ (EG.bnd z fun ds e1 Hf1 H1 x1 S1 h1 vs r => ?_)
  split at h1
  · rename_i j
    split at h1
    · rename_i hc
      cases r with
      | cons r1 r2 => cases r2; rw [r1.int_inv]; exact ⟨j, rfl, hc.1, hc.2, h1.ret S1 _ itok_range⟩
    · exact h1.elim
  · exact h1.elim
theorem ji_range2 {tg : Expr} {p : Pos} {f : M (List D)} (V : Nm X N sc raw) (hG : okG sc "range" = true) (hm : X.mg "range" = none) (ja : JA X W [a, b] f) (hs : starEach [a, b] X.env = [(false, eval a X.env), (false, eval b X.env)] := by rfl) (hs2 : starEach [b] X.env = [(false, eval b X.env)] := by rfl) :
    JI X W tg (.Call (.Name "range" p) [a, b] [] pos) (mRng2 f) := by
  have hg := (V.g hG).1
  obtain ⟨t, q, h⟩ := ja.ex
  refine ⟨⟨_, pi_range2 hg hm q hs hs2, fun ps σ Hf H env S R z => ?_⟩⟩
  refine h ps σ Hf H env S _ (EG.bnd z fun ds e1 Hf1 H1 x1 S1 h1 vs r => ?_)
  split at h1
  · rename_i i j
    split at h1
    · rename_i hc
      cases r with
      | cons r1 r2 => cases r2 with
        | cons r3 r4 => cases r4; rw [r1.int_inv, r3.int_inv]; exact ⟨i, j, rfl, ⟨hc.1.1, hc.1.2, hc.2.1, hc.2.2⟩, h1.ret S1 _ itok_range⟩
    · exact h1.elim
  · exact h1.elim
theorem sqL_inj_len : True := trivial

/-! ### raise -/
/-- what a class over ValueError without __init__ bears -/
structure ExcR (K : PySem.W.Frag) (mg : MG) (x : Str) (C : Addr) : Prop where
  xP : PySem.W.excIn K C [.type "ValueError", .type "Exception", .type "BaseException", .type "object"] "ValueError.__new__" = true
  gP : mg x = some (.ref C)
  kP : PySem.W.keepIn K (.ref C) = true
  bP : PySem.W.subIn K (.ref C) (.type "BaseException") = some true
  tP : PySem.W.typeIn K (.ref C) = some (.type "type")
def mRaise (x : Str) : M Fl := fun env => .exc x none env
theorem js_raise {x m : Str} {j : Nat} {p p2 pos2 : Pos} {Cc : Addr} (C : CtxOk X W) (V : Nm X N sc raw) (hG : okG sc x = true) (E : ExcR X.K X.mg x Cc) :
    JS X W (.Raise (some (.Call (.Name x p) [.Constant (.str m) j p2] [] pos)) none pos2) (mRaise x) := by
  obtain ⟨hg, hdb, _⟩ := V.g hG
  refine ⟨⟨_, L2N.ps_raise C.calm C.tk (L2N.pmk_own PySem.F.excBase_ValueError E.xP E.gP E.kP (raises_own E.bP E.tP) hg hdb), fun ps σ Hf H env S De z => ?_⟩⟩
  exact z _ _ σ Hf H (Ex.refl _) S ⟨E.gP, rfl⟩
end

/-! ### defs -/
inductive Rs where
  | ok (d : D) | exc (x : Str) (p : Option D) | stuck
/-- a def is worth F: it takes what stands as it stands, and hands back what is new (or what it was handed) -/
def spP (K : PySem.W.Frag) (mg : MG) (n : Nat) (F : List D → Rs) : Sp := fun vs H Q E => vs.length = n ∧ ∃ Hf ds, Ex Hf H ∧ Rps K mg Hf vs ds ∧ match F ds with
  | .ok d => ∀ v Hf' H', Ex Hf Hf' → Ex Hf' H' → (∀ a o, H a = some o → Hf a = none → H' a = some o ∧ Hf' a = none) → Rp K mg Hf' v d → Q v H'
  | .exc x p => ∀ cls dd Hf' H', Ex Hf Hf' → Ex Hf' H' → (∀ a o, H a = some o → Hf a = none → H' a = some o ∧ Hf' a = none) → IsExc K mg Hf' x p cls dd → E cls dd H'
  | .stuck => False
def envOf (n : Nat) (ds : List D) : DEnv := ds.map Sl.val ++ List.replicate (n - ds.length) .no
/-- the body's worth, as a function of what is handed in; n: how many names the def has -/
def runF (n : Nat) (f : M Fl) (ds : List D) : Rs := match f (envOf n ds) with
  | .ok (.rt d) _ => .ok d
  | .ok (.ro l) _ => .ok (.lst l)
  | .ok .nx _ => .ok .non
  | .exc x p _ => .exc x p
  | _ => .stuck
theorem sr_start {K : PySem.W.Frag} {mg : MG} {Hf H : Hp} {vs : List V} {ds : List D} {N : List Str} (x : Ex Hf H) (r : Rps K mg Hf vs ds) (hn : vs.length ≤ N.length) :
    SR K mg ⟨[], fun a => if (Hf a).isSome then none else H a⟩ Hf H (L2.start N vs) (envOf N.length ds) := by
  have hl := r.length
  have noown : ∀ (i : Nat) (k : Option Nat) (l : OD), (envOf N.length ds)[i]? ≠ some (.own k l) := fun i k l h => by
    unfold envOf at h
    by_cases hi : i < ds.length
    · rw [List.getElem?_append_left (by simpa using hi), List.getElem?_map] at h
      cases q : ds[i]? with
      | none => rw [q] at h; cases h
      | some d => rw [q] at h; cases h
    · rw [List.getElem?_append_right (by simpa using hi), List.getElem?_replicate] at h
      split at h <;> cases h
  refine ⟨x, ?_, fun i s h => ?_, fun i j k k' l l' p _ h1 => (noown i k l h1).elim, fun a o h => ?_⟩
  · unfold L2.start envOf
    simp only [List.length_append, List.length_map, List.length_replicate, hl]
  · unfold envOf at h
    unfold L2.start
    by_cases hi : i < ds.length
    · rw [List.getElem?_append_left (by simpa using hi), List.getElem?_map] at h
      cases q : ds[i]? with
      | none => rw [q] at h; cases h
      | some d =>
        rw [q] at h; cases h
        obtain ⟨v, h1, h2⟩ := r.get q
        exact ⟨some v, by rw [List.getElem?_append_left (by simp; omega), List.getElem?_map, h1]; rfl, v, rfl, h2⟩
    · rw [List.getElem?_append_right (by simpa using hi), List.getElem?_replicate] at h
      split at h
      · rename_i hlt
        cases h
        refine ⟨none, ?_, trivial⟩
        rw [List.getElem?_append_right (by simp; omega), List.getElem?_replicate]
        simp only [List.length_map] at hlt ⊢
        rw [if_pos (by omega)]
      · cases h
  · dsimp only at h
    split at h
    · cases h
    · rename_i hn
      refine ⟨h, ?_, fun i k l q => (noown i k l q).elim⟩
      cases q : Hf a with
      | none => rfl
      | some u => rw [q] at hn; exact absurd rfl hn
theorem fg_back {K : PySem.W.Frag} {mg : MG} {Hf H Hf' H' : Hp} {σ : L2.St} {env : DEnv} (S : SR K mg ⟨[], fun a => if (Hf a).isSome then none else H a⟩ Hf' H' σ env) : ∀ a o, H a = some o → Hf a = none → H' a = some o ∧ Hf' a = none := fun a o h n => by
  obtain ⟨h1, h2, _⟩ := S.fg a o (by dsimp only; rw [n]; exact h)
  exact ⟨h1, h2⟩
theorem ro_new {Hf H : Hp} {p : Addr} (nf : Hf p = none) (ng : (if (Hf p).isSome then none else H p) = none) : H p = none := by
  rw [nf] at ng; exact ng
theorem ro_back {K : PySem.W.Frag} {mg : MG} {Hf H Hf' H' : Hp} {σ : L2.St} {env : DEnv} {p : Addr} {vs : List V} {l : List D} {Q : VK} (x : Ex Hf H) (x' : Ex Hf Hf') (S : SR K mg ⟨[], fun a => if (Hf a).isSome then none else H a⟩ Hf' H' σ env)
    (hp : H' p = some (.lst vs)) (nf : Hf' p = none) (ng : (fun a => if (Hf a).isSome then none else H a) p = none) (r : Rps K mg Hf' vs l)
    (hF : ∀ v Hf' H', Ex Hf Hf' → Ex Hf' H' → (∀ a o, H a = some o → Hf a = none → H' a = some o ∧ Hf' a = none) → Rp K mg Hf' v (.lst l) → Q v H') : Q (.ref p) H' := by
  have n0 : Hf p = none := fresh_back x' nf
  have nH : H p = none := ro_new n0 ng
  refine hF (.ref p) (upd Hf' p (.lst vs)) H' (x'.trans (Ex.new nf)) (fun a u h => ?_) (fun a o h n => ?_) (.lst (.inl (.inl upd_same)) (r.mono (Ex.new nf)))
  · by_cases ha : a = p
    · subst ha; rw [upd_same] at h; rw [hp]; exact h
    · rw [upd_ne ha] at h; exact S.ex a u h
  · obtain ⟨h1, h2⟩ := fg_back S a o h n
    exact ⟨h1, by rw [upd_ne (fun e => by subst e; rw [nH] at h; cases h)]; exact h2⟩
section
variable {P : Program} {w : World} {K : PySem.W.Frag} {mg : MG} {base : Heap}
/-- as Fun.okX, the exceptions' context told -/
theorem okN {x qual : Str} {st : Stmt} {f : Addr} {fd : FuncData} {N ps : List Str} {k : Nat} {sp : Sp} (F : Fun K x qual st f fd) (S : FnScope N ps (defScope st)) (len : ∀ vs H Q E, sp vs H Q E → vs.length = ps.length)
    (hb : ∀ (cdv : Value) (A : Around) (outer : List Env) (s : Shared) (H : Hp) (vs : List V) (Q : VK) (E : XK), Room k (A.deeper (envOfC qual (defScope st) s.heap.objs.size f cdv)) → sp vs H Q E →
      ∃ t, PSs (cxOf (L2N.CX P w) P w K mg base N qual (defScope st) f cdv A outer s H E) (defBody st) t ∧ t { nx := fun _ H' => Q .non H', rt := Q } (L2.start N vs) H) : FnOk P w K mg base (L2N.CX P w) (k + 1) f fd ps sp := by
  obtain ⟨oc, od, kV, doc, pm, an, cdv, ct, osl, e1, lk, hc⟩ := F.ex
  subst e1
  exact fn_of lk hc S len fun A outer s H vs Q E r h => hb cdv A outer s H vs Q E r h
/-- the context of a def's own body -/
structure Df (X : Cx) : Prop where
  hs : X.stack = X.env :: X.outer
  hf : X.env.frame = some X.env.locals
/-- THE RULE for a def -/
theorem fn_ok {x qual : Str} {st : Stmt} {f : Addr} {fd : FuncData} {N ps : List Str} {k : Nat} {g : M Fl} (F : Fun K x qual st f fd) (S : FnScope N ps (defScope st))
    (hbody : ∀ (X : Cx) (W : WX), X.prog = P → X.w = w → X.K = K → X.mg = mg → X.base = base → Room k X.A → CtxOk X W → Nm X N (defScope st) (defScope st) → Df X → JSs X W (defBody st) g) (hle : ps.length ≤ N.length := by decide) :
    FnOk P w K mg base (L2N.CX P w) (k + 1) f fd ps (spP K mg ps.length (runF N.length g)) := by
  refine okN F S (fun vs H Q E h => h.1) (fun cdv A outer s H vs Q E hr h => ?_)
  obtain ⟨hl, Hf, ds, x, r, hF⟩ := h
  obtain ⟨t, p, ht⟩ := (hbody (cxOf (L2N.CX P w) P w K mg base N qual (defScope st) f cdv A outer s H E) (fun cls d _ H => E cls d H) rfl rfl rfl rfl rfl hr ⟨rfl, hr.units, passes_of rfl, L2N.takes_of rfl rfl rfl rfl⟩ ⟨rfl, rfl, S.nd, S.kind, fun _ _ => rfl⟩ ⟨rfl, rfl⟩).ex
  refine ⟨t, p, ht _ _ Hf H _ (sr_start x r (by omega)) _ ?_⟩
  unfold runF at hF
  cases q : g (envOf N.length ds) with
  | ok fl e' =>
    rw [q] at hF
    cases fl with
    | nx => exact fun σ' Hf' H' x' S' => hF _ Hf' H' x' S'.ex (fg_back S') .non
    | rt d => exact fun σ' Hf' H' x' S' v rv => hF v Hf' H' x' S'.ex (fg_back S') rv
    | ro l => exact fun σ' Hf' H' x' S' p vs hp nf ng rv => ro_back x x' S' hp nf ng rv hF
    | bk => exact hF.elim
    | ct => exact hF.elim
  | exc y p e' => rw [q] at hF; exact fun cls dd σ' Hf' H' x' S' z => hF cls dd Hf' H' x' S'.ex (fg_back S') z
  | stuck => rw [q] at hF; exact hF.elim
/-- another function that is as much where it is not stuck -/
theorem fn_imp {f : Addr} {fd : FuncData} {ps : List Str} {k n : Nat} {F F' : List D → Rs} (h : FnOk P w K mg base (L2N.CX P w) k f fd ps (spP K mg n F)) (e : ∀ ds, ds.length = n → F' ds ≠ .stuck → F ds = F' ds) :
    FnOk P w K mg base (L2N.CX P w) k f fd ps (spP K mg n F') := by
  refine h.imp fun vs H Q E q => ?_
  obtain ⟨hl, Hf, ds, x, r, hF⟩ := q
  refine ⟨hl, Hf, ds, x, r, ?_⟩
  rw [e ds (by rw [← r.length]; exact hl) (fun z => by rw [z] at hF; exact hF)]
  exact hF
end

/-! ### calls of defs -/
structure Cal (X : Cx) (x : Str) (n : Nat) (F : List D → Rs) : Prop where
  ex : ∃ k f fd ps, FnOk X.prog X.w X.K X.mg X.base (L2N.CX X.prog X.w) k f fd ps (spP X.K X.mg n F) ∧ Room k X.A ∧ X.mg x = some (.ref f) ∧ PySem.W.keepIn X.K (.ref f) = true ∧ Binds X.K fd ps []
def mCall (f : M (List D)) (F : List D → Rs) : M D := bnd f fun ds env => match F ds with
  | .ok d => .ok d env | .exc x p => .exc x p env | .stuck => .stuck
section
variable {X : Cx} {W : WX} {e : Expr} {es : List Expr} {pos : Pos} {N : List Str} {sc raw : Scope}
/-- behind a call: what the caller had stands -/
theorem SR.after {K : PySem.W.Frag} {mg : MG} {ps : Fg} {Hf H Hf' H' : Hp} {σ : L2.St} {env : DEnv} (S : SR K mg ps Hf H σ env) (x : Ex Hf Hf') (y : Ex Hf' H') (z : ∀ a o, H a = some o → Hf a = none → H' a = some o ∧ Hf' a = none) : SR K mg ps Hf' H' σ env := by
  refine ⟨y, S.len, fun i s h => ?_, S.ap, fun a o h => ?_⟩
  · obtain ⟨v, hv, r⟩ := S.sl i s h
    refine ⟨v, hv, ?_⟩
    cases s with
    | no => trivial
    | val d => obtain ⟨u, a, b⟩ := r; exact ⟨u, a, b.mono x⟩
    | own k od =>
      obtain ⟨p, o, a, b, c, d, e⟩ := r
      obtain ⟨z1, z2⟩ := z p o c b
      exact ⟨p, o, a, z2, z1, d.mono x, e⟩
  · obtain ⟨h1, h2, h3⟩ := S.fg a o h
    obtain ⟨z1, z2⟩ := z a o h1 h2
    exact ⟨z1, z2, h3⟩
theorem sp_use {n : Nat} {F : List D → Rs} {ps : Fg} {σ : L2.St} {Hf H : Hp} {env : DEnv} {vs : List V} {ds : List D} {Q : VK} (S : SR X.K X.mg ps Hf H σ env) (r : Rps X.K X.mg Hf vs ds) (hn : ds.length = n)
    (h : EG X.K X.mg ps W Hf σ (Pd X.K X.mg Q) ((match F ds with | .ok d => fun env => Res.ok d env | .exc x p => fun env => .exc x p env | .stuck => fun _ => .stuck : M D) env)) : spP X.K X.mg n F vs H Q (WE W σ) := by
  refine ⟨by rw [r.length]; exact hn, Hf, ds, S.ex, r, ?_⟩
  cases q : F ds with
  | ok d => rw [q] at h; exact fun v Hf' H' x y z rv => h Hf' H' x (S.after x y z) v rv
  | exc c p => rw [q] at h; exact fun cls dd Hf' H' x y z w => h cls dd Hf' H' x (S.after x y z) w
  | stuck => rw [q] at h; exact h
theorem je_call {x : Str} {p : Pos} {n : Nat} {F : List D → Rs} {f : M (List D)} (C : CtxOk X W) (V : Nm X N sc raw) (hG : okG sc x = true) (c : Cal X x n F) (ja : JA X W (e :: es) f) (hn : ∀ env ds env', f env = .ok ds env' → ds.length = n)
    (he : starEach (e :: es) X.env = (false, eval e X.env) :: starEach es X.env := by rfl) (hpl : (backTo pos (starEach es X.env)).any (·.1) = false := by rfl) :
    JE X W (.Call (.Name x p) (e :: es) [] pos) (mCall f F) := by
  obtain ⟨hg, hdb, _⟩ := V.g hG
  obtain ⟨k, fa, fd, ps', G, hr, hm, hk, hb⟩ := c.ex
  obtain ⟨t, q, h⟩ := ja.ex
  refine ⟨⟨_, pe_callS G hr hg hm hk hb (fun σ => L2N.passAt C.tk σ) q hdb he hpl, fun ps σ Hf H env S Q z => ?_⟩⟩
  have hq : ∀ ds env', f env = .ok ds env' → ds.length = n := fun ds env' w => hn env ds env' w
  unfold mCall bnd at z
  refine h ps σ Hf H env S _ ?_
  cases w : f env with
  | ok ds e1 =>
    rw [w] at z
    intro Hf1 H1 x1 S1 vs r
    refine sp_use (W := W) S1 r (hq ds e1 w) ?_
    have z := EG.mono x1 z
    cases q : F ds with
    | ok d => simp only [q] at z ⊢; exact z
    | exc c p => simp only [q] at z ⊢; exact z
    | stuck => simp only [q] at z ⊢; exact z
  | exc y p e1 => rw [w] at z; exact z
  | stuck => rw [w] at z; exact z
end
/-- how many arguments come -/
def alen (n : Nat) (f : M (List D)) : Prop := ∀ env ds env', f env = .ok ds env' → ds.length = n
theorem alen_nil : alen 0 aNil := fun env ds env' h => by
  unfold aNil ret at h; cases h; rfl
theorem alen_cons {n : Nat} {f : M D} {g : M (List D)} (h : alen n g) : alen (n + 1) (aCons f g) := fun env ds env' q => by
  unfold aCons bnd at q
  cases w : f env with
  | ok d e1 =>
    rw [w] at q
    dsimp only at q
    cases w2 : g e1 with
    | ok ds2 e2 => rw [w2] at q; cases q; rw [List.length_cons, h _ _ _ w2]
    | exc x p e => rw [w2] at q; cases q
    | stuck => rw [w2] at q; cases q
  | exc x p e => rw [w] at q; cases q
  | stuck => rw [w] at q; cases q
end DL

/-! DLd: sequences: +, *, subscripts, slices, own lists, comprehensions, walks, isinstance. -/
namespace DL
open PySem PySem.Spec PyProof.Rows L2 Evl
section
variable {X : Cx} {W : WX} {a b c e : Expr} {es : List Expr} {fa fb fc : M D} {pos : Pos} {f : M (List D)} {N : List Str} {sc raw : Scope}

/-! ### + -/
def rCatL (K : PySem.W.Frag) : R2 := fun x y H Q => ∃ l b xs zs, x = .ref l ∧ y = .ref b ∧ SqL K H l xs ∧ SqL K H b zs ∧ xs.length + zs.length ≤ sizeLine ∧ ∀ p, H p = none → Q (.ref p) (upd H p (.lst (xs ++ zs)))
theorem op_catL : OpR X (binaryOp .Add) (rCatL X.K) := by
  intro pins s σ H x y v u Q I rx ry h
  obtain ⟨l, b, xs, zs, rfl, rfl, hH, hB, hz, q⟩ := h
  cases rx
  cases ry
  obtain ⟨its, r, ⟨⟨cls, dd, data, sl⟩, n, ho, hc, hdd, hd⟩, _⟩ := I.list hH
  obtain ⟨its2, r2, ⟨⟨cls2, dd2, data2, sl2⟩, n2, ho2, hc2, hdd2, hd2⟩, _⟩ := I.list hB
  simp only at hc hd hc2 hd2
  subst hc hd hc2 hd2
  have e : its.toArray ++ its2.toArray = (its ++ its2).toArray := by simp
  have hl := r.length
  have hl2 := r2.length
  refine concat_meets ⟨_, ho, rfl⟩ ⟨_, ho2, rfl⟩ noFill_list_add seq_list_add PySem.F.slot_list_add PySem.F.entry_list_add (PySem.F.args_list_add_2 _ _) (list_addW _ _ its.toArray its2.toArray n n2 dd dd2 sl sl2 (by simp only [List.size_toArray]; omega)) ⟨ho, ho2, ?_⟩
  rw [e]
  exact ⟨.ref _, _, I.lnew (t' := s.toks) (r.append r2) (by rw [List.length_append]; omega), rfl, q _ I.fresh⟩
def mAdd (x y : D) : M D := match x, y with
  | .int i, .int j => ret (.int (i + j))
  | .str s, .str t => if szOk (s.length + t.length) then ret (.str (s ++ t)) else stk
  | .lst l, .lst m => if szOk (l.length + m.length) then ret (.lst (l ++ m)) else stk
  | .tup l, .tup m => if l.isEmpty = false ∧ szOk (l.length + m.length) then ret (.tup (l ++ m)) else stk
  | _, _ => stk
theorem new_lst {ps : Fg} {σ : L2.St} {Hf H : Hp} {env : DEnv} {Q : VK} {l : List D} {vs : List V} (S : SR X.K X.mg ps Hf H σ env) (r : Rps X.K X.mg Hf vs l)
    (q : EG X.K X.mg ps W Hf σ (Pd X.K X.mg Q) (ret (D.lst l) env)) : ∀ p, H p = none → Q (.ref p) (upd H p (.lst vs)) := fun p np =>
  q _ _ (Ex.new (fresh_back S.ex np)) (S.froze np) _ (.lst (.inl (.inl upd_same)) (r.mono (Ex.new (fresh_back S.ex np))))
theorem new_tup {ps : Fg} {σ : L2.St} {Hf H : Hp} {env : DEnv} {Q : VK} {l : List D} {vs : List V} (S : SR X.K X.mg ps Hf H σ env) (r : Rps X.K X.mg Hf vs l)
    (q : EG X.K X.mg ps W Hf σ (Pd X.K X.mg Q) (ret (D.tup l) env)) : ∀ p, H p = none → Q (.ref p) (upd H p (.tup vs)) := fun p np =>
  q _ _ (Ex.new (fresh_back S.ex np)) (S.froze np) _ (.tup (.inl (.inl upd_same)) (r.mono (Ex.new (fresh_back S.ex np))))
theorem je_add (ja : JE X W a fa) (jb : JE X W b fb) : JE X W (.BinOp a .Add b pos) (m2 fa fb mAdd) := by
  refine je_op (op_add.or (op_add_str.or (op_catL.or op_catT))) (fun ps σ Hf H env x y dx dy Q S rx ry q => ?_) ja jb
  unfold mAdd at q
  split at q
  · rw [rx.int_inv, ry.int_inv]; exact .inl ⟨_, _, rfl, rfl, q.ret S _ (.int _)⟩
  · split at q
    · rename_i hz
      rw [rx.str_inv, ry.str_inv]; exact .inr (.inl ⟨_, _, rfl, rfl, hz, q.ret S _ (.str _)⟩)
    · exact q.elim
  · split at q
    · rename_i hz
      cases rx with
      | lst hx r1 => cases ry with
        | lst hy r2 => exact .inr (.inr (.inl ⟨_, _, _, _, rfl, rfl, ex_l S.ex hx, ex_l S.ex hy, by rw [r1.length, r2.length]; exact hz, new_lst S (r1.append r2) q⟩))
    · exact q.elim
  · split at q
    · rename_i l m hz
      cases rx with
      | tup hx r1 => cases ry with
        | tup hy r2 =>
          refine .inr (.inr (.inr ⟨_, _, _, _, rfl, rfl, ex_t S.ex hx, ex_t S.ex hy, ?_, by rw [r1.length, r2.length]; exact hz.2, fun w => ?_, fun _ => new_tup S (r1.append r2) q⟩))
          · intro w; subst w; cases r1; cases hz.1
          · subst w
            cases r2
            rw [List.append_nil] at q
            exact q.ret S _ (.tup hx r1)
    · exact q.elim
  · exact q.elim
/-! ### * -/
theorem je_mul (ja : JE X W a fa) (jb : JE X W b fb) : JE X W (.BinOp a .Mult b pos) (m2 fa fb (g2i iMul)) := je_op op_mulX (rj_rI (C := IntMulOk) fun _ _ _ _ _ => .int _) ja jb
def repOk (n : Nat) (k : Int) : Prop := -(2 ^ 63) ≤ k ∧ k < 2 ^ 63 ∧ n * k.toNat ≤ sizeLine
instance (n : Nat) (k : Int) : Decidable (repOk n k) := by unfold repOk; infer_instance
theorem rps_rep {K : PySem.W.Frag} {mg : MG} {H : Hp} {vs : List V} {ds : List D} (r : Rps K mg H vs ds) : ∀ n, Rps K mg H (List.replicate n vs).flatten (List.replicate n ds).flatten
  | 0 => .nil
  | n + 1 => by
    rw [List.replicate_succ, List.replicate_succ, List.flatten_cons, List.flatten_cons]
    exact r.append (rps_rep r n)
/-- [..] * n -/
def mRep (f : M (List D)) (fb : M D) : M D := bnd f fun ds => if szOk ds.length then bnd fb fun y => match y with
  | .int k => if repOk ds.length k then ret (.lst (List.replicate k.toNat ds).flatten) else stk
  | _ => stk else stk
theorem je_rep {p2 : Pos} (ja : JA X W es f) (jb : JE X W b fb) : JE X W (.BinOp (.List es p2) .Mult b pos) (mRep f fb) := by
  obtain ⟨t, p, h⟩ := ja.ex
  obtain ⟨tb, pb, hb⟩ := jb.ex
  refine ⟨⟨_, pe_op op_rep (pe_lst p) pb, fun ps σ Hf H env S Q z => ?_⟩⟩
  refine h ps σ Hf H env S _ (EG.bnd z fun ds e1 Hf1 H1 x1 S1 h1 vs r => ?_)
  split at h1
  · rename_i hz
    refine ⟨by rw [r.length]; exact hz, fun l nl => ?_⟩
    have S2 := S1.froze (o := .lst vs) nl
    have x2 : Ex Hf1 (upd Hf1 l (.lst vs)) := Ex.new (fresh_back S1.ex nl)
    refine hb ps σ _ _ e1 S2 _ (EG.bnd (EG.mono x2 h1) fun y e3 Hf3 H3 x3 S3 h3 v rv => ?_)
    split at h3
    · rename_i k
      split at h3
      · rename_i hc
        rw [rv.int_inv]
        refine ⟨l, k, vs, rfl, rfl, S3.ex _ _ (x3 _ _ upd_same), hc.1, hc.2.1, by rw [r.length]; exact hc.2.2, ?_⟩
        exact new_lst S3 ((rps_rep (r.mono (x2.trans x3)) _)) h3
      · exact h3.elim
    · exact h3.elim
  · exact h1.elim

/-! ### subscripts -/
def ixE {α : Type} (l : List α) (k : Int) : Option α := atI l k
theorem rps_at {K : PySem.W.Frag} {mg : MG} {H : Hp} {vs : List V} {ds : List D} {k : Int} {d : D} (r : Rps K mg H vs ds) (h : atI ds k = some d) : ∃ v, atI vs k = some v ∧ Rp K mg H v d := by
  unfold atI at h ⊢
  rw [r.length]
  cases q : ixN ds.length k with
  | none => rw [q] at h; cases h
  | some j =>
    rw [q] at h
    exact r.get h
def oM : Option D → M D
  | some d => ret d
  | none => stk
def dIx (x : D) (k : Int) : M D := match x with
  | .lst l => oM (atI l k)
  | .tup l => oM (atI l k)
  | .str z => if z.length ≤ sizeLine then oM ((atI z.cps.toList k).map fun c => .str ⟨#[c]⟩) else stk
  | _ => stk
def mIx (x y : D) : M D := match y with | .int k => dIx x k | _ => stk
theorem rj_ix : RJ X W (rIx X.K) mIx := by
  intro ps σ Hf H env x y dx dy Q S rx ry q
  unfold mIx at q
  split at q
  · rename_i k
    rw [ry.int_inv]
    cases dx with
    | lst l =>
      have q : EG X.K X.mg ps W Hf σ (Pd X.K X.mg Q) (oM (atI l k) env) := q
      cases hd : atI l k with
      | some d =>
        rw [hd] at q
        cases rx with
        | lst hx r => obtain ⟨v, hv, rv⟩ := rps_at r hd; exact .inl ⟨_, _, _, _, rfl, rfl, ex_l S.ex hx, hv, q.ret S _ rv⟩
      | none => rw [hd] at q; exact q.elim
    | tup l =>
      have q : EG X.K X.mg ps W Hf σ (Pd X.K X.mg Q) (oM (atI l k) env) := q
      cases hd : atI l k with
      | some d =>
        rw [hd] at q
        cases rx with
        | tup hx r => obtain ⟨v, hv, rv⟩ := rps_at r hd; exact .inr (.inl ⟨_, _, _, _, rfl, rfl, ex_t S.ex hx, hv, q.ret S _ rv⟩)
      | none => rw [hd] at q; exact q.elim
    | str z =>
      have q : EG X.K X.mg ps W Hf σ (Pd X.K X.mg Q) ((if z.length ≤ sizeLine then oM ((atI z.cps.toList k).map fun c => .str ⟨#[c]⟩) else stk) env) := q
      by_cases hz : z.length ≤ sizeLine
      · rw [if_pos hz] at q
        cases hc : atI z.cps.toList k with
        | some c => rw [hc] at q; rw [rx.str_inv]; exact .inr (.inr ⟨_, _, _, rfl, rfl, hz, hc, q.ret S _ (.str _)⟩)
        | none => rw [hc] at q; exact q.elim
      · rw [if_neg hz] at q; exact q.elim
    | non => exact q.elim
    | bl b => exact q.elim
    | int i => exact q.elim
    | obj c ns vs => exact q.elim
    | opq a => exact q.elim
  · exact q.elim
theorem je_ix (ja : JE X W a fa) (jb : JE X W b fb) (hs : PlainIx b := by exact fun _ _ => rfl) : JE X W (.Subscript a b pos) (m2 fa fb mIx) := by
  obtain ⟨ta, pa, ha⟩ := ja.ex
  obtain ⟨tb, pb, hb⟩ := jb.ex
  exact ⟨⟨_, pe_ix ix_seq pa pb hs, fun ps σ Hf H env S Q h => tOp_ok ha hb rj_ix S h⟩⟩
/-- the slot bears something -/
def has (i : Nat) {α : Type} (f : M α) : M α := fun env => match env[i]? with
  | some (.val _) => f env
  | some (.own _ _) => f env
  | _ => .stuck
/-- what the slot holds, read as data -/
def slD (env : DEnv) (i : Nat) : Option D := match env[i]? with
  | some (.val d) => some d
  | some (.own _ (.lst l)) => some (.lst l)
  | _ => none
def onSl (i : Nat) (g : D → M D) : M D := fun env => match slD env i with | some d => g d env | none => .stuck
theorem has_slot {K : PySem.W.Frag} {mg : MG} {ps : Fg} {Hf H : Hp} {σ : L2.St} {env : DEnv} {α : Type} {P : α → Hp → Hp → Prop} {f : M α} {i : Nat} (S : SR K mg ps Hf H σ env) (h : EG K mg ps W Hf σ P (has i f env)) :
    ∃ v, σ[i]? = some (some v) ∧ EG K mg ps W Hf σ P (f env) := by
  unfold has at h
  split at h
  · rename_i d q; obtain ⟨v, h1, _⟩ := S.val q; exact ⟨v, h1, h⟩
  · rename_i k o q; obtain ⟨p, _, h1, _⟩ := S.own q; exact ⟨_, h1, h⟩
  · exact h.elim
/-- the slot's value, seen where its object may still be changed -/
theorem sl_see {K : PySem.W.Frag} {mg : MG} {ps : Fg} {Hf H : Hp} {σ : L2.St} {env : DEnv} {i : Nat} {v : V} {d : D} (S : SR K mg ps Hf H σ env) (hv : σ[i]? = some (some v)) (h : slD env i = some d) :
    Rp K mg Hf v d ∨ ∃ p vs l, v = .ref p ∧ d = .lst l ∧ H p = some (.lst vs) ∧ Rps K mg Hf vs l := by
  unfold slD at h
  split at h
  · rename_i d' q
    cases h
    obtain ⟨u, h1, h2⟩ := S.val q
    rw [hv] at h1; cases h1
    exact .inl h2
  · rename_i k l q
    cases h
    obtain ⟨p, o, h1, _, h3, ⟨vs, rfl, r⟩, _⟩ := S.own q
    rw [hv] at h1; cases h1
    exact .inr ⟨p, vs, l, rfl, rfl, h3, r⟩
  · cases h
/-- x[e], x a name that may own its list -/
def mIxN (i : Nat) (fb : M D) : M D := has i (bnd fb fun y => onSl i fun x => mIx x y)
theorem je_ixN (V : Nm X N sc raw) {i : Nat} {x : Str} {p2 : Pos} (hv : okV N sc i x = true) (jb : JE X W b fb) (hs : PlainIx b := by exact fun _ _ => rfl) : JE X W (.Subscript (.Name x p2) b pos) (mIxN i fb) := by
  obtain ⟨hN, hv, hd, hcd⟩ := V.v hv
  obtain ⟨tb, pb, hb⟩ := jb.ex
  refine ⟨⟨_, pe_ix ix_seq (pe_var hN hv hd hcd) pb hs, fun ps σ Hf H env S Q z => ?_⟩⟩
  obtain ⟨v, hσ, z⟩ := has_slot S z
  refine ⟨v, hσ, hb ps σ Hf H env S _ (EG.bnd z fun y e1 Hf1 H1 x1 S1 h1 u ru => ?_)⟩
  unfold onSl at h1
  cases q : slD e1 i with
  | none => rw [q] at h1; exact h1.elim
  | some d =>
    rw [q] at h1
    rcases sl_see S1 hσ q with r | ⟨p, vs, l, rfl, rfl, hp, r⟩
    · exact rj_ix ps σ Hf1 H1 e1 v u d y Q S1 r ru h1
    · cases y with
      | int k =>
        have h1 : EG X.K X.mg ps W Hf1 σ (Pd X.K X.mg Q) (oM (atI l k) e1) := h1
        cases hd : atI l k with
        | some d =>
          rw [hd] at h1
          obtain ⟨v, hv, rv⟩ := rps_at r hd
          rw [ru.int_inv]
          exact .inl ⟨_, _, _, _, rfl, rfl, .inl (.inl hp), hv, h1.ret S1 _ rv⟩
        | none => rw [hd] at h1; exact h1.elim
      | non => exact h1.elim
      | bl b => exact h1.elim
      | str s => exact h1.elim
      | tup s => exact h1.elim
      | lst s => exact h1.elim
      | obj c ns vs => exact h1.elim
      | opq a => exact h1.elim
/-- len(x), x a name that may own its list -/
theorem je_lenN (V : Nm X N sc raw) {i : Nat} {x : Str} {p p2 : Pos} (hv : okV N sc i x = true) (hG : okG sc "len" = true) (hm : X.mg "len" = none) (he : starEach [.Name x p2] X.env = [(false, eval (.Name x p2) X.env)] := by rfl) : JE X W (.Call (.Name "len" p) [.Name x p2] [] pos) (has i (onSl i fun d => cLen [d])) := by
  obtain ⟨hN, hv, hd, hcd⟩ := V.v hv
  obtain ⟨hg, _, _⟩ := V.g hG
  refine ⟨⟨_, pe_callB (call_len_seq.or call_len_str) hg hm (by decide +kernel) (pa_cons (pe_var hN hv hd hcd) pa_nil he) (by decide) (by decide) he rfl, fun ps σ Hf H env S Q z => ?_⟩⟩
  obtain ⟨v, hσ, z⟩ := has_slot S z
  refine ⟨v, hσ, ?_⟩
  unfold onSl at z
  cases q : slD env i with
  | none => rw [q] at z; exact z.elim
  | some d =>
    rw [q] at z
    rcases sl_see S hσ q with r | ⟨p, vs, l, rfl, rfl, hp, r⟩
    · cases d with
      | lst l => cases r with
        | lst hq r => exact .inl ⟨_, _, rfl, .inl (ex_l S.ex hq), by rw [r.length]; exact z.ret S _ (.int _)⟩
      | tup l => cases r with
        | tup hq r => exact .inl ⟨_, _, rfl, .inr (ex_t S.ex hq), by rw [r.length]; exact z.ret S _ (.int _)⟩
      | str s =>
        rw [r.str_inv]
        have z : EG X.K X.mg ps W Hf σ (Pd X.K X.mg Q) ((if s.length ≤ sizeLine then ret (D.int s.length) else stk) env) := z
        by_cases hz : s.length ≤ sizeLine
        · rw [if_pos hz] at z; exact .inr ⟨_, rfl, hz, z.ret S _ (.int _)⟩
        · rw [if_neg hz] at z; exact z.elim
      | non => exact z.elim
      | bl b => exact z.elim
      | int b => exact z.elim
      | obj c ns vs => exact z.elim
      | opq a => exact z.elim
    · exact .inl ⟨_, _, rfl, .inl (.inl (.inl hp)), by rw [r.length]; exact z.ret S _ (.int _)⟩
/-! ### isinstance, for a built-in type -/
theorem je_isi {T : String} {p p2 : Pos} {x : Str} (V : Nm X N sc raw) (hG : okG sc "isinstance" = true) (hGT : okG sc x = true) (hm : X.mg "isinstance" = none) (hT : X.mg x = none) (hv : bootBuiltins x = some (.type T)) (ja : JE X W a fa)
    (he : starEach [a, .Name x p2] X.env = (false, eval a X.env) :: starEach [.Name x p2] X.env := by rfl) (he2 : starEach [.Name x p2] X.env = [(false, eval (.Name x p2) X.env)] := by rfl) (hpl : (backTo pos (starEach [.Name x p2] X.env)).any (·.1) = false := by rfl) :
    JE X W (.Call (.Name "isinstance" p) [a, .Name x p2] [] pos) (bnd fa fun d => cIsi T [d]) := by
  obtain ⟨hg, _, _⟩ := V.g hG
  obtain ⟨hgT, hd, hnn⟩ := V.g hGT
  obtain ⟨t, q, h⟩ := ja.ex
  refine ⟨⟨_, pe_callB call_isi hg hm (by decide +kernel) (pa_cons q (pa_cons (pe_bltn hgT hT hv (v := L2.V.ty T) rfl hnn hd) pa_nil he2) he) (by decide) (by decide) he hpl, fun ps σ Hf H env S Q z => ?_⟩⟩
  refine h ps σ Hf H env S _ (EG.bnd z fun d e1 Hf1 H1 x1 S1 h1 v rv => ?_)
  have key : ∀ (b : Bool), kitB (tyD d) T = some b → (∀ c ns vs, d ≠ .obj c ns vs) → (∀ a, d ≠ .opq a) → EG X.K X.mg ps W Hf1 σ (Pd X.K X.mg Q) (ret (D.bl b) e1) → rIsi X.K [v, L2.V.ty T] H1 Q := fun b hb hno hno2 q => by
    have rv' := rv.mono S1.ex
    have ty : TyX X.K H1 v (.type (tyD d)) := by
      cases rv' with
      | non => exact .base .non
      | bl b => exact .base (.bl b)
      | int b => exact .base (.int b)
      | str b => exact .base (.str b)
      | tup hq r =>
        rcases hq with (hq | ⟨o, hq⟩) | ⟨o, its, n, hk, hc, _⟩
        · exact .base (.tup hq)
        · exact .fTuple hq
        · exact .kTuple hk hc
      | lst hq r =>
        rcases hq with (hq | ⟨o, hq⟩) | ⟨o, its, n, hk, hc, _⟩
        · exact .base (.lst hq)
        · exact .base (.frz hq)
        · exact .kList hk hc
      | obj _ _ _ _ => exact (hno _ _ _ rfl).elim
      | opq _ => exact (hno2 _ rfl).elim
    exact ⟨v, .ty T, _, _, b, rfl, .ty T, ty, kit_ty hb, q.ret S1 _ (.bl _)⟩
  cases d with
  | obj c ns vs => exact h1.elim
  | opq a => exact h1.elim
  | non => unfold cIsi at h1; cases q : kitB (tyD .non) T with
    | none => simp only [q] at h1; exact h1.elim
    | some b => simp only [q] at h1; exact key b q (fun _ _ _ z => nomatch z) (fun _ z => nomatch z) h1
  | bl x => unfold cIsi at h1; cases q : kitB (tyD (.bl x)) T with
    | none => simp only [q] at h1; exact h1.elim
    | some b => simp only [q] at h1; exact key b q (fun _ _ _ z => nomatch z) (fun _ z => nomatch z) h1
  | int x => unfold cIsi at h1; cases q : kitB (tyD (.int x)) T with
    | none => simp only [q] at h1; exact h1.elim
    | some b => simp only [q] at h1; exact key b q (fun _ _ _ z => nomatch z) (fun _ z => nomatch z) h1
  | str x => unfold cIsi at h1; cases q : kitB (tyD (.str x)) T with
    | none => simp only [q] at h1; exact h1.elim
    | some b => simp only [q] at h1; exact key b q (fun _ _ _ z => nomatch z) (fun _ z => nomatch z) h1
  | tup x => unfold cIsi at h1; cases q : kitB (tyD (.tup x)) T with
    | none => simp only [q] at h1; exact h1.elim
    | some b => simp only [q] at h1; exact key b q (fun _ _ _ z => nomatch z) (fun _ z => nomatch z) h1
  | lst x => unfold cIsi at h1; cases q : kitB (tyD (.lst x)) T with
    | none => simp only [q] at h1; exact h1.elim
    | some b => simp only [q] at h1; exact key b q (fun _ _ _ z => nomatch z) (fun _ z => nomatch z) h1
/-! ### comparisons as tests -/
theorem jt_cmp {op : CmpOp} {r : R2} {g : D → D → M D} (ho : OpR X (compareOp op) r) (hr : RJ X W r g) (ja : JE X W a fa) (jb : JE X W b fb) (hm : behindInMarks op b = false := by first | exact nomark _ | rfl) : JT X W (.Compare a [op] [b] pos) (bnd (m2 fa fb g) mB) := by
  obtain ⟨ta, pa, ha⟩ := ja.ex
  obtain ⟨tb, pb, hb⟩ := jb.ex
  refine ⟨⟨_, pt_cmpR ho pa pb hm, fun ps σ Hf H env S Q h => ?_⟩⟩
  refine ha ps σ Hf H env S _ ?_
  have h : EG X.K X.mg ps W Hf σ (Pb Q) (bnd fa (fun x => bnd fb fun y => bnd (g x y) mB) env) := by
    have e : bnd (m2 fa fb g) mB env = bnd fa (fun x => bnd fb fun y => bnd (g x y) mB) env := by
      unfold m2 bnd
      cases fa env with
      | ok x e1 =>
        dsimp only
        cases fb e1 with
        | ok y e2 => rfl
        | exc _ _ _ => rfl
        | stuck => rfl
      | exc _ _ _ => rfl
      | stuck => rfl
    rw [← e]; exact h
  refine EG.bnd h fun x e1 Hf1 H1 x1 S1 h1 v rv => ?_
  refine hb ps σ Hf1 H1 e1 S1 _ (EG.bnd h1 fun y e2 Hf2 H2 x2 S2 h2 u ru => ?_)
  refine hr ps σ Hf2 H2 e2 v u x y _ S2 (rv.mono x2) ru (EG.bnd h2 fun z e3 Hf3 H3 x3 S3 h3 v3 rv3 => ?_)
  unfold mB at h3
  split at h3
  · exact ⟨_, rv3.bl_inv, EG.ret (W := W) (P := Pb Q) h3 S3⟩
  · exact h3.elim
theorem jt_lt (ja : JE X W a fa) (jb : JE X W b fb) : JT X W (.Compare a [.Lt] [b] pos) (bnd (m2 fa fb (g2i (iCmp fun i j => decide (i < j)))) mB) := jt_cmp op_lt (rj_rI0 fun _ _ _ _ _ => .bl _) ja jb
theorem jt_le (ja : JE X W a fa) (jb : JE X W b fb) : JT X W (.Compare a [.LtE] [b] pos) (bnd (m2 fa fb (g2i (iCmp fun i j => decide (i ≤ j)))) mB) := jt_cmp op_le (rj_rI0 fun _ _ _ _ _ => .bl _) ja jb
theorem jt_gt (ja : JE X W a fa) (jb : JE X W b fb) : JT X W (.Compare a [.Gt] [b] pos) (bnd (m2 fa fb (g2i (iCmp fun i j => decide (j < i)))) mB) := jt_cmp op_gt (rj_rI0 fun _ _ _ _ _ => .bl _) ja jb
theorem jt_ge (ja : JE X W a fa) (jb : JE X W b fb) : JT X W (.Compare a [.GtE] [b] pos) (bnd (m2 fa fb (g2i (iCmp fun i j => decide (j ≤ i)))) mB) := jt_cmp op_ge (rj_rI0 fun _ _ _ _ _ => .bl _) ja jb
theorem jt_eq (C : CtxOk X W) (ja : JE X W a fa) (jb : JE X W b fb) : JT X W (.Compare a [.Eq] [b] pos) (bnd (m2 fa fb mEq) mB) := jt_cmp (op_eqD C.hu) rj_eq ja jb
theorem jt_ne (C : CtxOk X W) (ja : JE X W a fa) (jb : JE X W b fb) : JT X W (.Compare a [.NotEq] [b] pos) (bnd (m2 fa fb mNe) mB) := jt_cmp (op_neD C.hu) rj_ne ja jb
theorem jt_isN {j : Nat} {p2 : Pos} (ja : JE X W a fa) : JT X W (.Compare a [.Is] [.Constant .none j p2] pos) (bnd fa fun x => ret (isNon x)) := by
  obtain ⟨ta, pa, ha⟩ := ja.ex
  refine ⟨⟨_, pt_cmpR op_isN pa pe_non (nomark _), fun ps σ Hf H env S Q h => ?_⟩⟩
  refine ha ps σ Hf H env S _ (EG.bnd h fun x e1 Hf1 H1 x1 S1 h1 v rv => ⟨rfl, _, rfl, ?_⟩)
  rw [rv.non_iff]
  have q : Q (isNon x) H1 := EG.ret (W := W) (P := Pb Q) h1 S1
  cases x <;> exact q
theorem jt_isNN {j : Nat} {p2 : Pos} (ja : JE X W a fa) : JT X W (.Compare a [.IsNot] [.Constant .none j p2] pos) (bnd fa fun x => ret (!isNon x)) := by
  obtain ⟨ta, pa, ha⟩ := ja.ex
  refine ⟨⟨_, pt_cmpR op_notN pa pe_non (nomark _), fun ps σ Hf H env S Q h => ?_⟩⟩
  refine ha ps σ Hf H env S _ (EG.bnd h fun x e1 Hf1 H1 x1 S1 h1 v rv => ⟨rfl, _, rfl, ?_⟩)
  rw [rv.non_iff]
  have q : Q (!isNon x) H1 := EG.ret (W := W) (P := Pb Q) h1 S1
  cases x <;> exact q
end
end DL

/-! DLe: callees, the law's own promise, its end. -/
namespace DL
open PySem PySem.Spec PyProof.Rows L2 Evl
/-- a def that stands at the module's name x and is worth F, by level k -/
structure Callee (P : Program) (w : World) (K : PySem.W.Frag) (mg : MG) (base : Heap) (x : Str) (k n : Nat) (F : List D → Rs) : Prop where
  ex : ∃ f fd ps, FnOk P w K mg base (L2N.CX P w) k f fd ps (spP K mg n F) ∧ mg x = some (.ref f) ∧ PySem.W.keepIn K (.ref f) = true ∧ Binds K fd ps []
theorem Callee.cal {X : Cx} {x : Str} {k k' n : Nat} {F : List D → Rs} (c : Callee X.prog X.w X.K X.mg X.base x k n F) (hr : Room k' X.A) (h : k ≤ k' := by decide) : Cal X x n F := by
  obtain ⟨f, fd, ps, G, hm, hk, hb⟩ := c.ex
  exact ⟨⟨k, f, fd, ps, G, hr.mono h, hm, hk, hb⟩⟩
section
variable {P : Program} {w : World} {K : PySem.W.Frag} {mg : MG} {base : Heap}
theorem Callee.imp {x : Str} {k n : Nat} {F F' : List D → Rs} (c : Callee P w K mg base x k n F) (e : ∀ ds, ds.length = n → F' ds ≠ .stuck → F ds = F' ds) : Callee P w K mg base x k n F' := by
  obtain ⟨f, fd, ps, G, hm, hk, hb⟩ := c.ex
  exact ⟨⟨f, fd, ps, fn_imp G e, hm, hk, hb⟩⟩
theorem callee_of {x : Str} {f : Addr} {fd : FuncData} {ps : List Str} {k n : Nat} {F : List D → Rs} (G : FnOk P w K mg base (L2N.CX P w) k f fd ps (spP K mg n F)) (hm : mg x = some (.ref f)) (hk : PySem.W.keepIn K (.ref f) = true) (hb : Binds K fd ps []) : Callee P w K mg base x k n F := ⟨⟨f, fd, ps, G, hm, hk, hb⟩⟩
end
/-- the law's promise: the script, its bits; it hands back True -/
def spL (K : PySem.W.Frag) : Sp := fun vs H Q _ => ∃ (a : Addr) (ns : List Int), vs = [.ref a] ∧ SqL K H a (ns.map V.int) ∧ ns.length ≤ 63 ∧ (∀ z ∈ ns, Builtin.Int.intBits z ≤ 1048576) ∧ ∀ H', Q (.bl true) H'
theorem rps_ofInts {K : PySem.W.Frag} {mg : MG} {H : Hp} : ∀ ns : List Int, Rps K mg H (ns.map V.int) (ns.map D.int)
  | [] => .nil
  | n :: r => .cons (.int n) (rps_ofInts r)
theorem law_of {P : Program} {w : World} {K : PySem.W.Frag} {mg : MG} {base : Heap} {k : Nat} {f : Addr} {fd : FuncData} {ps : List Str} {F : List D → Rs}
    (G : FnOk P w K mg base (L2N.CX P w) k f fd ps (spP K mg 1 F)) (h : ∀ ns : List Int, ns.length ≤ 63 → (∀ z ∈ ns, Builtin.Int.intBits z ≤ 1048576) → F [.lst (ns.map .int)] = .ok (.bl true)) :
    FnOk P w K mg base (L2N.CX P w) k f fd ps (spL K) := by
  refine G.imp fun vs H Q E q => ?_
  obtain ⟨a, ns, rfl, hS, hl, hb, q⟩ := q
  refine ⟨rfl, H, [.lst (ns.map .int)], Ex.refl H, .cons (.lst hS (rps_ofInts ns)) .nil, ?_⟩
  rw [h ns hl hb]
  exact fun v Hf' H' _ _ _ r => by rw [r.bl_inv]; exact q H'
theorem cx_end (P : Program) (w : World) : ∀ (H : Hp) (s : Shared) (e : Value) (s' : Shared), L2N.CX P w [] H s (fun _ _ _ => False) e s' → False := fun H s e s' h => by
  obtain ⟨_, _, _, _, _, _, _, _, _, _, _, _, z⟩ := h
  exact z
end DL

/-! DLf: walks over sequences, comprehensions, list and tuple of a sequence, sums. -/
namespace DL
open PySem PySem.Spec PyProof.Rows L2 Evl
section
variable {X : Cx} {W : WX} {a b c e : Expr} {es : List Expr} {fa fb fc : M D} {pos : Pos} {f : M (List D)} {N : List Str} {sc raw : Scope}
/-! ### what is walked -/
theorem pi_or {tg e : Expr} {w1 w2 : TI} (h : PI X tg e w1) (k : PI X tg e w2) : PI X tg e (fun σ H R => w1 σ H R ∨ w2 σ H R) :=
  ⟨fun pins s σ H R I z => z.elim (h.run pins s σ H R I) (k.run pins s σ H R I)⟩
theorem sqL_same {K : PySem.W.Frag} {H H' : Hp} {a : Addr} {xs ys : List V} (e : Ex H H') (h : SqL K H a xs) (h' : SqL K H' a ys) (inj : SqL K H' a xs → SqL K H' a ys → xs = ys) : xs = ys := inj (ex_l e h) h'
def signsD (z : Str) : List D := z.cps.toList.map fun c => .str ⟨#[c]⟩
theorem itok_list {K : PySem.W.Frag} {mg : MG} {Hf H : Hp} {a : Addr} {vs : List V} {ds : List D} (x : Ex Hf H) (h : SqL K Hf a vs) (r : Rps K mg Hf vs ds) : ItOk K mg Hf (Itl K a) ds where
  go := fun i d hd ps σ env Hf2 H2 x2 S => by
    obtain ⟨v, hv, rv⟩ := r.get hd
    have h2 : SqL K H2 a vs := ex_l S.ex (ex_l x2 h)
    exact ⟨⟨vs, v, h2, hv⟩, fun y H3 z => ⟨Hf2, Ex.refl _, by rw [z.1]; exact S, by
      have := z.2 vs h2
      rw [hv] at this; cases this
      exact rv.mono x2⟩⟩
  stop := fun i hi ps σ env Hf2 H2 x2 S => ⟨vs, ex_l S.ex (ex_l x2 h), by rw [r.length]; exact hi⟩
theorem itok_tup {K : PySem.W.Frag} {mg : MG} {Hf H : Hp} {a : Addr} {vs : List V} {ds : List D} (x : Ex Hf H) (h : SqT K Hf a vs) (r : Rps K mg Hf vs ds) : ItOk K mg Hf (Itt K a) ds where
  go := fun i d hd ps σ env Hf2 H2 x2 S => by
    obtain ⟨v, hv, rv⟩ := r.get hd
    have h2 : SqT K H2 a vs := ex_t S.ex (ex_t x2 h)
    exact ⟨⟨vs, v, h2, hv⟩, fun y H3 z => ⟨Hf2, Ex.refl _, by rw [z.1]; exact S, by
      have := z.2 vs h2
      rw [hv] at this; cases this
      exact rv.mono x2⟩⟩
  stop := fun i hi ps σ env Hf2 H2 x2 S => ⟨vs, ex_t S.ex (ex_t x2 h), by rw [r.length]; exact hi⟩
theorem itok_str {K : PySem.W.Frag} {mg : MG} {Hf : Hp} {z : Str} : ItOk K mg Hf (Its z) (signsD z) where
  go := fun i d hd ps σ env Hf2 H2 x2 S => by
    unfold signsD at hd
    rw [List.getElem?_map] at hd
    cases q : z.cps.toList[i]? with
    | none => rw [q] at hd; cases hd
    | some c =>
      rw [q] at hd; cases hd
      have q' : z.cps[i]? = some c := by simpa using q
      have hl : i < z.cps.size := (Array.getElem?_eq_some_iff.mp q').1
      exact ⟨hl, fun y H3 w => ⟨Hf2, Ex.refl _, by rw [w.1]; exact S, by
        obtain ⟨c', h1, h2⟩ := w.2
        rw [q'] at h1; cases h1
        rw [h2]; exact .str _⟩⟩
  stop := fun i hi ps σ env Hf2 H2 x2 S => by
    unfold signsD at hi
    have h2 : z.cps.size ≤ i := by simpa using hi
    exact h2
def mSeq (f : M D) : M (List D) := bnd f fun d => match d with
  | .lst l => ret l
  | .tup l => ret l
  | .str z => ret (signsD z)
  | _ => stk
/-- for x in a list, a tuple, a text that stands still -/
theorem ji_seq {tg : Expr} (j : JE X W e fa) : JI X W tg e (mSeq fa) := by
  obtain ⟨t, p, h⟩ := j.ex
  refine ⟨⟨_, pi_or (pi_list p) (pi_or (pi_tup p) (pi_str p)), fun ps σ Hf H env S R z => ?_⟩⟩
  -- the value decides which of the three it is
  have key : ∀ (k : Nat) {P : D → Hp → Hp → Prop}, (∀ d e1 Hf1 H1, Ex Hf Hf1 → SR X.K X.mg ps Hf1 H1 σ e1 → EG X.K X.mg ps W Hf1 σ (fun ds Hf' H' => ∀ J, ItOk X.K X.mg Hf' J ds → R J H') ((match d with | .lst l => ret l | .tup l => ret l | .str z => ret (signsD z) | _ => stk : M (List D)) e1) → P d Hf1 H1) → EG X.K X.mg ps W Hf σ P (fa env) := fun k P hk =>
    EG.bnd z fun d e1 Hf1 H1 x1 S1 h1 => hk d e1 Hf1 H1 x1 S1 h1
  unfold mSeq DL.bnd at z
  cases q : fa env with
  | ok d e1 =>
    rw [q] at z
    cases d with
    | lst l =>
      refine .inl (h ps σ Hf H env S _ ?_)
      rw [q]
      intro Hf1 H1 x1 S1 v rv
      cases rv with
      | lst hq r => exact ⟨_, rfl, ⟨_, ex_l S1.ex hq⟩, z Hf1 H1 x1 S1 _ (itok_list S1.ex hq r)⟩
    | tup l =>
      refine .inr (.inl (h ps σ Hf H env S _ ?_))
      rw [q]
      intro Hf1 H1 x1 S1 v rv
      cases rv with
      | tup hq r => exact ⟨_, rfl, ⟨_, ex_t S1.ex hq⟩, z Hf1 H1 x1 S1 _ (itok_tup S1.ex hq r)⟩
    | str w =>
      refine .inr (.inr (h ps σ Hf H env S _ ?_))
      rw [q]
      intro Hf1 H1 x1 S1 v rv
      exact ⟨w, rv.str_inv, z Hf1 H1 x1 S1 _ itok_str⟩
    | non => exact z.elim
    | bl b => exact z.elim
    | int b => exact z.elim
    | obj _ _ _ => exact z.elim
    | opq _ => exact z.elim
  | exc x p e1 =>
    rw [q] at z
    refine .inl (h ps σ Hf H env S _ ?_)
    rw [q]; exact z
  | stuck => rw [q] at z; exact z.elim

/-! ### list(x), tuple(x), sum(x) -/
def cList : List D → M D := fun ds => match ds with | [.lst l] => ret (.lst l) | [.tup l] => ret (.lst l) | _ => stk
def cTuple : List D → M D := fun ds => match ds with | [.lst l] => ret (.tup l) | [.tup l] => ret (.tup l) | _ => stk
theorem je_list {p : Pos} (V : Nm X N sc raw) (hG : okG sc "list" = true) (hm : X.mg "list" = none) (ja : JA X W [a] f) (he : starEach [a] X.env = (false, eval a X.env) :: starEach [] X.env := by rfl) : JE X W (.Call (.Name "list" p) [a] [] pos) (bnd f cList) := by
  refine je_callTy call_list_of (fun ps σ Hf H env xs ds Q S rx q => ?_) V hG hm ja (by decide +kernel) he
  unfold cList at q
  split at q
  · cases rx with
    | cons r1 r2 => cases r2; cases r1 with
      | lst hq r => exact ⟨_, _, rfl, .inl (ex_l S.ex hq), new_lst S r q⟩
  · cases rx with
    | cons r1 r2 => cases r2; cases r1 with
      | tup hq r => exact ⟨_, _, rfl, .inr (ex_t S.ex hq), new_lst S r q⟩
  · exact q.elim
theorem je_tuple {p : Pos} (V : Nm X N sc raw) (hG : okG sc "tuple" = true) (hm : X.mg "tuple" = none) (ja : JA X W [a] f) (he : starEach [a] X.env = (false, eval a X.env) :: starEach [] X.env := by rfl) : JE X W (.Call (.Name "tuple" p) [a] [] pos) (bnd f cTuple) := by
  refine je_callTy call_tuple_of (fun ps σ Hf H env xs ds Q S rx q => ?_) V hG hm ja (by decide +kernel) he
  unfold cTuple at q
  split at q
  · cases rx with
    | cons r1 r2 => cases r2; cases r1 with
      | lst hq r => exact ⟨_, _, rfl, .inl ⟨ex_l S.ex hq, new_tup S r q⟩⟩
  · cases rx with
    | cons r1 r2 => cases r2; cases r1 with
      | tup hq r => exact ⟨_, _, rfl, .inr ⟨ex_t S.ex hq, q.ret S _ (.tup hq r)⟩⟩
  · exact q.elim
/-- the whole numbers of a list, if it holds nothing else -/
def asInts : List D → Option (List Int)
  | [] => some []
  | .int i :: r => (asInts r).map (i :: ·)
  | _ => none
theorem asInts_eq : ∀ {l : List D} {ns : List Int}, asInts l = some ns → l = ns.map .int
  | [], ns, h => by cases h; rfl
  | .int i :: r, ns, h => by
    unfold asInts at h
    cases q : asInts r with
    | none => rw [q] at h; cases h
    | some m => rw [q] at h; cases h; rw [asInts_eq q]; rfl
  | .non :: _, _, h => by cases h
  | .bl _ :: _, _, h => by cases h
  | .str _ :: _, _, h => by cases h
  | .tup _ :: _, _, h => by cases h
  | .lst _ :: _, _, h => by cases h
  | .obj _ _ _ :: _, _, h => by cases h
  | .opq _ :: _, _, h => by cases h
theorem asInts_map : ∀ ns : List Int, asInts (ns.map .int) = some ns
  | [] => rfl
  | n :: r => by
    show (asInts (r.map .int)).map (n :: ·) = _
    rw [asInts_map r]; rfl
def oI (o : Option (List Int)) : M D := match o with | some ns => ret (.int ns.sum) | none => stk
def cSum : List D → M D := fun ds => match ds with | [.lst l] => oI (asInts l) | _ => stk
theorem je_sum {p : Pos} (C : CtxOk X W) (V : Nm X N sc raw) (hG : okG sc "sum" = true) (hm : X.mg "sum" = none) (ja : JA X W [a] f) (he : starEach [a] X.env = (false, eval a X.env) :: starEach [] X.env := by rfl) : JE X W (.Call (.Name "sum" p) [a] [] pos) (bnd f cSum) := by
  refine je_callB (cr_sum C.calm) (fun ps σ Hf H env xs ds Q S rx q => ?_) V hG hm ja (by decide +kernel) he
  unfold cSum at q
  split at q
  · rename_i l
    cases w : asInts l with
    | none => rw [w] at q; exact q.elim
    | some ns =>
      rw [w] at q
      have e := asInts_eq w
      subst e
      cases rx with
      | cons r1 r2 => cases r2; cases r1 with
        | lst hq r =>
          have ev := r.ints
          subst ev
          exact ⟨_, ns, rfl, ex_l S.ex hq, q.ret S _ (.int _)⟩
  · exact q.elim

/-! ### comprehensions -/
/-- the block's own context, seen from X -/
structure Bl (X X' : Cx) : Prop where
  prog : X'.prog = X.prog
  w : X'.w = X.w
  K : X'.K = X.K
  mg : X'.mg = X.mg
  base : X'.base = X.base
  A : X'.A = X.A
theorem Bl.z {X X' : Cx} (B : Bl X X') {x : Str} (h : X.mg x = none) : X'.mg x = none := by rw [B.mg]; exact h
theorem Bl.ze {X X' : Cx} (B : Bl X X') {x : Str} {v : Value} (h : X.mg x = some v) : X'.mg x = some v := by rw [B.mg]; exact h
theorem Bl.cal {X X' : Cx} (B : Bl X X') {x : Str} {n : Nat} {F : List D → Rs} (c : Cal X x n F) : Cal X' x n F := by
  obtain ⟨k, f, fd, ps, h⟩ := c.ex
  refine ⟨⟨k, f, fd, ps, ?_⟩⟩
  rw [B.prog, B.w, B.K, B.mg, B.base, B.A]
  exact h
abbrev WF : WX := fun _ _ _ _ => False
def wipeE (e : DEnv) : List Nat → DEnv
  | [] => e
  | v :: vs => (wipeE e vs).set v .no
theorem SR.wipe {K : PySem.W.Frag} {mg : MG} {ps : Fg} {Hf H : Hp} {σ : L2.St} {e : DEnv} (S : SR K mg ps Hf H σ e) : ∀ vs : List Nat, SR K mg ps Hf H (L2.wipe σ vs) (wipeE e vs)
  | [] => S
  | v :: vs => (S.wipe vs).drop v none
def noOwn (e : DEnv) (vs : List Nat) : Bool := vs.all fun v => match e[v]? with | some (.own _ _) => false | _ => true
/-- the slots vs as they were -/
def backE (e0 e : DEnv) : List Nat → DEnv
  | [] => e
  | v :: vs => (backE e0 e vs).set v (e0.getD v .no)
theorem backE_len {e0 e : DEnv} : ∀ vs, (backE e0 e vs).length = e.length
  | [] => rfl
  | v :: vs => by unfold backE; rw [List.length_set, backE_len vs]
theorem backE_out {e0 e : DEnv} {i : Nat} : ∀ {vs}, i ∉ vs → (backE e0 e vs)[i]? = e[i]?
  | [], _ => rfl
  | v :: vs, h => by
    unfold backE
    rw [List.getElem?_set_ne (fun z => h (by subst z; exact List.mem_cons_self)), backE_out (fun z => h (List.mem_cons_of_mem _ z))]
theorem backE_in {e0 e : DEnv} {i : Nat} (hl : i < e.length) : ∀ {vs}, i ∈ vs → (backE e0 e vs)[i]? = some (e0.getD i .no)
  | [], h => by cases h
  | v :: vs, h => by
    unfold backE
    by_cases hv : v = i
    · subst hv; rw [List.getElem?_set_self (by rw [backE_len]; exact hl)]
    · rw [List.getElem?_set_ne hv]
      exact backE_in hl ((List.mem_cons.mp h).resolve_left fun z => hv z.symm)
theorem SR.back {K : PySem.W.Frag} {mg : MG} {ps : Fg} {Hf0 H0 Hf H : Hp} {σ : L2.St} {e0 e : DEnv} {vs : List Nat} (S0 : SR K mg ps Hf0 H0 σ e0) (x : Ex Hf0 Hf) (S : SR K mg ps Hf H (L2.wipe σ vs) e) (no : noOwn e0 vs = true) : SR K mg ps Hf H σ (backE e0 e vs) := by
  have hl : e.length = e0.length := by rw [← S.len, L2.wipe_length, S0.len]
  have noO : ∀ i ∈ vs, ∀ k l, e0[i]? ≠ some (.own k l) := fun i hi k l q => by
    have := List.all_eq_true.mp no i hi
    rw [q] at this; cases this
  have own : ∀ {i : Nat} {k : Option Nat} {l : OD}, (backE e0 e vs)[i]? = some (.own k l) → i ∉ vs ∧ e[i]? = some (.own k l) := fun {i k l} q => by
    by_cases hi : i ∈ vs
    · exfalso
      have hlt : i < e.length := by
        have := (List.getElem?_eq_some_iff.mp q).1; rw [backE_len] at this; exact this
      rw [backE_in hlt hi] at q
      have h0 : i < e0.length := by omega
      rw [List.getD_eq_getElem?_getD, List.getElem?_eq_getElem h0] at q
      exact noO i hi k l (by rw [List.getElem?_eq_getElem h0]; exact q)
    · rw [backE_out hi] at q; exact ⟨hi, q⟩
  refine ⟨S.ex, by rw [backE_len, hl, S0.len], fun i s h => ?_, fun i j k k' l l' p hij h1 h2 h3 h4 => ?_, fun a o h => ?_⟩
  · by_cases hi : i ∈ vs
    · have hlt : i < e.length := by
        have := (List.getElem?_eq_some_iff.mp h).1; rw [backE_len] at this; exact this
      rw [backE_in hlt hi] at h
      cases h
      have h0 : i < e0.length := by omega
      obtain ⟨v, hv, r⟩ := S0.sl i _ (List.getElem?_eq_getElem h0)
      refine ⟨v, hv, ?_⟩
      rw [List.getD_eq_getElem?_getD, List.getElem?_eq_getElem h0]
      show SlR K mg ps.ps Hf H v e0[i]
      cases q : e0[i] with
      | no => trivial
      | val d => rw [q] at r; obtain ⟨u, a, b⟩ := r; exact ⟨u, a, b.mono x⟩
      | own k l => exact (noO i hi k l (by rw [List.getElem?_eq_getElem h0, q])).elim
    · rw [backE_out hi] at h
      obtain ⟨v, hv, r⟩ := S.sl i s h
      rw [L2.wipe_out hi] at hv
      exact ⟨v, hv, r⟩
  · obtain ⟨a1, b1⟩ := own h1
    obtain ⟨a2, b2⟩ := own h2
    exact S.ap i j k k' l l' p hij b1 b2 (by rw [L2.wipe_out a1]; exact h3) (by rw [L2.wipe_out a2]; exact h4)
  · obtain ⟨g1, g2, g3⟩ := S.fg a o h
    refine ⟨g1, g2, fun i k l q1 q2 => ?_⟩
    obtain ⟨a1, b1⟩ := own q1
    exact g3 i k l b1 (by rw [L2.wipe_out a1]; exact q2)
/-- targets that store into the slots vs alone -/
def UGv (K : PySem.W.Frag) (mg : MG) (ps : Fg) (σ : L2.St) (vs : List Nat) (Q : L2.St → Hp → Prop) (Hf : Hp) : Res Unit → Prop
  | .ok _ e' => ∀ σ' Hf' H', Ex Hf Hf' → SR K mg ps Hf' H' σ' e' → L2.wipe σ' vs = L2.wipe σ vs → Q σ' H'
  | _ => False
structure JGv (X : Cx) (vs : List Nat) (tg : Expr) (g : D → M Unit) : Prop where
  ex : ∃ t, PG X tg t ∧ ∀ (ps : Fg) (σ : L2.St) (Hf H : Hp) (env : DEnv) (v : V) (d : D), SR X.K X.mg ps Hf H σ env → Rp X.K X.mg Hf v d → ∀ Q : L2.St → Hp → Prop, UGv X.K X.mg ps σ vs Q Hf (g d env) → t v σ H Q
structure JGvs (X : Cx) (vs : List Nat) (tgs : List Expr) (g : List D → M Unit) : Prop where
  ex : ∃ t, PGs X tgs t ∧ ∀ (ps : Fg) (σ : L2.St) (Hf H : Hp) (env : DEnv) (v : List V) (d : List D), SR X.K X.mg ps Hf H σ env → Rps X.K X.mg Hf v d → ∀ Q : L2.St → Hp → Prop, UGv X.K X.mg ps σ vs Q Hf (g d env) → t v σ H Q
theorem wipe_put {σ : L2.St} {i : Nat} {x : Option V} : ∀ {vs : List Nat}, i ∈ vs → L2.wipe (σ.set i x) vs = L2.wipe σ vs
  | [], h => by cases h
  | v :: vs, h => by
    unfold L2.wipe
    by_cases hi : i ∈ vs
    · rw [wipe_put hi]
    · have e : v = i := ((List.mem_cons.mp h).resolve_right hi).symm
      subst e
      have : ∀ ws : List Nat, v ∉ ws → L2.wipe (σ.set v x) ws = (L2.wipe σ ws).set v x := by
        intro ws
        induction ws with
        | nil => intro _; rfl
        | cons w ws ih =>
          intro hw
          unfold L2.wipe
          rw [ih (fun z => hw (List.mem_cons_of_mem _ z)), List.set_comm _ _ (fun z => hw (by subst z; exact List.mem_cons_self))]
      rw [this vs hi, List.set_set]
theorem jgv_name {vs : List Nat} (V : Nm X N sc raw) {i : Nat} {x : Str} (hS : okS N sc raw i x = true) (hi : i ∈ vs) : JGv X vs (.Name x pos) (gN i) :=
  ⟨⟨_, pg_name (i := i) V.nodup (V.s hS).1 (V.s hS).2.1 (V.s hS).2.2, fun ps σ Hf H env v d S r Q z => z _ Hf H (Ex.refl _) (S.put i r) (wipe_put hi)⟩⟩
theorem jgvs_nil {vs : List Nat} : JGvs X vs [] gsNil := ⟨⟨_, pgs_nil, fun ps σ Hf H env v d S r Q z => by
  cases r with
  | nil => exact ⟨rfl, z σ Hf H (Ex.refl _) S rfl⟩
  | cons _ _ => exact z.elim⟩⟩
theorem jgvs_cons {vs : List Nat} {g1 : D → M Unit} {gs : List D → M Unit} (j : JGv X vs e g1) (k : JGvs X vs es gs) (hs : (assignEach (e :: es) X.env).map (·.2) = assign e X.env :: (assignEach es X.env).map (·.2) := by rfl) : JGvs X vs (e :: es) (gsCons g1 gs) := by
  obtain ⟨t, p, h⟩ := j.ex
  obtain ⟨u, q, hu⟩ := k.ex
  refine ⟨⟨_, pgs_cons p q hs, fun ps σ Hf H env v d S r Q z => ?_⟩⟩
  cases r with
  | nil => exact z.elim
  | cons r1 r2 =>
    refine ⟨_, _, rfl, h ps σ Hf H env _ _ S r1 _ ?_⟩
    have z : UGv X.K X.mg ps σ vs Q Hf (bnd (g1 _) (fun _ => gs _) env) := z
    unfold DL.bnd at z
    cases w : g1 _ env with
    | ok a e1 =>
      rw [w] at z
      intro σ' Hf' H' x S' hw
      refine hu ps σ' Hf' H' e1 _ _ S' (r2.mono x) Q ?_
      dsimp only at z
      cases w2 : gs _ e1 with
      | ok a2 e2 => rw [w2] at z; exact fun σ2 Hf2 H2 x2 S2 hw2 => z σ2 Hf2 H2 (x.trans x2) S2 (hw2.trans hw)
      | exc _ _ _ => rw [w2] at z; exact z
      | stuck => rw [w2] at z; exact z
    | exc _ _ _ => rw [w] at z; exact z
    | stuck => rw [w] at z; exact z
theorem jgv_tup {vs : List Nat} {gs : List D → M Unit} {k n : Nat} (hc : X.calm = true) (j : JGvs X vs es gs) (hn : (assignEach es X.env).length = n := by rfl) (hst : (assignEach es X.env).findIdx? (·.1) = none := by rfl) : JGv X vs (.Tuple es k pos) (gTp n gs) := by
  obtain ⟨t, p, h⟩ := j.ex
  refine ⟨⟨_, pg_or (pg_tup hc p hn hst) (pg_lst hc p hn hst), fun ps σ Hf H env v d S r Q z => ?_⟩⟩
  unfold gTp at z
  split at z
  · split at z
    · rename_i hl
      cases r with
      | tup hq rr => exact .inl ⟨_, _, rfl, ex_t S.ex hq, by rw [rr.length]; exact hl, h ps σ Hf H env _ _ S rr Q z⟩
    · exact z.elim
  · split at z
    · rename_i hl
      cases r with
      | lst hq rr => exact .inr ⟨_, _, rfl, ex_l S.ex hq, by rw [rr.length]; exact hl, h ps σ Hf H env _ _ S rr Q z⟩
    · exact z.elim
  · exact z.elim
def lcL (vs : List Nat) (g : D → M Unit) (tt : M Bool) (el : M D) : List D → List D → M (List D)
  | [], acc => ret acc
  | d :: r, acc => bnd (g d) fun _ => bnd tt fun b => if b = true then bnd el (fun y e => if acc.length < sizeLine then lcL vs g tt el r (acc ++ [y]) (wipeE e vs) else .stuck) else fun e => lcL vs g tt el r acc (wipeE e vs)
/-- a comprehension: a new list -/
def mLc (vs : List Nat) (fi : M (List D)) (g : D → M Unit) (tt : M Bool) (el : M D) : M D := bnd fi fun ds e0 => if noOwn e0 vs = true then
  (match lcL vs g tt el ds [] (wipeE e0 vs) with | .ok acc e => .ok (.lst acc) (backE e0 e vs) | _ => .stuck) else .stuck
structure JTs (X : Cx) (W : WX) (ifs : List Expr) (f : M Bool) : Prop where
  ex : ∃ t, PTs X ifs t ∧ ∀ (ps : Fg) (σ : L2.St) (Hf H : Hp) (env : DEnv), SR X.K X.mg ps Hf H σ env → ∀ Q : Bool → Hp → Prop, EG X.K X.mg ps W Hf σ (Pb Q) (f env) → t σ H Q
theorem jts_nil : JTs X W [] (ret true) := ⟨⟨_, pts_nil, fun ps σ Hf H env S Q z => EG.ret (W := W) (P := Pb Q) z S⟩⟩
theorem jts_one {g : M Bool} (j : JT X W c g) : JTs X W [c] g := by
  obtain ⟨t, p, h⟩ := j.ex
  exact ⟨⟨_, pts_one p, h⟩⟩
theorem takesF {X : Cx} : L2N.Takes X WF := fun _ _ x => by
  obtain ⟨_, _, _, _, _, _, _, _, _, _, _, _, _, _, _, _, z⟩ := x
  exact z.elim
/-- what a block's judgement must say, in every context of such a block -/
abbrev InBl (X : Cx) (N : List Str) (sc scope : Scope) (J : Cx → Prop) : Prop := ∀ X' : Cx, Nm X' N (relS scope sc) scope → CtxOk X' WF → Bl X X' → J X'
theorem blk_ok {scope : Scope} {J : Cx → Prop} (C : CtxOk X W) (V : Nm X N sc raw) (hk : scope.kind = .function) (h : InBl X N sc scope J) (s : Shared) (H : Hp) (Ca : Addr) (cl : List (Str × Addr)) (fp : List Addr) : J (X.blk s H scope (compEnvC scope cl Ca X.env) fp) := by
  refine h _ ⟨V.hN, ?_, V.nd, hk, fun x hx => ?_⟩ ⟨C.calm, C.hu, PassesOwn.never, takesF⟩ ⟨rfl, rfl, rfl, rfl, rfl, rfl⟩
  · show relS scope X.env.scope = relS scope sc
    rw [V.hs]
  · show (scope.names.lookup x == some .cell) = true
    rw [hx]; rfl
theorem wipe_in {σ : L2.St} {vs : List Nat} {j : Nat} (hj : j ∈ vs) : (L2.wipe σ vs)[j]? = if j < σ.length then some none else none := by
  by_cases hl : j < σ.length
  · rw [if_pos hl]
    have hl' : j < (L2.wipe σ vs).length := by rw [L2.wipe_length]; exact hl
    cases w : (L2.wipe σ vs)[j]? with
    | none => rw [List.getElem?_eq_getElem hl'] at w; cases w
    | some o => cases o with
      | none => rfl
      | some xx => exact absurd hj (L2.wipe_some w).2
  · rw [if_neg hl, List.getElem?_eq_none (by rw [L2.wipe_length]; omega)]
theorem wipe_idem {σ : L2.St} {vs : List Nat} : L2.wipe (L2.wipe σ vs) vs = L2.wipe σ vs := by
  apply List.ext_getElem?
  intro j
  by_cases hj : j ∈ vs
  · rw [wipe_in hj, wipe_in hj, L2.wipe_length]
  · rw [L2.wipe_out hj]
/-- what is wanted behind a comprehension, seen through any such wish -/
structure LcR (X : Cx) (W : WX) (ps : Fg) (σ : L2.St) (Q : VK) (R : Hp → Res D → Prop) : Prop where
  mono : ∀ {Hf Hf' : Hp} {r : Res D}, Ex Hf Hf' → R Hf r → R Hf' r
  st : ∀ Hf, ¬ R Hf .stuck
  ex : ∀ {Hf : Hp} {x : Str} {p : Option D} {e : DEnv}, R Hf (.exc x p e) → ∀ cls dd Hf' H', Ex Hf Hf' → SR X.K X.mg ps Hf' H' σ e → IsExc X.K X.mg Hf' x p cls dd → W cls dd σ H'
  ok : ∀ {Hf H : Hp} {e : DEnv} {p : Addr} {vacc : List L2.V} {acc : List D}, SR X.K X.mg ps Hf H σ e → H p = some (.lst vacc) → Hf p = none → ps.g p = none → Rps X.K X.mg Hf vacc acc →
    (∀ (i : Nat) (k : Option Nat) (l : OD), e[i]? = some (.own k l) → σ[i]? = some (some (.ref p)) → False) → R Hf (.ok (.lst acc) e) → Q (.ref p) H
theorem lc_ok {scope : Scope} {own : List (Str × Nat)} {tg iter elt : Expr} {ifs : List Expr} {fi : M (List D)} {g : D → M Unit} {tt : M Bool} {el : M D} {vs : List Nat} (C : CtxOk X W) (V : Nm X N sc raw) (hb : blkC N sc scope own = true)
    (ji : JI X W tg iter fi) (jg : InBl X N sc scope fun X' => JGv X' vs tg g) (jt : InBl X N sc scope fun X' => JTs X' WF ifs tt) (je : InBl X N sc scope fun X' => JE X' WF elt el) :
    ∃ wi g' tt' te, PI X tg iter wi ∧ BlkOk X.N X.env.scope scope own ∧
      (∀ (s : Shared) (H : Hp) (Ca : Addr) (cl : List (Str × Addr)) (fp : List Addr), PG (X.blk s H scope (compEnvC scope cl Ca X.env) fp) tg g') ∧
      (∀ (s : Shared) (H : Hp) (Ca : Addr) (cl : List (Str × Addr)) (fp : List Addr), PTs (X.blk s H scope (compEnvC scope cl Ca X.env) fp) ifs tt') ∧
      (∀ (s : Shared) (H : Hp) (Ca : Addr) (cl : List (Str × Addr)) (fp : List Addr), PE (X.blk s H scope (compEnvC scope cl Ca X.env) fp) elt te) ∧
      ∀ (ps : Fg) (σ : L2.St) (Hf H : Hp) (env : DEnv), SR X.K X.mg ps Hf H σ env → ∀ Q : VK, ∀ R : Hp → Res D → Prop, LcR X W ps σ Q R → R Hf (mLc vs fi g tt el env) → tLc wi g' tt' te vs σ H Q := by
  have ok : BlkOk N sc scope own := blkOk_by hb
  obtain ⟨wi, pi, hi⟩ := ji.ex
  have hg := blk_ok C V ok.kind jg
  have ht := blk_ok C V ok.kind jt
  have he := blk_ok C V ok.kind je
  let tg' : TG := fun v σ H Q => ∀ (s : Shared) (H0 : Hp) (Ca : Addr) (cl : List (Str × Addr)) (fp : List Addr), Classical.choose (hg s H0 Ca cl fp).ex v σ H Q
  let tt' : TT := fun σ H Q => ∀ (s : Shared) (H0 : Hp) (Ca : Addr) (cl : List (Str × Addr)) (fp : List Addr), Classical.choose (ht s H0 Ca cl fp).ex σ H Q
  let te : TE := fun σ H Q => ∀ (s : Shared) (H0 : Hp) (Ca : Addr) (cl : List (Str × Addr)) (fp : List Addr), Classical.choose (he s H0 Ca cl fp).ex σ H Q
  refine ⟨wi, tg', tt', te, pi, by rw [V.hN, V.hs]; exact ok, fun s H0 Ca cl fp => ⟨fun pins s' σ H v u Q I r z => (Classical.choose_spec (hg s H0 Ca cl fp).ex).1.run pins s' σ H v u Q I r (z s H0 Ca cl fp)⟩,
    fun s H0 Ca cl fp => ⟨fun pins s' σ H Q I z => (Classical.choose_spec (ht s H0 Ca cl fp).ex).1.run pins s' σ H Q I (z s H0 Ca cl fp)⟩,
    fun s H0 Ca cl fp => ⟨fun pins s' σ H Q I z => (Classical.choose_spec (he s H0 Ca cl fp).ex).1.run pins s' σ H Q I (z s H0 Ca cl fp)⟩, fun ps σ Hf H env S Q R LR z => ?_⟩
  have sg : ∀ (ps : Fg) (σ : L2.St) (Hf H : Hp) (env : DEnv) (v : L2.V) (d : D), SR X.K X.mg ps Hf H σ env → Rp X.K X.mg Hf v d → ∀ Q : L2.St → Hp → Prop, UGv X.K X.mg ps σ vs Q Hf (g d env) → tg' v σ H Q :=
    fun ps σ Hf H env v d S r Q z s H0 Ca cl fp => (Classical.choose_spec (hg s H0 Ca cl fp).ex).2 ps σ Hf H env v d S r Q z
  have st : ∀ (ps : Fg) (σ : L2.St) (Hf H : Hp) (env : DEnv), SR X.K X.mg ps Hf H σ env → ∀ Q : Bool → Hp → Prop, EG X.K X.mg ps WF Hf σ (Pb Q) (tt env) → tt' σ H Q :=
    fun ps σ Hf H env S Q z s H0 Ca cl fp => (Classical.choose_spec (ht s H0 Ca cl fp).ex).2 ps σ Hf H env S Q z
  have se : ∀ (ps : Fg) (σ : L2.St) (Hf H : Hp) (env : DEnv), SR X.K X.mg ps Hf H σ env → ∀ Q : VK, EG X.K X.mg ps WF Hf σ (Pd X.K X.mg Q) (el env) → te σ H Q :=
    fun ps σ Hf H env S Q z s H0 Ca cl fp => (Classical.choose_spec (he s H0 Ca cl fp).ex).2 ps σ Hf H env S Q z
  refine hi ps σ Hf H env S _ ?_
  unfold mLc DL.bnd at z
  cases qfi : fi env with
  | exc x p e1 => rw [qfi] at z; exact LR.ex z
  | stuck => rw [qfi] at z; exact (LR.st _ z).elim
  | ok ds e1 =>
  rw [qfi] at z
  intro Hf1 H1 x1 S1 J ok
  have z1 := LR.mono x1 z
  dsimp only at z1
  intro Dd nD
  by_cases hno : noOwn e1 vs = true
  · rw [if_pos hno] at z1
    have nfD : Hf1 Dd = none := fresh_back S1.ex nD
    have ngD : ps.g Dd = none := by
      cases q : ps.g Dd with
      | none => rfl
      | some u => rw [(S1.fg Dd u q).1] at nD; cases nD
    -- the end, where the remaining worth is known
    refine ⟨fun i m H => i + m = ds.length ∧ ∃ (e : DEnv) (Hf : Hp) (acc : List D) (vacc : List L2.V), Ex Hf1 Hf ∧ SR X.K X.mg ps Hf H (L2.wipe σ vs) e ∧ H Dd = some (.lst vacc) ∧ Hf Dd = none ∧ (∀ (i : Nat) (k : Option Nat) (l : OD), e[i]? = some (.own k l) → (L2.wipe σ vs)[i]? = some (some (.ref Dd)) → False) ∧ Rps X.K X.mg Hf vacc acc ∧
        R Hf (match lcL vs g tt el (ds.drop i) acc e with | .ok acc e => Res.ok (D.lst acc) (backE e1 e vs) | _ => Res.stuck), ⟨ds.length, Nat.zero_add _, ?_⟩, ?_⟩
    · have S2 := (S1.laid (p := Dd) (o := .lst []) nD).wipe vs
      refine ⟨_, Hf1, [], [], Ex.refl _, S2, upd_same, nfD, fun i k l q1 q2 => ?_, .nil, z1⟩
      obtain ⟨p, o, h1, _, h3, _⟩ := (S1.wipe vs).own q1
      rw [q2] at h1; cases h1
      rw [nD] at h3; cases h3
    · rintro i m H ⟨hm, e, Hf, acc, vacc, x, S, hD, nfD, noD, racc, z⟩
      by_cases hlt : i < ds.length
      · obtain ⟨d, hd⟩ : ∃ d, ds[i]? = some d := ⟨ds[i], List.getElem?_eq_getElem hlt⟩
        have e0 : ds.drop i = d :: ds.drop (i + 1) := by
          rw [List.drop_eq_getElem_cons hlt]
          have := List.getElem?_eq_getElem hlt
          rw [hd] at this; cases this; rfl
        rw [e0] at z
        -- the list's address as foreign meanwhile
        let ps' : Fg := ⟨ps.ps, fun a => if a = Dd then some (.lst vacc) else ps.g a⟩
        have toP : ∀ {Hf H : Hp} {σ : L2.St} {e : DEnv}, SR X.K X.mg ps Hf H σ e → H Dd = some (.lst vacc) → Hf Dd = none → (∀ (i : Nat) (k : Option Nat) (l : OD), e[i]? = some (.own k l) → σ[i]? = some (some (.ref Dd)) → False) → SR X.K X.mg ps' Hf H σ e := fun {Hf H σ e} S h1 h2 h3 =>
          ⟨S.ex, S.len, S.sl, S.ap, fun a o q => by
            by_cases ha : a = Dd
            · subst ha
              have q : (if a = a then some (HO.lst vacc) else ps.g a) = some o := q
              rw [if_pos rfl] at q; cases q
              exact ⟨h1, h2, h3⟩
            · have q : (if a = Dd then some (HO.lst vacc) else ps.g a) = some o := q
              rw [if_neg ha] at q
              exact S.fg a o q⟩
        have ofP : ∀ {Hf H : Hp} {σ : L2.St} {e : DEnv}, SR X.K X.mg ps' Hf H σ e → SR X.K X.mg ps Hf H σ e ∧ H Dd = some (.lst vacc) ∧ Hf Dd = none ∧ (∀ (i : Nat) (k : Option Nat) (l : OD), e[i]? = some (.own k l) → σ[i]? = some (some (.ref Dd)) → False) := fun {Hf H σ e} S => by
          obtain ⟨h1, h2, h3⟩ := S.fg Dd (.lst vacc) (by show (if Dd = Dd then some (HO.lst vacc) else ps.g Dd) = _; rw [if_pos rfl])
          refine ⟨⟨S.ex, S.len, S.sl, S.ap, fun a o q => S.fg a o ?_⟩, h1, h2, h3⟩
          show (if a = Dd then some (HO.lst vacc) else ps.g a) = some o
          rw [if_neg (fun w => by subst w; rw [ngD] at q; cases q)]
          exact q
        have S' := toP S hD nfD noD
        obtain ⟨go, yld⟩ := ok.go i d hd ps' (L2.wipe σ vs) e Hf H x S'
        refine .inr ⟨go, fun H => i + 1 + (m - 1) = ds.length ∧ ∃ (e : DEnv) (Hf : Hp) (acc : List D) (vacc : List L2.V), Ex Hf1 Hf ∧ SR X.K X.mg ps Hf H (L2.wipe σ vs) e ∧ H Dd = some (.lst vacc) ∧ Hf Dd = none ∧ (∀ (i : Nat) (k : Option Nat) (l : OD), e[i]? = some (.own k l) → (L2.wipe σ vs)[i]? = some (some (.ref Dd)) → False) ∧ Rps X.K X.mg Hf vacc acc ∧
          R Hf (match lcL vs g tt el (ds.drop (i + 1)) acc e with | .ok acc e => Res.ok (D.lst acc) (backE e1 e vs) | _ => Res.stuck), fun H' w => ⟨m - 1, by omega, w⟩, fun v H3 y => ?_⟩
        obtain ⟨Hf3, x3, S3, r3⟩ := yld v H3 y
        refine sg ps' (L2.wipe σ vs) Hf3 H3 e v d S3 r3 _ ?_
        have z0 : ∀ {r : Res (List D)}, R Hf (match r with | .ok acc e => Res.ok (D.lst acc) (backE e1 e vs) | _ => Res.stuck) → ∃ acc e, r = .ok acc e := fun {r} w => by
          cases r with
          | ok acc e => exact ⟨acc, e, rfl⟩
          | exc _ _ _ => exact (LR.st _ w).elim
          | stuck => exact (LR.st _ w).elim
        obtain ⟨accF, eF, hF⟩ := z0 z
        unfold lcL DL.bnd at hF z
        cases q1 : g d e with
        | exc _ _ _ => rw [q1] at hF; cases hF
        | stuck => rw [q1] at hF; cases hF
        | ok u e4 =>
          rw [q1] at hF z
          intro σ4 Hf4 H4 x4 S4 hw
          have hww : L2.wipe σ4 vs = L2.wipe σ vs := by rw [hw, wipe_idem]
          refine ⟨hww, ?_⟩
          dsimp only at hF z
          refine st ps' σ4 Hf4 H4 e4 S4 _ ?_
          cases q2 : tt e4 with
          | exc _ _ _ => rw [q2] at hF; cases hF
          | stuck => rw [q2] at hF; cases hF
          | ok b e5 =>
            rw [q2] at hF z
            intro Hf5 H5 x5 S5
            dsimp only at hF z
            cases b with
            | false =>
              unfold Pb
              dsimp only
              rw [if_neg Bool.false_ne_true] at hF z ⊢
              obtain ⟨S6, d6, f6, n6⟩ := ofP S5
              have S7 := S6.wipe vs
              rw [hww] at S7
              refine ⟨by omega, _, Hf5, acc, vacc, x.trans (x3.trans (x4.trans x5)), S7, d6, f6, fun i k l q1 q2 => ?_, racc.mono (x3.trans (x4.trans x5)), LR.mono (x3.trans (x4.trans x5)) z⟩
              obtain ⟨_, _, _, _, _⟩ := S7.own q1
              by_cases hi : i ∈ vs
              · exact absurd hi (L2.wipe_some (x := .ref Dd) q2).2
              · have e6 : ∀ (us : List Nat) (e : DEnv), i ∉ us → (wipeE e us)[i]? = e[i]? := by
                  intro us e
                  induction us with
                  | nil => intro _; rfl
                  | cons v us ih =>
                    intro hv
                    show ((wipeE e us).set v .no)[i]? = _
                    rw [List.getElem?_set_ne (fun z => hv (by subst z; exact List.mem_cons_self)), ih (fun z => hv (List.mem_cons_of_mem _ z))]
                rw [e6 vs e5 hi] at q1
                rw [← hww, L2.wipe_out hi] at q2
                exact n6 i k l q1 q2
            | true =>
              unfold Pb
              dsimp only
              rw [if_pos rfl] at hF z ⊢
              refine se ps' σ4 Hf5 H5 e5 S5 _ ?_
              cases q3 : el e5 with
              | exc _ _ _ => rw [q3] at hF; cases hF
              | stuck => rw [q3] at hF; cases hF
              | ok y e7 =>
                rw [q3] at hF z
                intro Hf7 H7 x7 S7 vy ry
                dsimp only at hF z
                by_cases hz : acc.length < sizeLine
                · rw [if_pos hz] at hF z
                  obtain ⟨S8, d8, f8, n8⟩ := ofP S7
                  have xx := x3.trans (x4.trans (x5.trans x7))
                  have rl := racc.length
                  refine ⟨vacc, d8, by omega, by omega, wipeE e7 vs, Hf7, acc ++ [y], vacc ++ [vy], x.trans xx, ?_, upd_same, f8, fun i k l q1 q2 => ?_, (racc.mono xx).append (.cons ry .nil), LR.mono xx z⟩
                  · have S9 : SR X.K X.mg ps Hf7 (upd H7 Dd (.lst (vacc ++ [vy]))) σ4 e7 := by
                      refine ⟨fun a o q => ?_, S8.len, fun i s q => ?_, S8.ap, fun a o q => ?_⟩
                      · rw [upd_ne (ne_of_none q f8)]; exact S8.ex a o q
                      · obtain ⟨v, hv, r⟩ := S8.sl i s q
                        refine ⟨v, hv, ?_⟩
                        cases s with
                        | no => trivial
                        | val d => exact r
                        | own k l =>
                          obtain ⟨p, o, a1, a2, a3, a4, a5⟩ := r
                          exact ⟨p, o, a1, a2, by rw [upd_ne (fun w => by subst w; exact n8 i k l q (by rw [hv, a1]))]; exact a3, a4, a5⟩
                      · obtain ⟨g1, g2, g3⟩ := S8.fg a o q
                        exact ⟨by rw [upd_ne (fun w => by subst w; rw [ngD] at q; cases q)]; exact g1, g2, g3⟩
                    have S10 := S9.wipe vs
                    rw [hww] at S10
                    exact S10
                  · by_cases hi : i ∈ vs
                    · exact absurd hi (L2.wipe_some (x := .ref Dd) q2).2
                    · have e6 : ∀ (us : List Nat) (e : DEnv), i ∉ us → (wipeE e us)[i]? = e[i]? := by
                        intro us e
                        induction us with
                        | nil => intro _; rfl
                        | cons v us ih =>
                          intro hv
                          show ((wipeE e us).set v .no)[i]? = _
                          rw [List.getElem?_set_ne (fun z => hv (by subst z; exact List.mem_cons_self)), ih (fun z => hv (List.mem_cons_of_mem _ z))]
                      rw [e6 vs e7 hi] at q1
                      rw [← hww, L2.wipe_out hi] at q2
                      exact n8 i k l q1 q2
                · rw [if_neg hz] at hF; cases hF
      · refine .inl ⟨ok.stop i (by omega) ps (L2.wipe σ vs) e Hf H x S, ?_⟩
        rw [List.drop_eq_nil_of_le (by omega)] at z
        refine LR.ok (S1.back x S hno) hD nfD ngD racc (fun i k l q1 q2 => ?_) z
        by_cases hi : i ∈ vs
        · have hlt : i < e.length := by
            have := (List.getElem?_eq_some_iff.mp q1).1; rw [backE_len] at this; exact this
          rw [backE_in hlt hi] at q1
          have hl : e.length = e1.length := by rw [← S.len, L2.wipe_length, S1.len]
          have h0 : i < e1.length := by omega
          rw [List.getD_eq_getElem?_getD, List.getElem?_eq_getElem h0] at q1
          have := List.all_eq_true.mp hno i hi
          rw [List.getElem?_eq_getElem h0, show e1[i] = Sl.own k l from Option.some.inj q1] at this
          cases this
        · rw [backE_out hi] at q1
          exact noD i k l q1 (by rw [L2.wipe_out hi]; exact q2)
  · rw [if_neg hno] at z1; exact (LR.st _ z1).elim
/-- [el for tg in iter if ..], frozen at once -/
theorem je_lc {scope : Scope} {own : List (Str × Nat)} {vs : List Nat} {tg iter elt : Expr} {ifs : List Expr} {fi : M (List D)} {g : D → M Unit} {tt : M Bool} {el : M D} (C : CtxOk X W) (V : Nm X N sc raw) (hb : blkC N sc scope own = true) (hvs : own.map (·.2) = vs)
    (ji : JI X W tg iter fi) (jg : InBl X N sc scope fun X' => JGv X' vs tg g) (jt : InBl X N sc scope fun X' => JTs X' WF ifs tt) (je : InBl X N sc scope fun X' => JE X' WF elt el) (hs : ∀ x, foldedSetIterable iter X.env x = pure x := by intro _; rfl) :
    JE X W (.ListComp elt [⟨tg, iter, ifs, 0⟩] scope pos) (mLc vs fi g tt el) := by
  subst hvs
  obtain ⟨wi, g', tt', te, pi, ok, pg, pt, pe, h⟩ := lc_ok C V hb ji jg jt je
  refine ⟨⟨_, pe_lc C.calm V.nodup pi ok pg pt pe hs, fun ps σ Hf H env S Q z => h ps σ Hf H env S Q (fun Hf r => EG X.K X.mg ps W Hf σ (Pd X.K X.mg Q) r) ⟨fun x r => EG.mono x r, fun _ z => z, fun z => z, fun {Hf H e p vacc acc} S hp nf ng r no z => ?_⟩ z⟩⟩
  exact z _ _ (Ex.new nf) (S.freezes hp nf ng no) _ (.lst (.inl (.inl upd_same)) (r.mono (Ex.new nf)))
end
end DL

/-! DLh: try .. except X as e, what the suite asks of e, defs that are called there. -/
namespace DL
open PySem PySem.Spec PyProof.Rows L2 Evl

/-- the largest reading of a block -/
def tAll (X : Cx) (sts : List Stmt) : TS := fun De σ H => ∀ (pins : List (Addr × Obj)) (s : Shared), Inv X pins σ H s → wpAny (model X.prog X.w) X.A (execs sts X.env) (SP X pins De) X.xe s
theorem tAll_ok {X : Cx} {sts : List Stmt} : PSs X sts (tAll X sts) := ⟨fun pins s σ H De I h => h pins s I⟩
theorem tAll_of {X : Cx} {W : WX} {sts : List Stmt} {f : M Fl} (j : JSs X W sts f) {ps : Fg} {σ : L2.St} {Hf H : Hp} {env : DEnv} (S : SR X.K X.mg ps Hf H σ env) {De : Ends} (h : SG X.K X.mg ps W De Hf (f env)) : tAll X sts De σ H := by
  obtain ⟨t, p, k⟩ := j.ex
  exact fun pins s I => p.run pins s σ H De I (k ps σ Hf H env S De h)
/-- X' is a context of the same def: its depth is X's, whatever is handled -/
structure BlH (X X' : Cx) : Prop where
  prog : X'.prog = X.prog
  w : X'.w = X.w
  K : X'.K = X.K
  mg : X'.mg = X.mg
  base : X'.base = X.base
  dp : X'.A.depth = X.A.depth
  un : X'.A.units = X.A.units
theorem BlH.z {X X' : Cx} (B : BlH X X') {x : Str} (h : X.mg x = none) : X'.mg x = none := by rw [B.mg]; exact h
theorem BlH.ze {X X' : Cx} (B : BlH X X') {x : Str} {v : Value} (h : X.mg x = some v) : X'.mg x = some v := by rw [B.mg]; exact h
/-- the exception at a, of the class named x, is handled: its context is None, it has no dict -/
structure HotX (X : Cx) (a : Addr) (x : Str) : Prop where
  hot : X.A.handled = some (.ref a)
  pin : ∃ (oe : Obj) (vs : Array Value) (Dd : Addr), (a, oe) ∈ X.pn ∧ X.mg x = some (.ref Dd) ∧ Zc (.ref Dd) none oe ∧ oe.data = .fields vs ∧ vs[2]? = some .none
/-- a row of the table: whether an x is a T -/
structure TabE (K : PySem.W.Frag) (mg : MG) (x T : Str) (b : Bool) : Prop where
  ex : ∃ (Dd : Addr) (v : V) (u : Value), mg x = some (.ref Dd) ∧ (mg T = some u ∨ (mg T = none ∧ bootBuiltins T = some u)) ∧ ClsV v u ∧ RelV v u ∧ PySem.W.kitOne K (.ref Dd) u = some b ∧ L2.ExcC K Dd
/-- the table of the law's classes: (x, T, whether an x is a T) -/
abbrev ETab := List (Str × Str × Bool)
def TabOk (K : PySem.W.Frag) (mg : MG) (tab : ETab) : Prop := ∀ x T b, (x, T, b) ∈ tab → TabE K mg x T b
theorem tabOk_nil {K : PySem.W.Frag} {mg : MG} : TabOk K mg [] := fun _ _ _ h => by cases h
theorem tabOk_cons {K : PySem.W.Frag} {mg : MG} {x T : Str} {b : Bool} {r : ETab} (h : TabE K mg x T b) (t : TabOk K mg r) : TabOk K mg ((x, T, b) :: r) := fun x' T' b' m => by
  rcases List.mem_cons.mp m with e | e
  · cases e; exact h
  · exact t x' T' b' e
theorem BlH.tab {X X' : Cx} (B : BlH X X') {tab : ETab} (h : TabOk X.K X.mg tab) : TabOk X'.K X'.mg tab := by rw [B.K, B.mg]; exact h
theorem Bl.tab {X X' : Cx} (B : Bl X X') {tab : ETab} (h : TabOk X.K X.mg tab) : TabOk X'.K X'.mg tab := by rw [B.K, B.mg]; exact h
def tabAt (tab : ETab) (x T : Str) : Option Bool := (tab.find? fun r => decide (r.1 = x) && decide (r.2.1 = T)).map (·.2.2)
theorem tabAt_mem {tab : ETab} {x T : Str} {b : Bool} (h : tabAt tab x T = some b) : (x, T, b) ∈ tab := by
  unfold tabAt at h
  cases q : tab.find? fun r => decide (r.1 = x) && decide (r.2.1 = T) with
  | none => rw [q] at h; cases h
  | some r =>
    rw [q] at h
    obtain ⟨r1, r2, r3⟩ := r
    cases h
    have h1 := List.find?_some q
    simp only [Bool.and_eq_true, decide_eq_true_eq] at h1
    obtain ⟨rfl, rfl⟩ := h1
    exact List.mem_of_find?_eq_some q
theorem isE_call {X : Cx} {a Dd : Addr} {oe : Obj} (hm : (a, oe) ∈ X.pn) (C : L2.ExcC X.K Dd) (hz : Zc (.ref Dd) none oe) (hf : ∃ vs, oe.data = .fields vs) : CallR X (.builtin "isinstance") (rIsE X.K Dd a) := by
  intro pins s σ H xs us Q I r h
  obtain ⟨c, cv, b, e1, hcv, e, q⟩ := h
  subst e1
  obtain ⟨u1, u2, e2, rx, rt⟩ := vals2 r
  subst e2
  cases (show u1 = Value.ref a from rx)
  have ec := hcv _ rt
  subst ec
  obtain ⟨hget, _⟩ := I.pin (a, oe) (List.mem_append_left _ hm)
  obtain ⟨vs, hv⟩ := hf
  obtain ⟨oc, od, oda, osl⟩ := oe
  obtain ⟨z1, z2⟩ := hz
  dsimp only at z1 z2 hv
  subst z1 z2 hv
  have J : PySem.W.InstAt s.heap a _ Dd none := ⟨hget, rfl, rfl, trivial⟩
  exact PySem.W.kia_one (PySem.W.handS_kitx_exc C.hg C.hk C.hs C.hd C.ha C.hn C.ht C.hm) I.kIn J e (fun z => nomatch z) fun tk => ⟨.bl b, H, I.kept (t' := tk) fun _ _ z => z, rfl, q⟩
section
variable {X : Cx} {W : WX} {a b c e : Expr} {es : List Expr} {fa fb fc : M D} {pos : Pos} {f : M (List D)} {N : List Str} {sc raw : Scope}
/-- isinstance(e, T), e the handled exception -/
def cIsE (tab : ETab) (ad : Addr) (x T : Str) : D → M D := fun d => match d with
  | .opq q => if q = ad then (match tabAt tab x T with | some r => ret (.bl r) | none => stk) else stk
  | _ => stk
theorem je_isE {tab : ETab} {ad : Addr} {x T : Str} {p p2 : Pos} (V : Nm X N sc raw) (hG : okG sc "isinstance" = true) (hGT : okG sc T = true) (hm : X.mg "isinstance" = none) (h : HotX X ad x) (TO : TabOk X.K X.mg tab) (ja : JE X W a fa)
    (he : starEach [a, .Name T p2] X.env = (false, eval a X.env) :: starEach [.Name T p2] X.env := by rfl) (he2 : starEach [.Name T p2] X.env = [(false, eval (.Name T p2) X.env)] := by rfl) (hpl : (backTo pos (starEach [.Name T p2] X.env)).any (·.1) = false := by rfl) :
    JE X W (.Call (.Name "isinstance" p) [a, .Name T p2] [] pos) (bnd fa (cIsE tab ad x T)) := by
  obtain ⟨hg, _, _⟩ := V.g hG
  obtain ⟨hgT, hd, hnn⟩ := V.g hGT
  obtain ⟨t, q, hj⟩ := ja.ex
  obtain ⟨oe, vs, Dd, hp, hx, hz, hv, _⟩ := h.pin
  cases w : tabAt tab x T with
  | none =>
    refine ⟨⟨fun σ H Q => t σ H fun _ _ => False, ⟨fun pins s σ H Q I z => ?_⟩, fun ps σ Hf H env S Q z => ?_⟩⟩
    · refine wpAny_Call_Name_kw (ld_blt I hg hm (show bootBuiltins "isinstance" = some (.builtin "isinstance") by decide +kernel) ?_ (by decide) (by decide))
      have pa : PA X [a, .Name T p2] (fun σ H Q => t σ H fun _ _ => False) := by
        have pn : PA X [.Name T p2] (fun _ _ _ => False) := ⟨fun _ _ _ _ _ _ _ (z : False) => False.elim z⟩
        refine ⟨fun pos2 pins s σ H Q I z => (pa_cons q pn he).run pos2 pins s σ H Q I z⟩
      exact PyProof.Rows.callWith_builtin1 (thn (pa.run pos pins s σ H (fun _ _ => False) I z) fun us s1 ⟨_, _, _, _, z⟩ => False.elim z) he hpl
    · refine hj ps σ Hf H env S _ (EG.bnd z fun d e1 Hf1 H1 x1 S1 h1 v rv => ?_)
      unfold cIsE at h1
      split at h1
      · rw [w] at h1
        dsimp only at h1
        split at h1 <;> exact False.elim h1
      · exact False.elim h1
  | some r =>
    obtain ⟨Dd', v, u, hx', hT, cv, rvu, kt, EC⟩ := (TO x T r (tabAt_mem w)).ex
    rw [hx] at hx'; cases hx'
    have pT : PE X (.Name T p2) (tC v) := by
      rcases hT with hT | ⟨hT, hT2⟩
      · exact pe_glob hgT hT rvu hd
      · exact pe_bltn hgT hT hT2 rvu hnn hd
    refine ⟨⟨_, pe_callB (isE_call hp EC hz ⟨vs, hv⟩) hg hm (by decide +kernel) (pa_cons q (pa_cons pT pa_nil he2) he) (by decide) (by decide) he hpl, fun ps σ Hf H env S Q z => ?_⟩⟩
    refine hj ps σ Hf H env S _ (EG.bnd z fun d e1 Hf1 H1 x1 S1 h1 y ry => ?_)
    unfold cIsE at h1
    split at h1
    · rename_i qd
      by_cases hq : qd = ad
      · subst hq
        rw [if_pos rfl, w] at h1
        cases ry
        exact ⟨v, u, r, rfl, fun u' r' => cv.eq r', kt, h1.ret S1 _ (.bl _)⟩
      · rw [if_neg hq] at h1; exact h1.elim
    · exact h1.elim
end

/-! ### a def that is called while an exception is handled -/
structure FnE (P : Program) (w : World) (K : PySem.W.Frag) (mg : MG) (base : Heap) (k : Nat) (f : Addr) (fd : FuncData) (ps : List Str) (sp : Addr → Str → Sp) : Prop where
  len : ∀ a x vs H Q E, sp a x vs H Q E → vs.length = ps.length
  run : ∀ (A : Around) (outer : List Env) (s : Shared) (H : Hp) (args : Args) (us : List Value) (vs : List V) (Q : VK) (E : XK) (a : Addr) (x : Str) (oe : Obj) (Dd : Addr), L2H.RoomH k A → L2H.Hot1 A (a, oe) → mg x = some (.ref Dd) → Zc (.ref Dd) none oe → L2H.PinOk outer H s (a, oe) → Env0 P w K mg base A outer s H →
    BindsTo s fd args (ps.zip us) → Vals vs us → sp a x vs H Q E → codeAny (model P w) A (.call (.ref f) args) (CR (L2N.CX P w) outer P w H s Q E) s
/-- as spP, no exception comes -/
def spE (K : PySem.W.Frag) (mg : MG) (n : Nat) (F : List D → Rs) : Sp := fun vs H Q E => vs.length = n ∧ ∃ Hf ds, Ex Hf H ∧ Rps K mg Hf vs ds ∧ match F ds with
  | .ok d => ∀ v Hf' H', Ex Hf Hf' → Ex Hf' H' → (∀ a o, H a = some o → Hf a = none → H' a = some o ∧ Hf' a = none) → Rp K mg Hf' v d → Q v H'
  | _ => False
section
variable {P : Program} {w : World} {K : PySem.W.Frag} {mg : MG} {base : Heap}
/-- THE RULE for such a def -/
theorem fn_okE {x qual : Str} {st : Stmt} {f : Addr} {fd : FuncData} {N ps : List Str} {k : Nat} {g : Addr → Str → M Fl} (F : Fun K x qual st f fd) (S : FnScope N ps (defScope st))
    (hbody : ∀ (X : Cx) (a : Addr) (y : Str), X.prog = P → X.w = w → X.K = K → X.mg = mg → X.base = base → L2H.RoomH k X.A → X.A.units + 64 < cLine → HotX X a y → Nm X N (defScope st) (defScope st) → JSs X WF (defBody st) (g a y)) (hle : ps.length ≤ N.length := by decide) :
    FnE P w K mg base (k + 1) f fd ps (fun a y => spE K mg ps.length (runF N.length (g a y))) := by
  obtain ⟨oc, od, kV, doc, pm, an, cdv, ct, osl, e1, lk, hcd⟩ := F.ex
  subst e1
  refine ⟨fun a y vs H Q E h => h.1, fun A outer s H args us vs Q E a y oe Dd hr hot hy hz hpin e0 hb r hsp => ?_⟩
  obtain ⟨hl, Hf, ds, x0, rr, hF⟩ := hsp
  have kx : K.In s.heap := e0.mod.kin.keeps fun b o e => (e0.bs b o e).1
  have li : s.heap.NoLimit := e0.mod.nolimit.keeps fun b o e => (e0.bs b o e).1
  have hkd : ∀ y ∈ ps.zip us, (defScope st).names.lookup y.1 = some .local ∨ ((defScope st).names.lookup y.1 = some .cell ∧ ((cellsFrom (s.heap.objs.size + 1) (defScope st).names []).lookup y.1).isSome = true) := fun ⟨n, v⟩ hy => by
    rcases S.par n (List.of_mem_zip hy).1 with q | q
    · exact .inl q
    · exact .inr ⟨q, PySem.W.cellsFrom_some _ _ _ (.inl q)⟩
  refine codeAny_call_function hr.depth (kx _ _ lk) rfl S.co S.gen rfl (PySem.W.codeRec_of kx hcd) (hb _ _ _ _ ?_)
  refine wpAny_newFunctionEnv_cells S.kind hkd fun env he s1 xi => ?_
  subst he
  refine ⟨li.keeps xi.toInCall.keep, codeAny_func ?_⟩
  obtain ⟨hot1, vsx, hd1, hd2⟩ := hot
  obtain ⟨t, p, ht⟩ := (hbody (L2H.cxH (L2N.CX P w) P w K mg base N qual (defScope st) f cdv A outer s H E (a, oe)) a y rfl rfl rfl rfl rfl (hr.deeper _)
    (by have := hr.un; show A.units + 3 + 64 < cLine; omega) ⟨hot1, oe, vsx, Dd, List.mem_cons_self, hy, hz, hd1, hd2⟩ ⟨rfl, rfl, S.nd, S.kind, fun _ _ => rfl⟩).ex
  have I : Inv (L2H.cxH (L2N.CX P w) P w K mg base N qual (defScope st) f cdv A outer s H E (a, oe)) [] (L2.start N vs) H s1 := L2H.inv_startH S hpin e0 hl r xi
  have hq : t { nx := fun _ H' => Q .non H', rt := Q } (L2.start N vs) H := by
    refine ht _ _ Hf H _ (sr_start x0 rr (by omega)) _ ?_
    unfold runF at hF
    cases q : g a y (envOf N.length ds) with
    | ok fl e' =>
      rw [q] at hF
      cases fl with
      | nx => exact fun σ' Hf' H' x' S' => hF _ Hf' H' x' S'.ex (fg_back S') .non
      | rt d => exact fun σ' Hf' H' x' S' v rv => hF v Hf' H' x' S'.ex (fg_back S') rv
      | ro l => exact fun σ' Hf' H' x' S' p vs hp nf ng rv => ro_back x0 x' S' hp nf ng rv hF
      | bk => exact hF.elim
      | ct => exact hF.elim
    | exc y p e' => rw [q] at hF; exact hF.elim
    | stuck => rw [q] at hF; exact hF.elim
  refine wpAny_mono (p.run [] s1 (L2.start N vs) H _ I hq) (fun fl s' hs => ?_) fun e s' hs => hs
  cases fl with
  | ret u =>
    obtain ⟨v, σ', H', J, rv, q⟩ := hs
    exact ⟨v, H', J.os, J.bare, J.base, J.hok, rv, q⟩
  | next =>
    obtain ⟨σ', H', J, q⟩ := hs
    exact ⟨V.non, H', J.os, J.bare, J.base, J.hok, rfl, q⟩
  | brk =>
    obtain ⟨_, _, _, q⟩ := hs
    exact q.elim
  | cont =>
    obtain ⟨_, _, _, q⟩ := hs
    exact q.elim
end

/-! ### its calls -/
structure CalE (X : Cx) (x : Str) (n : Nat) (F : Addr → Str → List D → Rs) : Prop where
  ex : ∃ k f fd ps, FnE X.prog X.w X.K X.mg X.base k f fd ps (fun a y => spE X.K X.mg n (F a y)) ∧ L2H.RoomH k X.A ∧ X.mg x = some (.ref f) ∧ PySem.W.keepIn X.K (.ref f) = true ∧ Binds X.K fd ps []
theorem BlH.cal {X X' : Cx} (B : BlH X X') {x : Str} {n : Nat} {F : Addr → Str → List D → Rs} (c : CalE X x n F) : CalE X' x n F := by
  obtain ⟨k, f, fd, ps, h, ⟨r1, r2⟩, h2⟩ := c.ex
  refine ⟨⟨k, f, fd, ps, ?_, ⟨by rw [B.dp]; exact r1, by rw [B.un]; exact r2⟩, ?_⟩⟩
  · rw [B.prog, B.w, B.K, B.mg, B.base]; exact h
  · rw [B.K, B.mg]; exact h2
def mCallE (f : M (List D)) (F : List D → Rs) : M D := bnd f fun ds env => match F ds with
  | .ok d => .ok d env | _ => .stuck
section
variable {X : Cx} {W : WX} {e : Expr} {es : List Expr} {pos : Pos} {N : List Str} {sc raw : Scope}
theorem spE_use {n : Nat} {F : List D → Rs} {ps : Fg} {σ : L2.St} {Hf H : Hp} {env : DEnv} {vs : List V} {ds : List D} {Q : VK} {E : XK} (S : SR X.K X.mg ps Hf H σ env) (r : Rps X.K X.mg Hf vs ds) (hn : ds.length = n)
    (h : EG X.K X.mg ps W Hf σ (Pd X.K X.mg Q) ((match F ds with | .ok d => fun env => Res.ok d env | _ => fun _ => .stuck : M D) env)) : spE X.K X.mg n F vs H Q E := by
  refine ⟨by rw [r.length]; exact hn, Hf, ds, S.ex, r, ?_⟩
  cases q : F ds with
  | ok d => rw [q] at h; exact fun v Hf' H' x y z rv => h Hf' H' x (S.after x y z) v rv
  | exc c p => rw [q] at h; exact h
  | stuck => rw [q] at h; exact h
theorem je_callE {x : Str} {p : Pos} {n : Nat} {F : Addr → Str → List D → Rs} {f : M (List D)} {a : Addr} {y : Str} (hx : HotX X a y) (V : Nm X N sc raw) (hG : okG sc x = true) (c : CalE X x n F) (ja : JA X W (e :: es) f) (hn : ∀ env ds env', f env = .ok ds env' → ds.length = n)
    (he : starEach (e :: es) X.env = (false, eval e X.env) :: starEach es X.env := by rfl) (hpl : (backTo pos (starEach es X.env)).any (·.1) = false := by rfl) :
    JE X W (.Call (.Name x p) (e :: es) [] pos) (mCallE f (F a y)) := by
  obtain ⟨hg, hdb, _⟩ := V.g hG
  obtain ⟨k, fa, fd, ps', G, hr, hm, hk, hb⟩ := c.ex
  obtain ⟨t, q, h⟩ := ja.ex
  obtain ⟨hot, oe, vsx, Dd, hmem, hy, hz, hd1, hd2⟩ := hx
  have pe : PE X (.Call (.Name x p) (e :: es) [] pos) (fun σ H Q => t σ H fun vs H1 => spE X.K X.mg n (F a y) vs H1 Q fun _ _ _ => False) := by
    refine ⟨fun pins s σ H Q I h => ?_⟩
    refine wpAny_Call_Name_kw (ld_glob I hg hm ?_ hdb)
    refine PySem.W.callWith_K (h₀ := X.base) I.ok.mod.kin hk (thn (q.run pos pins s σ H _ I h) fun us s1 ⟨vs, H1, I1, r, q⟩ => ⟨I1.kIn, ?_⟩) he hpl
    have hl : us.length = ps'.length := by rw [← r.length]; exact G.len _ _ _ _ _ _ q
    have b := hb s1 us I1.kIn (by rw [List.append_nil]; exact hl)
    rw [List.append_nil] at b
    have P1 := I1.pin (a, oe) (List.mem_append_left _ hmem)
    have hpin : L2H.PinOk X.stack H1 s1 (a, oe) := ⟨P1.1, P1.2.1, fun hm => (List.mem_cons.mp (I1.stkSub a hm)).elim P1.2.2.1 P1.2.2.2.1, P1.2.2.2.2⟩
    refine wpAny_call (codeAny_mono (G.run X.A X.stack s1 H1 ⟨us, []⟩ us vs Q _ a y oe Dd hr ⟨hot, vsx, hd1, hd2⟩ hy hz hpin I1.env0 b r q) fun r s' hq => ?_)
    cases r with
    | error e =>
      obtain ⟨_, _, _, _, _, _, _, _, _, _, _, _, z⟩ := hq
      exact False.elim z
    | ok fl =>
      cases fl with
      | ret u => exact I1.after hq
      | next => exact False.elim hq
      | brk => exact False.elim hq
      | cont => exact False.elim hq
  refine ⟨⟨_, pe, fun ps σ Hf H env S Q z => ?_⟩⟩
  have hq : ∀ ds env', f env = .ok ds env' → ds.length = n := fun ds env' w => hn env ds env' w
  unfold mCallE bnd at z
  refine h ps σ Hf H env S _ ?_
  cases w : f env with
  | ok ds e1 =>
    rw [w] at z
    intro Hf1 H1 x1 S1 vs r
    refine spE_use (W := W) S1 r (hq ds e1 w) ?_
    have z := EG.mono x1 z
    cases q : F a y ds with
    | ok d => simp only [q] at z ⊢; exact z
    | exc c p => simp only [q] at z ⊢; exact z
    | stuck => simp only [q] at z ⊢; exact z
  | exc y p e1 => rw [w] at z; exact z
  | stuck => rw [w] at z; exact z
end
/-- such a def, at the module's name x -/
structure CalleeE (P : Program) (w : World) (K : PySem.W.Frag) (mg : MG) (base : Heap) (x : Str) (k n : Nat) (F : Addr → Str → List D → Rs) : Prop where
  ex : ∃ f fd ps, FnE P w K mg base k f fd ps (fun a y => spE K mg n (F a y)) ∧ mg x = some (.ref f) ∧ PySem.W.keepIn K (.ref f) = true ∧ Binds K fd ps []
theorem CalleeE.calH {X : Cx} {x : Str} {k k' n : Nat} {F : Addr → Str → List D → Rs} (c : CalleeE X.prog X.w X.K X.mg X.base x k n F) (hr : L2H.RoomH k' X.A) (h : k ≤ k' := by decide) : CalE X x n F := by
  obtain ⟨f, fd, ps, G, hm, hk, hb⟩ := c.ex
  exact ⟨⟨k, f, fd, ps, G, hr.mono h, hm, hk, hb⟩⟩
theorem CalleeE.cal {X : Cx} {x : Str} {k k' n : Nat} {F : Addr → Str → List D → Rs} (c : CalleeE X.prog X.w X.K X.mg X.base x k n F) (hr : Room k' X.A) (h : k ≤ k' := by decide) : CalE X x n F := c.calH (L2H.roomH_of hr) h
theorem calleeE_of {P : Program} {w : World} {K : PySem.W.Frag} {mg : MG} {base : Heap} {x : Str} {f : Addr} {fd : FuncData} {ps : List Str} {k n : Nat} {F : Addr → Str → List D → Rs} (G : FnE P w K mg base k f fd ps (fun a y => spE K mg n (F a y))) (hm : mg x = some (.ref f)) (hk : PySem.W.keepIn K (.ref f) = true) (hb : Binds K fd ps []) : CalleeE P w K mg base x k n F := ⟨⟨f, fd, ps, G, hm, hk, hb⟩⟩

/-! ### try .. except T as e -/
/-- the catches' table: (x, T, whether except T catches an x) -/
def CatOk (K : PySem.W.Frag) (mg : MG) (tab : ETab) : Prop := ∀ x T b, (x, T, b) ∈ tab → ∃ (Dd : Addr) (u : Value), mg x = some (.ref Dd) ∧ mg T = some u ∧ PySem.W.exmOne K (.ref Dd) u = some b
theorem catOk_nil {K : PySem.W.Frag} {mg : MG} : CatOk K mg [] := fun _ _ _ h => by cases h
theorem catOk_cons {K : PySem.W.Frag} {mg : MG} {x T : Str} {b : Bool} {r : ETab} (h : ∃ (Dd : Addr) (u : Value), mg x = some (.ref Dd) ∧ mg T = some u ∧ PySem.W.exmOne K (.ref Dd) u = some b) (t : CatOk K mg r) : CatOk K mg ((x, T, b) :: r) := fun x' T' b' m => by
  rcases List.mem_cons.mp m with e | e
  · cases e; exact h
  · exact t x' T' b' e
def unS (i : Nat) : Res Fl → Res Fl
  | .ok .nx e => .ok .nx (e.set i .no)
  | .ok .bk e => .ok .bk (e.set i .no)
  | .ok .ct e => .ok .ct (e.set i .no)
  | .ok (.rt d) e => .ok (.rt d) (e.set i .no)
  | .ok (.ro l) e => .ok (.ro l) (e.set i .no)
  | .exc _ _ _ => .stuck
  | .stuck => .stuck
theorem SR.forget {K : PySem.W.Frag} {mg : MG} {ps : Fg} {Hf H : Hp} {σ : L2.St} {e : DEnv} (S : SR K mg ps Hf H σ e) (i : Nat) : SR K mg ps Hf H σ (e.set i .no) := by
  have h := S.drop i (σ[i]?.getD none)
  by_cases hi : i < σ.length
  · rw [List.getElem?_eq_getElem hi] at h
    have : σ.set i ((some σ[i]).getD none) = σ := List.set_getElem_self hi
    rwa [this] at h
  · rwa [List.set_eq_of_length_le (by omega)] at h
open Classical in
/-- the suite, whatever the exception's address -/
noncomputable def mCatch (i : Nat) (fs : Addr → M Fl) : M Fl := fun env =>
  if ∀ a b, unS i (fs a (env.set i (.val (.opq a)))) = unS i (fs b (env.set i (.val (.opq b)))) then unS i (fs (0 : Nat) (env.set i (.val (.opq (0 : Nat))))) else .stuck
theorem mCatch_eq {i : Nat} {fs : Addr → M Fl} {env : DEnv} {r : Res Fl} (h : ∀ a, unS i (fs a (env.set i (.val (.opq a)))) = r) : mCatch i fs env = r := by
  unfold mCatch
  rw [if_pos fun a b => (h a).trans (h b).symm]
  exact h _
noncomputable def mTryAs (i : Nat) (tab : ETab) (T : Str) (fb : M Fl) (fs : Addr → Str → M Fl) : M Fl := fun env => match fb env with
  | .exc x none e' => (match tabAt tab x T with
    | some true => mCatch i (fun a => fs a x) e'
    | some false => .exc x none e'
    | none => .stuck)
  | .exc _ (some _) _ => .stuck
  | r => r
section
variable {X : Cx} {W : WX} {pos : Pos} {N : List Str} {sc raw : Scope}
theorem js_try_as {tab : ETab} {T n : Str} {i : Nat} {np pos' : Pos} {body suite : List Stmt} {b0 : Stmt} {fb : M Fl} {fs : Addr → Str → M Fl} (C : CtxOk X W) (V : Nm X N sc raw) (Y : Df X) (hi : okS N sc raw i n = true) (hl : sc.names.lookup n = some .local) (hT : okG sc T = true) {u : Value} (hu : X.mg T = some u) (TO : CatOk X.K X.mg tab)
    (jb : ∀ (X' : Cx) (W' : WX), CtxOk X' W' → Nm X' N sc raw → Df X' → Bl X X' → JSs X' W' body fb)
    (jh : ∀ (X' : Cx) (a : Addr) (y : Str), HotX X' a y → Nm X' N sc raw → BlH X X' → JSs X' WF (b0 :: suite) (fs a y)) :
    JS X W (.Try body [.ExceptHandler (some (.Name T np)) (some n) (b0 :: suite) pos'] [] [] pos) (mTryAs i tab T fb fs) := by
  obtain ⟨hg, hdb, _⟩ := V.g hT
  obtain ⟨hN, _, _⟩ := V.s hi
  refine ⟨⟨_, L2N.ps_try_as (i := i) (n := n) (c := u) (Wout := W) Y.hs Y.hf V.nodup hN (by unfold Env.kindOf; rw [V.hs]; exact hl) ⟨hg, hdb, .inl hu⟩ C.tk
    (tb := fun W' De σ H => ∀ pn xe, L2N.Takes (X.tr pn xe) W' → PassesOwn (model X.prog X.w) X.A X.env xe → tAll (X.tr pn xe) body De σ H)
    (ts := fun a cls d De σ H => ∀ oe pn, L2N.Zn cls d oe → (∃ vs, oe.data = .fields vs) → tAll (X.suite a ((a, oe) :: pn)) (b0 :: suite) De σ H)
    (fun W' pn xe tk po => ⟨fun pins s σ H De I h => tAll_ok.run pins s σ H De I (h pn xe tk po)⟩)
    (fun a oe cls d pn hz hv => ⟨fun pins s σ H De I h => tAll_ok.run pins s σ H De I (h oe pn hz hv)⟩), fun ps σ Hf H env S De z => ?_⟩⟩
  intro pn xe tk po
  refine tAll_of (X := X.tr pn xe) (W := wAs X.K u i _ W De) (jb (X.tr pn xe) _ ⟨C.calm, C.hu, po, tk⟩ ⟨V.hN, V.hs, V.nd, V.kind, V.fn⟩ ⟨Y.hs, Y.hf⟩ ⟨rfl, rfl, rfl, rfl, rfl, rfl⟩) S ?_
  unfold mTryAs at z
  cases q : fb env with
  | ok fl e' => rw [q] at z; exact z
  | stuck => rw [q] at z; exact z
  | exc x p e' =>
    rw [q] at z
    cases p with
    | some d => exact False.elim z
    | none =>
      dsimp only at z
      cases w : tabAt tab x T with
      | none => rw [w] at z; exact False.elim z
      | some b =>
        rw [w] at z
        obtain ⟨Dd, u', hx, hT', hex⟩ := TO x T b (tabAt_mem w)
        cases (hu.symm.trans hT')
        intro cls dd σ' Hf' H' x' S' ie
        obtain ⟨ie1, ie2⟩ := ie
        cases (hx.symm.trans ie1)
        cases ie2
        refine ⟨b, hex, fun hb a ha oe pn' hz hv => ?_, fun hb => ?_⟩
        · subst hb
          obtain ⟨vs, hv⟩ := hv
          refine tAll_of (X := X.suite a ((a, oe) :: pn')) (W := WF) (jh (X.suite a ((a, oe) :: pn')) a x ⟨rfl, oe, vs, Dd, List.mem_cons_self, hx, hz.zc, hv, hz.2.2 vs hv⟩ ⟨V.hN, V.hs, V.nd, V.kind, V.fn⟩ ⟨rfl, rfl, rfl, rfl, rfl, rfl, rfl⟩) (S'.put i (.opq a)) ?_
          have z : SG X.K X.mg ps W De Hf (mCatch i (fun a => fs a x) e') := z
          unfold mCatch at z
          split at z
          · rename_i hall
            rw [hall _ a] at z
            have z : SG X.K X.mg ps W De Hf (unS i (fs a x (List.set e' i (Sl.val (D.opq a))))) := z
            cases r : fs a x (e'.set i (.val (.opq a))) with
            | ok fl e2 =>
              rw [r] at z
              cases fl with
              | nx => exact fun σ2 Hf2 H2 x2 S2 => z _ Hf2 H2 (x'.trans x2) (S2.drop i none)
              | bk => exact fun σ2 Hf2 H2 x2 S2 => z _ Hf2 H2 (x'.trans x2) (S2.drop i none)
              | ct => exact fun σ2 Hf2 H2 x2 S2 => z _ Hf2 H2 (x'.trans x2) (S2.drop i none)
              | rt d => exact fun σ2 Hf2 H2 x2 S2 => z σ2 Hf2 H2 (x'.trans x2) (S2.forget i)
              | ro l => exact fun σ2 Hf2 H2 x2 S2 => z σ2 Hf2 H2 (x'.trans x2) (S2.forget i)
            | exc y p e2 => rw [r] at z; exact False.elim z
            | stuck => rw [r] at z; exact False.elim z
          · exact False.elim z
        · subst hb
          exact z (.ref Dd) none σ' Hf' H' x' S' ⟨hx, rfl⟩
end
end DL

/-! DLg: name = [..], slices. -/
namespace DL
open PySem PySem.Spec PyProof.Rows L2 Evl
section
variable {X : Cx} {W : WX} {a b c e : Expr} {es : List Expr} {fa fb fc : M D} {pos : Pos} {N : List Str} {sc raw : Scope}
theorem js_setLc {i : Nat} {y : Str} {py spos : Pos} {scope : Scope} {own : List (Str × Nat)} {vs : List Nat} {tg iter elt : Expr} {ifs : List Expr} {fi : M (List D)} {g : D → M Unit} {tt : M Bool} {el : M D} (C : CtxOk X W) (V : Nm X N sc raw) (hS : okS N sc raw i y = true) (hl : sc.names.lookup y = some .local) (hb : blkC N sc scope own = true) (hvs : own.map (·.2) = vs)
    (hp : (py.line == pos.line) = true) (hna : (scope.names.any fun (n, k) => n == y && (k == .local || k == .cell)) = false)
    (ji : JI X W tg iter fi) (jg : InBl X N sc scope fun X' => JGv X' vs tg g) (jt : InBl X N sc scope fun X' => JTs X' WF ifs tt) (je : InBl X N sc scope fun X' => JE X' WF elt el) (hs : ∀ x, foldedSetIterable iter X.env x = pure x := by intro _; rfl) :
    JS X W (.Assign [.Name y py] (.ListComp elt [⟨tg, iter, ifs, 0⟩] scope pos) spos) (mAsg i (mLc vs fi g tt el)) := by
  subst hvs
  obtain ⟨hi, hx, hf⟩ := V.s hS
  obtain ⟨wi, g', tt', te, pi, ok, pg, pt, pe, h⟩ := lc_ok C V hb ji jg jt je
  have hll : X.env.scope.names.lookup y = some .local := by rw [V.hs]; exact hl
  refine ⟨⟨_, ps_setLc C.calm V.nodup hi hll (sw_true (by rw [V.hs]; exact V.kind) hll hp hna) pi ok pg pt pe hs, fun ps σ Hf H env S De z => ?_⟩⟩
  have z : EG X.K X.mg ps W Hf σ (Pd X.K X.mg fun v H' => De.nx (σ.set i (some v)) H') (mLc (own.map (·.2)) fi g tt el env) := SG.bnd z fun d e' Hf' H' x S' h1 v r => h1 _ Hf' H' (Ex.refl _) (S'.put i r)
  exact h ps σ Hf H env S (fun v H' => De.nx (σ.set i (some v)) H') (fun Hf r => EG X.K X.mg ps W Hf σ (Pd X.K X.mg fun v H' => De.nx (σ.set i (some v)) H') r) ⟨fun x r => EG.mono x r, fun _ z => z, fun z => z, fun {Hf H e p vacc acc} S hp nf ng r no z => z _ _ (Ex.new nf) (S.freezes hp nf ng no) _ (.lst (.inl (.inl upd_same)) (r.mono (Ex.new nf)))⟩ z

theorem sw_cell (V : Nm X N sc raw) {elt : Expr} {gs : List Comprehension} {scope : Scope} {py : Pos} {y : Str} {l : Nat} (hy : sc.names.lookup y = some .cell) : swapsWith (.ListComp elt gs scope pos) (some (.Name y py)) l X.env = pure false := by
  have ky : X.env.kindOf y = some .cell := by
    show X.env.scope.names.lookup y = _
    rw [V.hs]; exact hy
  unfold swapsWith
  simp only [ky]
  cases X.env.blockKind == ScopeKind.function <;> rfl
/-! ### slices -/
structure JO (X : Cx) (W : WX) (e : Option Expr) (f : M (Option Int)) : Prop where
  ex : ∃ t, PO X e t ∧ ∀ (ps : Fg) (σ : L2.St) (Hf H : Hp) (env : DEnv), SR X.K X.mg ps Hf H σ env → ∀ Q : Option Int → Hp → Prop, EG X.K X.mg ps W Hf σ (fun o _ H' => Q o H') (f env) → t σ H Q
def oNone : M (Option Int) := ret none
def oSome (f : M D) : M (Option Int) := bnd f fun d => match d with | .int i => ret (some i) | _ => stk
theorem jo_none : JO X W none oNone := ⟨⟨_, po_none, fun ps σ Hf H env S Q z => EG.ret (W := W) (P := fun o _ H' => Q o H') z S⟩⟩
theorem jo_some (j : JE X W e fa) : JO X W (some e) (oSome fa) := by
  obtain ⟨t, p, h⟩ := j.ex
  refine ⟨⟨_, po_some p, fun ps σ Hf H env S Q z => h ps σ Hf H env S _ (EG.bnd z fun d e1 Hf1 H1 x1 S1 h1 v r => ?_)⟩⟩
  split at h1
  · rename_i i
    rw [r.int_inv]
    exact ⟨i, rfl, EG.ret (W := W) (P := fun o _ H' => Q o H') h1 S1⟩
  · exact h1.elim
def cutD (xs : List D) (lo hi : Option Int) : List D := (xs.drop (HT.sIx xs.length 0 lo)).take (HT.sIx xs.length xs.length hi - HT.sIx xs.length 0 lo)
theorem rps_drop {K : PySem.W.Frag} {mg : MG} {H : Hp} {vs : List L2.V} {ds : List D} (r : Rps K mg H vs ds) : ∀ n : Nat, Rps K mg H (vs.drop n) (ds.drop n) := fun n => by
  induction n generalizing vs ds with
  | zero => exact r
  | succ n ih =>
    cases r with
    | nil => exact .nil
    | cons r1 r2 => exact ih r2
theorem rps_take {K : PySem.W.Frag} {mg : MG} {H : Hp} {vs : List L2.V} {ds : List D} (r : Rps K mg H vs ds) : ∀ n : Nat, Rps K mg H (vs.take n) (ds.take n) := fun n => by
  induction n generalizing vs ds with
  | zero => exact .nil
  | succ n ih =>
    cases r with
    | nil => exact .nil
    | cons r1 r2 => exact .cons r1 (ih r2)
theorem rps_cut {K : PySem.W.Frag} {mg : MG} {H : Hp} {vs : List L2.V} {ds : List D} (r : Rps K mg H vs ds) (lo hi : Option Int) : Rps K mg H (cutV vs lo hi) (cutD ds lo hi) := by
  unfold cutV cutD
  rw [r.length]
  exact rps_take (rps_drop r _) _
def dSlice (x : D) (lo hi : Option Int) : M D := match x with
  | .lst l => ret (.lst (cutD l lo hi))
  | .tup l => ret (.tup (cutD l lo hi))
  | .str z => if z.length ≤ sizeLine then ret (.str (cutS z lo hi)) else stk
  | _ => stk
def mSlice (fa : M D) (fl fu : M (Option Int)) : M D := bnd fa fun x => bnd fl fun l => bnd fu fun u => dSlice x l u
theorem je_slice {lo hi : Option Expr} {p2 : Pos} {fl fu : M (Option Int)} (ja : JE X W a fa) (jl : JO X W lo fl) (ju : JO X W hi fu) : JE X W (.Subscript a (.Slice lo hi none p2) pos) (mSlice fa fl fu) := by
  obtain ⟨t, p, h⟩ := ja.ex
  obtain ⟨tl, pl, hl⟩ := jl.ex
  obtain ⟨tu, pu, hu⟩ := ju.ex
  refine ⟨⟨_, pe_slice ((sl_list.or sl_tupA).or sl_str) p pl pu, fun ps σ Hf H env S Q z => ?_⟩⟩
  refine h ps σ Hf H env S _ (EG.bnd z fun x e1 Hf1 H1 x1 S1 z1 v rv => ?_)
  refine hl ps σ Hf1 H1 e1 S1 _ (EG.bnd z1 fun l e2 Hf2 H2 x2 S2 z2 => ?_)
  refine hu ps σ Hf2 H2 e2 S2 _ (EG.bnd z2 fun u e3 Hf3 H3 x3 S3 z3 => ?_)
  have rv := (rv.mono x2).mono x3
  unfold dSlice at z3
  split at z3
  · cases rv with
    | lst hq r => exact .inl (.inl ⟨_, _, rfl, ex_l S3.ex hq, new_lst S3 (rps_cut r l u) z3⟩)
  · cases rv with
    | tup hq r =>
      refine .inl (.inr ⟨_, _, rfl, ex_t S3.ex hq, fun hw => ?_, fun _ => new_tup S3 (rps_cut r l u) z3⟩)
      have e := z3.ret S3 _ (.tup hq (by
        have k := rps_cut r l u
        have e : ∀ {α : Type} (n : Nat) (ys : List α), ys.length = n → (ys.drop 0).take (n - 0) = ys := fun n ys hn => by rw [List.drop_zero, Nat.sub_zero, List.take_of_length_le (by omega)]
        unfold cutV at k
        rw [hw.1, hw.2, e _ _ rfl] at k
        exact k))
      exact e
  · split at z3
    · rename_i hz
      rw [rv.str_inv]
      exact .inr ⟨_, rfl, hz, z3.ret S3 _ (.str _)⟩
    · exact z3.elim
  · exact z3.elim
end
/-! ### facts about classes, of smaller ones -/
theorem kit_self {K : PySem.W.Frag} {C : Addr} : PySem.W.kitOne K (.ref C) (.ref C) = some true := by
  unfold PySem.W.kitOne
  rw [if_pos (by simp)]
theorem kit_own {K : PySem.W.Frag} {C Dd : Addr} {b : Bool} (hn : (C == Dd) = false) (hd : PySem.W.hasDictIn K Dd = true) (ht : PySem.W.typeIn K (.ref Dd) = some (.type "type")) (hs : PySem.W.subIn K (.ref C) (.ref Dd) = some b) : PySem.W.kitOne K (.ref C) (.ref Dd) = some b := by
  obtain ⟨cd, hc, _⟩ := PySem.W.any_some hd
  unfold PySem.W.kitOne PySem.W.kitCls
  rw [if_neg (fun z => by
    have e := eq_of_beq z
    cases e
    simp at hn)]
  dsimp only
  rw [if_pos (by rw [hc, ht] <;> rfl)]
  exact hs
theorem kit_ty {K : PySem.W.Frag} {C : Addr} {T : String} {b : Bool} (hs : PySem.W.subIn K (.ref C) (.type T) = some b) (hm : PySem.W.kitMeta T = true) : PySem.W.kitOne K (.ref C) (.type T) = some b := by
  unfold PySem.W.kitOne PySem.W.kitCls
  rw [if_neg (fun z => by
    have e := eq_of_beq z
    cases e)]
  dsimp only
  rw [if_pos hm]
  exact hs
end DL

/-! DLk: own lists (made, appended to, items set), ranges with steps, texts, module constants. -/
namespace DL
open PySem PySem.Spec PyProof.Rows L2 Evl
/-! ### a fresh list -/
def FGd (K : PySem.W.Frag) (mg : MG) (ps : Fg) (W : WX) (Hf : Hp) (σ : L2.St) (Q : VK) : Res (List D) → Prop
  | .ok ds e' => ∀ Hf' H' p vs, Ex Hf Hf' → SR K mg ps Hf' H' σ e' → H' p = some (.lst vs) → Hf' p = none → ps.g p = none → Rps K mg Hf' vs ds → (∀ (i : Nat) (k : Option Nat) (l : OD), e'[i]? = some (.own k l) → σ[i]? = some (some (.ref p)) → False) → Q (.ref p) H'
  | .exc x p e' => ∀ cls dd Hf' H', Ex Hf Hf' → SR K mg ps Hf' H' σ e' → IsExc K mg Hf' x p cls dd → W cls dd σ H'
  | .stuck => False
theorem FGd.mono {K : PySem.W.Frag} {mg : MG} {ps : Fg} {W : WX} {Hf Hf' : Hp} {σ : L2.St} {Q : VK} (x : Ex Hf Hf') : ∀ {r : Res (List D)}, FGd K mg ps W Hf σ Q r → FGd K mg ps W Hf' σ Q r
  | .ok _ _, h => fun Hf2 H2 p vs y s => h Hf2 H2 p vs (x.trans y) s
  | .exc _ _ _, h => fun c d Hf2 H2 y s z => h c d Hf2 H2 (x.trans y) s z
  | .stuck, h => h
structure JF (X : Cx) (W : WX) (e : Expr) (f : M (List D)) : Prop where
  ex : ∃ t, PE X e t ∧ ∀ (ps : Fg) (σ : L2.St) (Hf H : Hp) (env : DEnv), SR X.K X.mg ps Hf H σ env → ∀ Q : VK, FGd X.K X.mg ps W Hf σ Q (f env) → t σ H Q
section
variable {X : Cx} {W : WX} {a b c e : Expr} {es : List Expr} {fa fb fc : M D} {pos : Pos} {N : List Str} {sc raw : Scope} {f : M (List D)}
/-- a new list, laid by an expression, is nobody's -/
theorem lay_new {ps : Fg} {σ : L2.St} {Hf H : Hp} {env : DEnv} {Q : VK} {l : List D} {vs : List L2.V} (S : SR X.K X.mg ps Hf H σ env) (r : Rps X.K X.mg Hf vs l)
    (q : FGd X.K X.mg ps W Hf σ Q (.ok l env)) : ∀ p, H p = none → Q (.ref p) (upd H p (.lst vs)) := fun p np => by
  refine q Hf _ p vs (Ex.refl _) (S.laid np) upd_same (fresh_back S.ex np) ?_ r fun i k od h h2 => ?_
  · cases w : ps.g p with
    | none => rfl
    | some o => have := (S.fg p o w).1; rw [np] at this; cases this
  · obtain ⟨p', o, a1, _, a3, _⟩ := S.own h
    rw [h2] at a1; cases a1
    rw [np] at a3; cases a3
def mFl (f : M (List D)) : M (List D) := bnd f fun ds => if szOk ds.length then ret ds else stk
theorem fg_bnd {α : Type} {K : PySem.W.Frag} {mg : MG} {ps : Fg} {Hf : Hp} {σ : L2.St} {env : DEnv} {Q : VK} {m : M α} {g : α → M (List D)} {P1 : α → Hp → Hp → Prop} (h : FGd K mg ps W Hf σ Q (bnd m g env)) (hk : ∀ a e' Hf' H', Ex Hf Hf' → SR K mg ps Hf' H' σ e' → FGd K mg ps W Hf' σ Q (g a e') → P1 a Hf' H') : EG K mg ps W Hf σ P1 (m env) := by
  unfold bnd at h
  cases q : m env with
  | ok a e' => rw [q] at h; exact fun Hf2 H2 y s => hk a e' Hf2 H2 y s (FGd.mono y h)
  | exc x p e' => rw [q] at h; exact h
  | stuck => rw [q] at h; exact h
theorem jf_lst {f : M (List D)} (j : JA X W es f) : JF X W (.List es pos) (mFl f) := by
  obtain ⟨t, p, h⟩ := j.ex
  refine ⟨⟨_, pe_lst p, fun ps σ Hf H env S Q z => ?_⟩⟩
  refine h ps σ Hf H env S _ (fg_bnd z fun xs e1 Hf1 H1 x1 S1 h1 vs rvs => ?_)
  split at h1
  · rename_i hz
    exact ⟨by rw [rvs.length]; exact hz, lay_new S1 rvs h1⟩
  · exact h1.elim
def cListF : List D → M (List D) := fun ds => match ds with | [.lst l] => ret l | [.tup l] => ret l | _ => stk
def unL (m : M D) : M (List D) := fun env => match m env with | .ok (.lst l) e => .ok l e | .exc x p e => .exc x p e | _ => .stuck
theorem jf_lc {scope : Scope} {own : List (Str × Nat)} {vs : List Nat} {tg iter elt : Expr} {ifs : List Expr} {fi : M (List D)} {g : D → M Unit} {tt : M Bool} {el : M D} (C : CtxOk X W) (V : Nm X N sc raw) (hb : blkC N sc scope own = true) (hvs : own.map (·.2) = vs)
    (ji : JI X W tg iter fi) (jg : InBl X N sc scope fun X' => JGv X' vs tg g) (jt : InBl X N sc scope fun X' => JTs X' WF ifs tt) (je : InBl X N sc scope fun X' => JE X' WF elt el) (hs : ∀ x, foldedSetIterable iter X.env x = pure x := by intro _; rfl) :
    JF X W (.ListComp elt [⟨tg, iter, ifs, 0⟩] scope pos) (unL (mLc vs fi g tt el)) := by
  subst hvs
  obtain ⟨wi, g', tt', te, pi, ok, pg, pt, pe, h⟩ := lc_ok C V hb ji jg jt je
  refine ⟨⟨_, pe_lc C.calm V.nodup pi ok pg pt pe hs, fun ps σ Hf H env S Q z => h ps σ Hf H env S Q (fun Hf r => FGd X.K X.mg ps W Hf σ Q (match r with | .ok (.lst l) e => .ok l e | .exc x p e => .exc x p e | _ => .stuck)) ⟨fun x r => FGd.mono x r, fun _ z => z, fun z => z, fun {Hf H e p vacc acc} S hp nf ng r no z => z Hf H p vacc (Ex.refl _) S hp nf ng r no⟩ z⟩⟩
def mOwn (i : Nat) (f : M (List D)) : M Fl := bnd f fun ds env => .ok .nx (env.set i (.own none (.lst ds)))
theorem own_set {ps : Fg} {σ : L2.St} {Hf : Hp} {env : DEnv} {De : Ends} {i : Nat} (z : SG X.K X.mg ps W De Hf (mOwn i f env)) : FGd X.K X.mg ps W Hf σ (fun v H' => De.nx (σ.set i (some v)) H') (f env) := by
  unfold mOwn bnd at z
  cases q : f env with
  | ok ds e' =>
    rw [q] at z
    exact fun Hf' H' p vs x S hp nf ng r no => z _ Hf' H' x (S.take i hp nf ng ⟨vs, rfl, r⟩ no)
  | exc x p e' => rw [q] at z; exact fun cls dd Hf' H' x S ie => z cls dd σ Hf' H' x S ie
  | stuck => rw [q] at z; exact z
theorem js_own (V : Nm X N sc raw) {i : Nat} {x : Str} {pos' : Pos} (hS : okS N sc raw i x = true) (j : JF X W e f)
    (hs : swapsWith e (some (.Name x pos')) pos.line X.env = pure false := by rfl) : JS X W (.Assign [.Name x pos'] e pos) (mOwn i f) := by
  obtain ⟨hi, hx, hf⟩ := V.s hS
  have hN := V.nodup
  obtain ⟨t, p, h⟩ := j.ex
  exact ⟨⟨_, ps_set (i := i) hN hi hx p hs hf, fun ps σ Hf H env S De z => h ps σ Hf H env S _ (own_set z)⟩⟩
theorem js_ownLc {i : Nat} {y : Str} {py spos : Pos} {scope : Scope} {own : List (Str × Nat)} {vs : List Nat} {tg iter elt : Expr} {ifs : List Expr} {fi : M (List D)} {g : D → M Unit} {tt : M Bool} {el : M D} (C : CtxOk X W) (V : Nm X N sc raw) (hS : okS N sc raw i y = true) (hl : sc.names.lookup y = some .local) (hb : blkC N sc scope own = true) (hvs : own.map (·.2) = vs)
    (hp : (py.line == pos.line) = true) (hna : (scope.names.any fun (n, k) => n == y && (k == .local || k == .cell)) = false)
    (ji : JI X W tg iter fi) (jg : InBl X N sc scope fun X' => JGv X' vs tg g) (jt : InBl X N sc scope fun X' => JTs X' WF ifs tt) (je : InBl X N sc scope fun X' => JE X' WF elt el) (hs : ∀ x, foldedSetIterable iter X.env x = pure x := by intro _; rfl) :
    JS X W (.Assign [.Name y py] (.ListComp elt [⟨tg, iter, ifs, 0⟩] scope pos) spos) (mOwn i (unL (mLc vs fi g tt el))) := by
  subst hvs
  obtain ⟨hi, hx, hf⟩ := V.s hS
  obtain ⟨wi, g', tt', te, pi, ok, pg, pt, pe, h⟩ := lc_ok C V hb ji jg jt je
  have hll : X.env.scope.names.lookup y = some .local := by rw [V.hs]; exact hl
  refine ⟨⟨_, ps_setLc C.calm V.nodup hi hll (sw_true (by rw [V.hs]; exact V.kind) hll hp hna) pi ok pg pt pe hs, fun ps σ Hf H env S De z => ?_⟩⟩
  have z := own_set (σ := σ) z
  exact h ps σ Hf H env S (fun v H' => De.nx (σ.set i (some v)) H') (fun Hf r => FGd X.K X.mg ps W Hf σ (fun v H' => De.nx (σ.set i (some v)) H') (match r with | .ok (.lst l) e => .ok l e | .exc x p e => .exc x p e | _ => .stuck)) ⟨fun x r => FGd.mono x r, fun _ z => z, fun z => z, fun {Hf H e p vacc acc} S hp nf ng r no z => z Hf H p vacc (Ex.refl _) S hp nf ng r no⟩ z
/-! ### x.append(e) -/
def ownAt (env : DEnv) (i : Nat) : Option (Option Nat × List D) := match env[i]? with | some (.own k (.lst l)) => some (k, l) | _ => none
theorem ownAt_eq {env : DEnv} {i : Nat} {k : Option Nat} {l : List D} (h : ownAt env i = some (k, l)) : env[i]? = some (.own k (.lst l)) := by
  unfold ownAt at h
  split at h
  · rename_i k' l' q; cases h; exact q
  · cases h
def kApp (i : Nat) (d : D) : M Fl := fun env => match ownAt env i with
  | some (k, l) => if l.length < sizeLine then .ok .nx (env.set i (.own k (.lst (l ++ [d])))) else .stuck
  | none => .stuck
def mApp (i : Nat) (f : M D) : M Fl := fun env => match ownAt env i with | some _ => bnd f (kApp i) env | none => .stuck
theorem rps_snoc {K : PySem.W.Frag} {mg : MG} {H : Hp} {vs : List L2.V} {ds : List D} {v : L2.V} {d : D} (r : Rps K mg H vs ds) (r2 : Rp K mg H v d) : Rps K mg H (vs ++ [v]) (ds ++ [d]) := by
  induction ds generalizing vs with
  | nil => cases r; exact .cons r2 .nil
  | cons d' ds ih => cases r with | cons r1 rr => exact .cons r1 (ih rr)
theorem js_app {x : Str} {i : Nat} {p1 p2 p3 pos2 : Pos} (V : Nm X N sc raw) (hv : okV N sc i x = true) (j : JE X W e fa)
    (hbase : attributeBase (.Name x p1) "append" X.env (eval (.Name x p1) X.env) = eval (.Name x p1) X.env := by rfl)
    (hfew : ((backTo p3 (starEach [e] X.env)).all (fun x => !x.1) && (backToKw p3 (keywordEach [] X.env)).all (fun x => x.1.isSome)
      && decide ([e].length + ([] : List Keyword).length + (if ([] : List Keyword).isEmpty then 0 else 1) < 30)) = true := by rfl)
    (hline : (p2.endLine == p3.line) = true := by rfl) (hs : starEach [e] X.env = (false, eval e X.env) :: starEach [] X.env := by rfl) (hplain : (backTo p3 (starEach [] X.env)).any (·.1) = false := by rfl)
    (hsw : swapsWith (.Call (.Attribute (.Name x p1) "append" p2) [e] [] p3) none pos2.line X.env = pure false := by rfl) :
    JS X W (.Expr (.Call (.Attribute (.Name x p1) "append" p2) [e] [] p3) pos2) (mApp i fa) := by
  obtain ⟨hN, hvi, hd, hcd⟩ := V.v hv
  obtain ⟨t, p, h⟩ := j.ex
  refine ⟨⟨_, ps_expr (pe_bm PySem.F.plainAttrs_list PySem.F.slot_list_append PySem.F.type_list_append mt_append (pe_var hN hvi hd hcd) (pa_cons p pa_nil hs) hbase hfew hline hs hplain) hsw, fun ps σ Hf H env S De z => ?_⟩⟩
  unfold mApp at z
  cases w : ownAt env i with
  | none => rw [w] at z; exact z.elim
  | some kl =>
    obtain ⟨k, l⟩ := kl
    rw [w] at z
    obtain ⟨pa, o, hp, nf, ho, ⟨vs, e1, r⟩, hk⟩ := S.own (ownAt_eq w)
    subst e1
    refine ⟨.ref pa, hp, .inl ⟨rfl, vs, .inl (.inl ho)⟩, ?_⟩
    refine h ps σ Hf H env S _ (SG.bnd z fun d e1 Hf1 H1 x1 S1 z1 v rv => ?_)
    unfold kApp at z1
    cases w1 : ownAt e1 i with
    | none => rw [w1] at z1; exact z1.elim
    | some kl1 =>
      obtain ⟨k1, l1⟩ := kl1
      rw [w1] at z1
      dsimp only at z1
      by_cases hz : l1.length < sizeLine
      · rw [if_pos hz] at z1
        obtain ⟨p1, o1, hp1, nf1, ho1, ⟨vs1, e2, r1⟩, hk1⟩ := S1.own (ownAt_eq w1)
        subst e2
        rw [hp] at hp1; cases hp1
        exact ⟨pa, vs1, v, rfl, rfl, ho1, by rw [r1.length]; exact hz, z1 σ Hf1 _ (Ex.refl _) (S1.turn (ownAt_eq w1) hp ⟨vs1 ++ [v], rfl, rps_snoc r1 rv⟩)⟩
      · rw [if_neg hz] at z1; exact z1.elim
/-! ### x[k] = e -/
def kSet (i : Nat) (d kd : D) : M Fl := fun env => match kd, ownAt env i with
  | .int j, some (k, l) => (match ixN l.length j with | some n => .ok .nx (env.set i (.own k (.lst (l.set n d)))) | none => .stuck)
  | _, _ => .stuck
def mSetI (i : Nat) (fi fv : M D) : M Fl := bnd fv fun d env => match ownAt env i with | some _ => bnd fi (fun kd => kSet i d kd) env | none => .stuck
theorem rps_set {K : PySem.W.Frag} {mg : MG} {H : Hp} {vs : List L2.V} {ds : List D} {v : L2.V} {d : D} (r : Rps K mg H vs ds) (r2 : Rp K mg H v d) : ∀ n, Rps K mg H (vs.set n v) (ds.set n d) := fun n => by
  induction ds generalizing vs n with
  | nil => cases r; exact .nil
  | cons d' ds ih => cases r with
    | cons r1 rr => cases n with
      | zero => exact .cons r2 rr
      | succ n => exact .cons r1 (ih rr n)
theorem js_setI {x : Str} {i : Nat} {p1 p2 : Pos} (V : Nm X N sc raw) (hv : okV N sc i x = true) (j : JE X W e fa) (k : JE X W b fb)
    (ha : ∀ v, assign (.Subscript (.Name x p1) b p2) X.env v = (do
      let ov ← holding [v] (eval (.Name x p1) X.env)
      let iv ← holding [v, ov] (eval b X.env)
      standAt p2
      holding [v, ov, iv] (setItem ov iv v)
      release [v, ov, iv] []) := by intro _; rfl)
    (hs : swapsWithSole [.Subscript (.Name x p1) b p2] e pos.line X.env = pure false := by rfl) (hw : swappedStores [.Subscript (.Name x p1) b p2] e X.env = pure none := by rfl) (h1 : (assignEach [.Subscript (.Name x p1) b p2] X.env).map (·.2) = [assign (.Subscript (.Name x p1) b p2) X.env] := by rfl) :
    JS X W (.Assign [.Subscript (.Name x p1) b p2] e pos) (mSetI i fb fa) := by
  obtain ⟨hN, hvi, hd, hcd⟩ := V.v hv
  obtain ⟨t, p, h⟩ := j.ex
  obtain ⟨tb, pb, hb⟩ := k.ex
  refine ⟨⟨_, ps_asg p (pg_sub (pe_var hN hvi hd hcd) pb set_list ha) hs hw h1, fun ps σ Hf H env S De z => ?_⟩⟩
  refine h ps σ Hf H env S _ (SG.bnd z fun d e1 Hf1 H1 x1 S1 z1 v rv => ?_)
  cases w : ownAt e1 i with
  | none => rw [w] at z1; exact z1.elim
  | some kl =>
    obtain ⟨kk, l⟩ := kl
    rw [w] at z1
    obtain ⟨pa, o, hp, nf, ho, ⟨vs, e2, r⟩, hk⟩ := S1.own (ownAt_eq w)
    refine ⟨.ref pa, hp, ?_⟩
    refine hb ps σ Hf1 H1 e1 S1 _ (SG.bnd z1 fun kd e3 Hf3 H3 x3 S3 z3 u ru => ?_)
    unfold kSet at z3
    split at z3
    · rename_i jj k3 l3 w3
      split at z3
      · rename_i n hn
        obtain ⟨p3, o3, hp3, nf3, ho3, ⟨vs3, e4, r3⟩, hk3⟩ := S3.own (ownAt_eq w3)
        subst e4
        rw [hp] at hp3; cases hp3
        exact ⟨pa, vs3, jj, n, rfl, ru.int_inv, ho3, by rw [r3.length]; exact hn, z3 σ Hf3 _ (Ex.refl _) (S3.turn (ownAt_eq w3) hp ⟨vs3.set n v, rfl, rps_set r3 (rv.mono x3) n⟩)⟩
      · exact z3.elim
    · exact z3.elim
/-! ### range with a step -/
def rng3D (i c : Int) (n : Nat) : List D := (List.range n).map fun (k : Nat) => .int (i + (k : Int) * c)
theorem itok_range3 {K : PySem.W.Frag} {mg : MG} {Hf : Hp} {lo c : Int} {n : Nat} : ItOk K mg Hf (Itc lo c n) (rng3D lo c n) where
  go := fun i d hd ps σ env Hf2 H2 x S => by
    unfold rng3D at hd
    rw [List.getElem?_map] at hd
    have hi : i < n := by
      cases q : (List.range n)[i]? with
      | none => rw [q] at hd; cases hd
      | some k => have := (List.getElem?_eq_some_iff.mp q).1; simpa using this
    rw [List.getElem?_range hi] at hd
    cases hd
    exact ⟨hi, fun x H3 y => ⟨Hf2, Ex.refl _, by rw [y.1]; exact S, by rw [y.2]; exact .int _⟩⟩
  stop := fun i hi ps σ env Hf2 H2 x S => by
    unfold rng3D at hi
    have hi' : n ≤ i := by simpa using hi
    exact hi'
instance (i j c : Int) (n : Nat) : Decidable (RgC i j c n) := by unfold RgC; infer_instance
def mRng3 (f : M (List D)) : M (List D) := bnd f fun ds => match ds with | [.int i, .int j, .int c] => if RgC i j c (Builtin.Range.rangeSize i j c).toNat then ret (rng3D i c (Builtin.Range.rangeSize i j c).toNat) else stk | _ => stk
theorem ji_range3 {tg : Expr} {p : Pos} {f : M (List D)} (V : Nm X N sc raw) (hG : okG sc "range" = true) (hm : X.mg "range" = none) (ja : JA X W [a, b, c] f) (hs : starEach [a, b, c] X.env = (false, eval a X.env) :: starEach [b, c] X.env := by rfl) (hpl : (backTo pos (starEach [b, c] X.env)).any (·.1) = false := by rfl) :
    JI X W tg (.Call (.Name "range" p) [a, b, c] [] pos) (mRng3 f) := by
  have hg := (V.g hG).1
  obtain ⟨t, q, h⟩ := ja.ex
  refine ⟨⟨_, pi_range3 hg hm q hs hpl, fun ps σ Hf H env S R z => ?_⟩⟩
  refine h ps σ Hf H env S _ (EG.bnd z fun ds e1 Hf1 H1 x1 S1 h1 vs r => ?_)
  split at h1
  · rename_i i j c'
    split at h1
    · rename_i hc
      cases r with
      | cons r1 r2 => cases r2 with
        | cons r3 r4 => cases r4 with
          | cons r5 r6 => cases r6; rw [r1.int_inv, r3.int_inv, r5.int_inv]; exact ⟨i, j, c', _, rfl, hc, h1.ret S1 _ itok_range3⟩
    · exact h1.elim
  · exact h1.elim
/-! ### zip -/
def zipD (l m : List D) : List D := (l.zip m).map fun p => .tup [p.1, p.2]
theorem zipD_at {l m : List D} {i : Nat} {d : D} (h : (zipD l m)[i]? = some d) : ∃ x y, l[i]? = some x ∧ m[i]? = some y ∧ d = .tup [x, y] := by
  unfold zipD at h
  rw [List.getElem?_map] at h
  cases q : (l.zip m)[i]? with
  | none => rw [q] at h; cases h
  | some p =>
    rw [q] at h
    cases h
    obtain ⟨a, b⟩ := List.getElem?_zip_eq_some.mp q
    exact ⟨p.1, p.2, a, b, rfl⟩
theorem zipD_len {l m : List D} : (zipD l m).length = min l.length m.length := by unfold zipD; rw [List.length_map, List.length_zip]
theorem itok_zipL {K : PySem.W.Frag} {mg : MG} {Hf : Hp} {a b : Addr} {xs ys : List L2.V} {l m : List D} (hx : SqL K Hf a xs) (rx : Rps K mg Hf xs l) (hy : SqL K Hf b ys) (ry : Rps K mg Hf ys m) : ItOk K mg Hf (Itz K a b) (zipD l m) where
  go := fun i d hd ps σ env Hf2 H2 x S => by
    obtain ⟨dx, dy, h1, h2, rfl⟩ := zipD_at hd
    obtain ⟨u, hu, ru⟩ := rx.get h1
    obtain ⟨w, hw, rw'⟩ := ry.get h2
    have qx := ex_l S.ex (ex_l x hx)
    have qy := ex_l S.ex (ex_l x hy)
    refine ⟨⟨xs, ys, u, w, qx, qy, hu, hw⟩, fun v H3 yl => ?_⟩
    obtain ⟨T, x', y', rfl, nT, rfl, k1, k2⟩ := yl
    have e1 := k1 xs qx
    have e2 := k2 ys qy
    rw [hu] at e1; cases e1
    rw [hw] at e2; cases e2
    have nf := fresh_back S.ex nT
    exact ⟨_, Ex.new nf, S.froze nT, .tup (.inl (.inl upd_same)) (.cons ((ru.mono x).mono (Ex.new nf)) (.cons ((rw'.mono x).mono (Ex.new nf)) .nil))⟩
  stop := fun i hi ps σ env Hf2 H2 x S => by
    rw [zipD_len] at hi
    refine ⟨xs, ys, ex_l S.ex (ex_l x hx), ex_l S.ex (ex_l x hy), ?_⟩
    rw [rx.length, ry.length]
    omega
theorem itok_zipT {K : PySem.W.Frag} {mg : MG} {Hf : Hp} {a b : Addr} {xs ys : List L2.V} {l m : List D} (hx : SqT K Hf a xs) (rx : Rps K mg Hf xs l) (hy : SqT K Hf b ys) (ry : Rps K mg Hf ys m) : ItOk K mg Hf (RZ.ItzT K a b) (zipD l m) where
  go := fun i d hd ps σ env Hf2 H2 x S => by
    obtain ⟨dx, dy, h1, h2, rfl⟩ := zipD_at hd
    obtain ⟨u, hu, ru⟩ := rx.get h1
    obtain ⟨w, hw, rw'⟩ := ry.get h2
    have qx := ex_t S.ex (ex_t x hx)
    have qy := ex_t S.ex (ex_t x hy)
    refine ⟨⟨xs, ys, u, w, qx, qy, hu, hw⟩, fun v H3 yl => ?_⟩
    obtain ⟨T, x', y', rfl, nT, rfl, k1, k2⟩ := yl
    have e1 := k1 xs qx
    have e2 := k2 ys qy
    rw [hu] at e1; cases e1
    rw [hw] at e2; cases e2
    have nf := fresh_back S.ex nT
    exact ⟨_, Ex.new nf, S.froze nT, .tup (.inl (.inl upd_same)) (.cons ((ru.mono x).mono (Ex.new nf)) (.cons ((rw'.mono x).mono (Ex.new nf)) .nil))⟩
  stop := fun i hi ps σ env Hf2 H2 x S => by
    rw [zipD_len] at hi
    refine ⟨xs, ys, ex_t S.ex (ex_t x hx), ex_t S.ex (ex_t x hy), ?_⟩
    rw [rx.length, ry.length]
    omega
def mZip (f : M (List D)) : M (List D) := bnd f fun ds => match ds with | [.lst l, .lst m] => ret (zipD l m) | [.tup l, .tup m] => ret (zipD l m) | _ => stk
theorem ji_zip {p tpos : Pos} {elts : List Expr} {kk : Nat} (V : Nm X N sc raw) (hG : okG sc "zip" = true) (hm : X.mg "zip" = none) (ja : JA X W [a, b] f) (hs : starEach [a, b] X.env = (false, eval a X.env) :: starEach [b] X.env := by rfl) (hpl : (backTo pos (starEach [b] X.env)).any (·.1) = false := by rfl) :
    JI X W (.Tuple elts kk tpos) (.Call (.Name "zip" p) [a, b] [] pos) (mZip f) := by
  have hg := (V.g hG).1
  obtain ⟨t, q, h⟩ := ja.ex
  refine ⟨⟨_, RZ.pi_zipA hg hm q hs hpl, fun ps σ Hf H env S R z => ?_⟩⟩
  refine h ps σ Hf H env S _ (EG.bnd z fun ds e1 Hf1 H1 x1 S1 h1 vs r => ?_)
  split at h1
  · cases r with
    | cons r1 r2 => cases r2 with
      | cons r3 r4 =>
        cases r4
        cases r1 with
        | lst hx rx => cases r3 with
          | lst hy ry => exact ⟨_, _, _, _, rfl, .inl ⟨ex_l S1.ex hx, ex_l S1.ex hy, h1.ret S1 _ (itok_zipL hx rx hy ry)⟩⟩
  · cases r with
    | cons r1 r2 => cases r2 with
      | cons r3 r4 =>
        cases r4
        cases r1 with
        | tup hx rx => cases r3 with
          | tup hy ry => exact ⟨_, _, _, _, rfl, .inr ⟨ex_t S1.ex hx, ex_t S1.ex hy, h1.ret S1 _ (itok_zipT hx rx hy ry)⟩⟩
  · exact h1.elim
/-! ### module constants -/
inductive ConstR : D → Value → Prop where
  | int (i : Int) (t : Tok) : ConstR (.int i) (.int i t)
  | str (z : Str) (t : Tok) : ConstR (.str z) (.str z t)
structure Kst (mg : MG) (x : Str) (d : D) : Prop where
  ex : ∃ u, mg x = some u ∧ ConstR d u
theorem je_const {x : Str} {d : D} (V : Nm X N sc raw) (hG : okG sc x = true) (k : Kst X.mg x d) : JE X W (.Name x pos) (ret d) := by
  obtain ⟨hg, hdb, _⟩ := V.g hG
  obtain ⟨u, hm, r⟩ := k.ex
  cases r with
  | int i t => exact ⟨⟨_, pe_glob (v := .int i) hg hm ⟨t, rfl⟩ hdb, fun ps σ Hf H env S Q z => z.ret S _ (.int i)⟩⟩
  | str z t => exact ⟨⟨_, pe_glob (v := .str z) hg hm ⟨t, rfl⟩ hdb, fun ps σ Hf H env S Q z => z.ret S _ (.str _)⟩⟩
theorem Bl.kst {X X' : Cx} (B : Bl X X') {x : Str} {d : D} (h : Kst X.mg x d) : Kst X'.mg x d := by rw [B.mg]; exact h
theorem BlH.kst {X X' : Cx} (B : BlH X X') {x : Str} {d : D} (h : Kst X.mg x d) : Kst X'.mg x d := by rw [B.mg]; exact h
/-! ### texts -/
def asStrs : List D → Option (List Str)
  | [] => some []
  | .str z :: r => (asStrs r).map (z :: ·)
  | _ :: _ => none
theorem asStrs_eq : ∀ {l : List D} {ys : List Str}, asStrs l = some ys → l = ys.map .str
  | [], ys, h => by cases h; rfl
  | d :: r, ys, h => by
    unfold asStrs at h
    split at h
    · rename_i h0; cases h0
    · rename_i z r' h0
      cases h0
      cases q : asStrs r with
      | none => rw [q] at h; cases h
      | some zs => rw [q] at h; cases h; rw [asStrs_eq q]; rfl
    · cases h
theorem asStrs_map : ∀ ys : List Str, asStrs (ys.map .str) = some ys
  | [] => rfl
  | z :: r => by rw [List.map_cons, asStrs, asStrs_map r]; rfl
theorem Rps.strs {K : PySem.W.Frag} {mg : MG} {H : Hp} : ∀ {ys : List Str} {vs : List L2.V}, Rps K mg H vs (ys.map .str) → vs = ys.map V.str
  | [], _, r => by cases r; rfl
  | z :: ys, _, r => by
    cases r with
    | cons r1 r2 => rw [r1.str_inv, Rps.strs r2]; rfl
theorem rps_strs {K : PySem.W.Frag} {mg : MG} {H : Hp} : ∀ ys : List Str, Rps K mg H (ys.map V.str) (ys.map D.str)
  | [] => .nil
  | z :: r => .cons (.str z) (rps_strs r)
def xStr (g : Str → M D) (x : D) : M D := match x with | .str s => g s | _ => stk
def dSplit (a : Str) (y : D) : M D := match y with
  | .str b => if (b.length == 0) = false ∧ a.length + 2 ≤ sizeLine then ret (.lst ((Txt.split a b).map .str)) else stk
  | _ => stk
theorem je_split {apos : Pos} (ja : JE X W a fa) (jb : JE X W b fb) (hs : starEach [b] X.env = [(false, eval b X.env)] := by rfl) (hbase : attributeBase a "split" X.env (eval a X.env) = eval a X.env := by rfl) (hline : (apos.endLine == pos.line) = true := by rfl) :
    JE X W (.Call (.Attribute a "split" apos) [b] [] pos) (bnd fa (xStr fun s => bnd fb (dSplit s))) := by
  obtain ⟨t, p, h⟩ := ja.ex
  obtain ⟨tb, pb, hb⟩ := jb.ex
  refine ⟨⟨_, pe_split p pb hs hbase hline, fun ps σ Hf H env S Q z => ?_⟩⟩
  refine h ps σ Hf H env S _ (EG.bnd z fun x e1 Hf1 H1 x1 S1 z1 v rv => ?_)
  unfold xStr at z1
  split at z1
  · rename_i sa
    rw [rv.str_inv]
    refine ⟨⟨sa, rfl⟩, ?_⟩
    refine hb ps σ Hf1 H1 e1 S1 _ (EG.bnd z1 fun y e2 Hf2 H2 x2 S2 z2 u ru => ?_)
    cases y with
    | str b' =>
      have z2 : EG X.K X.mg ps W Hf2 σ (Pd X.K X.mg Q) ((if (b'.length == 0) = false ∧ sa.length + 2 ≤ sizeLine then ret (D.lst ((Txt.split sa b').map .str)) else stk) e2) := z2
      split at z2
      · rename_i hc
        rw [ru.str_inv]
        exact ⟨sa, b', rfl, rfl, hc.1, hc.2, new_lst S2 (rps_strs _) z2⟩
      · exact z2.elim
    | _ => exact z2.elim
  · exact z1.elim
def joinOk (a : Str) (ys : List Str) : Prop := (ys.map (·.length)).sum + ys.length * a.length ≤ 16777216
instance (a : Str) (ys : List Str) : Decidable (joinOk a ys) := by unfold joinOk; infer_instance
def oJoin (a : Str) (o : Option (List Str)) : M D := match o with | some ys => if joinOk a ys then ret (.str (Txt.join a ys)) else stk | none => stk
def dJoin (a : Str) (y : D) : M D := match y with
  | .lst l => oJoin a (asStrs l)
  | .tup l => oJoin a (asStrs l)
  | _ => stk
theorem je_join {apos : Pos} (ja : JE X W a fa) (jb : JE X W b fb) (hs : starEach [b] X.env = [(false, eval b X.env)] := by rfl) (hbase : attributeBase a "join" X.env (eval a X.env) = eval a X.env := by rfl) (hline : (apos.endLine == pos.line) = true := by rfl) :
    JE X W (.Call (.Attribute a "join" apos) [b] [] pos) (bnd fa (xStr fun s => bnd fb (dJoin s))) := by
  obtain ⟨t, p, h⟩ := ja.ex
  obtain ⟨tb, pb, hb⟩ := jb.ex
  refine ⟨⟨_, pe_join p pb hs hbase hline, fun ps σ Hf H env S Q z => ?_⟩⟩
  refine h ps σ Hf H env S _ (EG.bnd z fun x e1 Hf1 H1 x1 S1 z1 v rv => ?_)
  unfold xStr at z1
  split at z1
  · rename_i sa
    rw [rv.str_inv]
    refine ⟨⟨sa, rfl⟩, ?_⟩
    refine hb ps σ Hf1 H1 e1 S1 _ (EG.bnd z1 fun y e2 Hf2 H2 x2 S2 z2 u ru => ?_)
    have fin : ∀ l : List D, EG X.K X.mg ps W Hf2 σ (Pd X.K X.mg Q) (oJoin sa (asStrs l) e2) → ∃ ys : List Str, l = ys.map .str ∧ joinOk sa ys ∧ Q (.str (Txt.join sa ys)) H2 := fun l z => by
      cases w : asStrs l with
      | none => rw [w] at z; exact z.elim
      | some ys =>
        rw [w] at z
        unfold oJoin at z
        dsimp only at z
        split at z
        · rename_i hc
          exact ⟨ys, asStrs_eq w, hc, z.ret S2 _ (.str _)⟩
        · exact z.elim
    unfold dJoin at z2
    split at z2
    · obtain ⟨ys, rfl, hc, q⟩ := fin _ z2
      cases ru with
      | lst hq r =>
        have e := r.strs
        subst e
        exact ⟨sa, _, ys, rfl, rfl, .inl (ex_l S2.ex hq), hc, q⟩
    · obtain ⟨ys, rfl, hc, q⟩ := fin _ z2
      cases ru with
      | tup hq r =>
        have e := r.strs
        subst e
        exact ⟨sa, _, ys, rfl, rfl, .inr (ex_t S2.ex hq), hc, q⟩
    · exact z2.elim
  · exact z1.elim
/-! ### in, not in -/
def sgn (z : Str) : Option Nat := match z.cps.toList with | [c] => some c | _ => none
theorem sgn_eq {z : Str} {c : Nat} (h : sgn z = some c) : z = ⟨#[c]⟩ := by
  unfold sgn at h
  split at h
  · rename_i c' q
    cases h
    obtain ⟨cps⟩ := z
    have : cps = #[c] := by
      apply Array.toList_inj.mp
      exact q
    rw [this]
  · cases h
theorem sgn_one {c : Nat} : sgn ⟨#[c]⟩ = some c := rfl
def inS (neg : Bool) (o : Option Nat) (z : Str) : M D := match o with | some c => ret (.bl (if neg then !decide (c ∈ z.cps.toList) else decide (c ∈ z.cps.toList))) | none => stk
def dIn (neg : Bool) (x y : D) : M D := match x, y with
  | .str s, .str z => inS neg (sgn s) z
  | _, _ => stk
theorem rj_in : RJ X W (fun x y H Q => ∃ (c : Nat) (z : Str), x = .str ⟨#[c]⟩ ∧ y = .str z ∧ Q (.bl (decide (c ∈ z.cps.toList))) H) (dIn false) := by
  intro ps σ Hf H env x y dx dy Q S rx ry q
  unfold dIn at q
  split at q
  · rename_i s z
    rw [rx.str_inv, ry.str_inv]
    cases w : sgn s with
    | none => rw [w] at q; exact q.elim
    | some c => rw [w] at q; exact ⟨c, z, by rw [sgn_eq w], rfl, q.ret S _ (.bl _)⟩
  · exact q.elim
theorem rj_nin : RJ X W (fun x y H Q => ∃ (c : Nat) (z : Str), x = .str ⟨#[c]⟩ ∧ y = .str z ∧ Q (.bl (!decide (c ∈ z.cps.toList))) H) (dIn true) := by
  intro ps σ Hf H env x y dx dy Q S rx ry q
  unfold dIn at q
  split at q
  · rename_i s z
    rw [rx.str_inv, ry.str_inv]
    cases w : sgn s with
    | none => rw [w] at q; exact q.elim
    | some c => rw [w] at q; exact ⟨c, z, by rw [sgn_eq w], rfl, q.ret S _ (.bl _)⟩
  · exact q.elim
theorem je_in (ja : JE X W a fa) (jb : JE X W b fb) (hm : behindInMarks .In b = false := by rfl) : JE X W (.Compare a [.In] [b] pos) (m2 fa fb (dIn false)) := je_cmp op_in_sign rj_in ja jb hm
theorem je_nin (ja : JE X W a fa) (jb : JE X W b fb) (hm : behindInMarks .NotIn b = false := by rfl) : JE X W (.Compare a [.NotIn] [b] pos) (m2 fa fb (dIn true)) := je_cmp op_notIn_sign rj_nin ja jb hm
theorem jt_in (ja : JE X W a fa) (jb : JE X W b fb) (hm : behindInMarks .In b = false := by rfl) : JT X W (.Compare a [.In] [b] pos) (bnd (m2 fa fb (dIn false)) mB) := jt_cmp op_in_sign rj_in ja jb hm
theorem jt_nin (ja : JE X W a fa) (jb : JE X W b fb) (hm : behindInMarks .NotIn b = false := by rfl) : JT X W (.Compare a [.NotIn] [b] pos) (bnd (m2 fa fb (dIn true)) mB) := jt_cmp op_notIn_sign rj_nin ja jb hm
end
end DL

/-! DLs: how a body's worth is reckoned. -/
namespace DL
open PySem PySem.Spec PyProof.Rows L2 Evl
theorem forL_nil {g : D → M Unit} {b : M Fl} {e : DEnv} : forL g b [] e = .ok .nx e := rfl
theorem forL_cons {g : D → M Unit} {b : M Fl} {d : D} {r : List D} {e : DEnv} : forL g b (d :: r) e = bnd (g d) (fun _ => again b (forL g b r)) e := rfl
/-- a loop by an invariant -/
theorem forL_inv {g : D → M Unit} {b : M Fl} (I : DEnv → Prop) : ∀ ds : List D, (∀ d ∈ ds, ∀ e, I e → ∃ e1 e2, g d e = .ok () e1 ∧ (b e1 = .ok .nx e2 ∨ b e1 = .ok .ct e2) ∧ I e2) → ∀ e, I e → ∃ e', forL g b ds e = .ok .nx e' ∧ I e'
  | [], _, e, h => ⟨e, rfl, h⟩
  | d :: r, hs, e, h => by
    obtain ⟨e1, e2, h1, h2, h3⟩ := hs d List.mem_cons_self e h
    obtain ⟨e', h4, h5⟩ := forL_inv I r (fun d' hd => hs d' (List.mem_cons_of_mem _ hd)) e2 h3
    refine ⟨e', ?_, h5⟩
    rw [forL_cons, bnd_ok h1]
    unfold again
    rcases h2 with h2 | h2 <;> rw [h2] <;> exact h4
theorem mem_rngD {d : D} {lo : Int} {n : Nat} (h : d ∈ rngD lo n) : ∃ k : Nat, k < n ∧ d = .int (lo + k) := by
  unfold rngD at h
  obtain ⟨k, hk, rfl⟩ := List.mem_map.mp h
  exact ⟨k, by simpa using hk, rfl⟩
abbrev ib := Builtin.Int.intBits
theorem ib_of {x : Int} {m : Nat} (h : x.natAbs < 2 ^ m) : ib x ≤ m := PySem.intBits_le_iff.mpr h
theorem divOk_of {j : Int} {m : Nat} (h0 : j ≠ 0) (h : ib j ≤ m) (hm : m ≤ 9000) : DivOk j := by
  refine ⟨h0, ?_⟩
  have h1 : j.natAbs < 2 ^ 9000 := Nat.lt_of_lt_of_le (PySem.intBits_le_iff.mp h) (Nat.pow_le_pow_right (by decide) hm)
  exact (Nat.log2_lt (by omega)).mpr h1
theorem atI_ints {ns : List Int} {k : Int} (h0 : 0 ≤ k) (h1 : k < ns.length) : atI (ns.map D.int) k = some (.int (ns.getD k.toNat 0)) := by
  obtain ⟨j, rfl⟩ := Int.eq_ofNat_of_zero_le h0
  have hj : j < ns.length := by omega
  refine atI_nat (j := j) ?_
  rw [List.getElem?_map, List.getElem?_eq_getElem hj]
  simp [List.getD, hj]
end DL
namespace DL
open PySem PySem.Spec PyProof.Rows L2 Evl
/-! ### a worth at an environment -/
section
variable {α β : Type} {a : α} {e e' : DEnv} {m : M α} {f : α → M β} {x : Str} {p : Option D} {d d' : D} {i j : Int} {n k : Nat} {fa fb : M D} {g : D → D → M D} {s t : M Fl} {c : M Bool} {b : Bool}
def rB (r : Res α) (f : α → M β) : Res β := match r with | .ok a e => f a e | .exc x p e => .exc x p e | .stuck => .stuck
def sQ (r : Res Fl) (g : M Fl) : Res Fl := match r with | .ok .nx e => g e | r => r
def aG (r : Res Fl) (k : M Fl) : Res Fl := match r with | .ok .nx e => k e | .ok .ct e => k e | .ok .bk e => .ok .nx e | r => r
def oS (o : Option Sl) (e : DEnv) (i : Nat) : Res D := match o with | some (.val d) => .ok d e | some (.own none (.lst l)) => .ok (.lst l) (frz1 e i) | _ => .stuck
theorem a_ret : DL.ret a e = .ok a e := rfl
theorem a_stk : (stk e : Res α) = .stuck := rfl
theorem a_bnd : bnd m f e = rB (m e) f := rfl
theorem a_rok : rB (.ok a e) f = f a e := rfl
theorem a_rexc : rB (.exc x p e : Res α) f = .exc x p e := rfl
theorem a_rst : rB (.stuck : Res α) f = .stuck := rfl
theorem a_rite {q : Prop} [Decidable q] {r r' : Res α} : rB (if q then r else r') f = if q then rB r f else rB r' f := by split <;> rfl
theorem a_var : mVar n e = oS e[n]? e n := rfl
theorem a_oval : oS (some (.val d)) e n = .ok d e := rfl
theorem a_oown {l : List D} : oS (some (.own none (.lst l))) e n = .ok (.lst l) (frz1 e n) := rfl
theorem a_m2 : m2 fa fb g e = rB (fa e) (fun x => bnd fb fun y => g x y) := rfl
theorem a_g2i {h : Int → Int → M D} : g2i h (.int i) (.int j) e = h i j e := rfl
theorem a_add : iAdd i j e = .ok (.int (i + j)) e := rfl
theorem a_mAdd : mAdd (.int i) (.int j) e = .ok (.int (i + j)) e := rfl
theorem a_sub : iSub i j e = .ok (.int (i - j)) e := rfl
theorem a_mul : iMul i j e = if IntMulOk i j then .ok (.int (i * j)) e else .stuck := by unfold iMul; split <;> rfl
theorem a_div : iDiv i j e = if DivOk j then .ok (.int (i.fdiv j)) e else .stuck := by unfold iDiv; split <;> rfl
theorem a_mod : iMod i j e = if j ≠ 0 then .ok (.int (i.fmod j)) e else .stuck := by unfold iMod; split <;> rfl
theorem a_pow : iPow i j e = if PowOk i j then .ok (.int (i ^ j.toNat)) e else .stuck := by unfold iPow; split <;> rfl
theorem a_shr : iShr i j e = if 0 ≤ j then .ok (.int (i / 2 ^ j.toNat)) e else .stuck := by unfold iShr; split <;> rfl
theorem a_cmp {q : Int → Int → Bool} : iCmp q i j e = .ok (.bl (q i j)) e := rfl
theorem a_eq : mEq d d' e = if eqOk d d' = true then .ok (.bl (deq d d')) e else .stuck := by unfold mEq; split <;> rfl
theorem a_ne : mNe d d' e = if eqOk d d' = true then .ok (.bl (!deq d d')) e else .stuck := by unfold mNe; split <;> rfl
theorem a_u1i {h : Int → M D} : u1i h (.int i) e = h i e := rfl
theorem a_mB : mB (.bl b) e = .ok b e := rfl
theorem a_truB : mTru (.bl b) e = .ok b e := rfl
theorem a_truI : mTru (.int i) e = .ok (i != 0) e := rfl
theorem a_truN : mTru .non e = .ok false e := rfl
theorem a_truL {l : List D} : mTru (.lst l) e = .ok (!l.isEmpty) e := rfl
theorem a_truT {l : List D} : mTru (.tup l) e = .ok (!l.isEmpty) e := rfl
theorem a_bAnd {c' : M Bool} : bAnd c c' e = rB (c e) (fun b => if b = true then c' else DL.ret false) := rfl
theorem a_bOr {c' : M Bool} : bOr c c' e = rB (c e) (fun b => if b = true then DL.ret true else c') := rfl
theorem a_bNot : bNot c e = rB (c e) (fun b => DL.ret (!b)) := rfl
theorem a_vAnd : vAnd fa fb e = rB (fa e) (fun x => match x with | .bl c => if c = true then fb else DL.ret (.bl false) | _ => stk) := rfl
theorem a_vOr : vOr fa fb e = rB (fa e) (fun x => match x with | .bl c => if c = true then DL.ret (.bl true) else fb | _ => stk) := rfl
theorem a_vNot : vNot fa e = rB (fa e) (fun x => match x with | .bl c => DL.ret (.bl (!c)) | _ => stk) := rfl
theorem a_if {f g : M α} : mIf c f g e = rB (c e) (fun b => if b = true then f else g) := rfl
theorem a_ite {q : Prop} [Decidable q] {f g : M α} : (if q then f else g) e = if q then f e else g e := by split <;> rfl
theorem a_aNil : aNil e = .ok [] e := rfl
theorem a_aCons {h : M (List D)} : aCons fa h e = rB (fa e) (fun d => bnd h fun ds => DL.ret (d :: ds)) := rfl
theorem a_tup {h : M (List D)} : mTup h e = rB (h e) (fun ds => if szOk ds.length then DL.ret (.tup ds) else stk) := rfl
theorem a_lst {h : M (List D)} : mLst h e = rB (h e) (fun ds => if szOk ds.length then DL.ret (.lst ds) else stk) := rfl
theorem a_c1i {h : Int → M D} : c1i h [.int i] e = h i e := rfl
theorem a_c2i {h : Int → Int → M D} : c2i h [.int i, .int j] e = h i j e := rfl
theorem a_cIntI : cInt [.int i] e = .ok (.int i) e := rfl
theorem a_cIntB : cInt [.bl b] e = .ok (.int (if b then 1 else 0)) e := rfl
theorem a_lenL {l : List D} : cLen [.lst l] e = .ok (.int l.length) e := rfl
theorem a_lenT {l : List D} : cLen [.tup l] e = .ok (.int l.length) e := rfl
theorem a_lenS {z : Str} : cLen [.str z] e = if z.length ≤ sizeLine then .ok (.int z.length) e else .stuck := by
  show (if z.length ≤ sizeLine then DL.ret (D.int z.length) else stk) e = _
  split <;> rfl
theorem a_nx : nx e = .ok .nx e := rfl
theorem a_sq : sq s t e = sQ (s e) t := rfl
theorem a_snx : sQ (.ok .nx e) t = t e := rfl
theorem a_srt : sQ (.ok (.rt d) e) t = .ok (.rt d) e := rfl
theorem a_sro : sQ (.ok (.ro l) e) t = .ok (.ro l) e := rfl
theorem a_sbk : sQ (.ok .bk e) t = .ok .bk e := rfl
theorem a_sct : sQ (.ok .ct e) t = .ok .ct e := rfl
theorem a_sexc : sQ (.exc x p e) t = .exc x p e := rfl
theorem a_sst : sQ .stuck t = .stuck := rfl
theorem a_site {q : Prop} [Decidable q] {r r' : Res Fl} : sQ (if q then r else r') t = if q then sQ r t else sQ r' t := by split <;> rfl
theorem a_asg : mAsg n fa e = rB (fa e) (fun d e' => .ok .nx (e'.set n (.val d))) := rfl
theorem a_mRet : mRet fa e = rB (fa e) (fun d => DL.ret (.rt d)) := rfl
theorem a_drop : mDrop fa e = rB (fa e) (fun _ => nx) := rfl
def oA (o : Option Sl) (f : M D) (g : Int → Int → D) (n : Nat) (e : DEnv) : Res Fl := match o with | some (.val (.int a)) => bnd f (fun d env' => match d with | .int b => .ok .nx (env'.set n (.val (g a b))) | _ => .stuck) e | _ => .stuck
theorem a_aug {h : Int → Int → D} : mAug n fa h e = oA e[n]? fa h n e := rfl
theorem a_oA {h : Int → Int → D} : oA (some (.val (.int i))) fa h n e = rB (fa e) (fun d env' => match d with | .int b => .ok .nx (env'.set n (.val (h i b))) | _ => .stuck) := rfl
theorem a_gN : gN n d e = .ok () (e.set n (.val d)) := rfl
theorem a_gsNil : gsNil [] e = .ok () e := rfl
theorem a_gsCons {h : D → M Unit} {hs : List D → M Unit} {ds : List D} : gsCons h hs (d :: ds) e = rB (h d e) (fun _ => hs ds) := rfl
theorem a_gTpT {hs : List D → M Unit} {ds : List D} : gTp n hs (.tup ds) e = if ds.length = n then hs ds e else .stuck := by
  show (if ds.length = n then hs ds else stk) e = _
  split <;> rfl
theorem a_gTpL {hs : List D → M Unit} {ds : List D} : gTp n hs (.lst ds) e = if ds.length = n then hs ds e else .stuck := by
  show (if ds.length = n then hs ds else stk) e = _
  split <;> rfl
theorem a_asgT {h : D → M Unit} : mAsgT fa h e = rB (fa e) (fun d => bnd (h d) fun _ => nx) := rfl
theorem a_par {h : M (List D)} : mPar n k h e = rB (h e) (fun ds env => match ds with | [d, d'] => .ok .nx ((env.set n (.val d)).set k (.val d')) | _ => .stuck) := rfl
theorem a_again : again s t e = aG (s e) t := rfl
theorem a_gnx : aG (.ok .nx e) t = t e := rfl
theorem a_gct : aG (.ok .ct e) t = t e := rfl
theorem a_gbk : aG (.ok .bk e) t = .ok .nx e := rfl
theorem a_grt : aG (.ok (.rt d) e) t = .ok (.rt d) e := rfl
theorem a_gro : aG (.ok (.ro l) e) t = .ok (.ro l) e := rfl
theorem a_gexc : aG (.exc x p e) t = .exc x p e := rfl
theorem a_gite {q : Prop} [Decidable q] {r r' : Res Fl} : aG (if q then r else r') t = if q then aG r t else aG r' t := by split <;> rfl
theorem a_rng1 {h : M (List D)} : mRng1 h e = rB (h e) (fun ds => match ds with | [.int j] => if rOk j then DL.ret (rngD 0 j.toNat) else stk | _ => stk) := rfl
theorem a_rng2 {h : M (List D)} : mRng2 h e = rB (h e) (fun ds => match ds with | [.int i, .int j] => if rOk i ∧ rOk j then DL.ret (rngD i (j - i).toNat) else stk | _ => stk) := rfl
theorem a_raise : mRaise x e = .exc x none e := rfl
def rsM (r : Rs) (e : DEnv) : Res D := match r with | .ok d => .ok d e | .exc x p => .exc x p e | .stuck => .stuck
theorem a_call {h : M (List D)} {F : List D → Rs} : mCall h F e = rB (h e) (fun ds e' => rsM (F ds) e') := by
  unfold mCall; rw [a_bnd]; congr
theorem a_rsok : rsM (.ok d) e = .ok d e := rfl
theorem a_rsexc : rsM (.exc x p) e = .exc x p e := rfl
theorem a_rsst : rsM .stuck e = .stuck := rfl
def hS (o : Option Sl) (f : M α) (e : DEnv) : Res α := match o with | some (.val _) => f e | some (.own _ _) => f e | _ => .stuck
theorem a_has : has n m e = hS e[n]? m e := rfl
theorem a_hval : hS (some (.val d)) m e = m e := rfl
theorem a_hown {q : Option Nat} {o : OD} : hS (some (.own q o)) m e = m e := rfl
def oD (o : Option D) (h : D → M D) (e : DEnv) : Res D := match o with | some d => h d e | none => .stuck
theorem a_onSl {h : D → M D} : onSl n h e = oD (slD e n) h e := rfl
def oDS (o : Option Sl) : Option D := match o with | some (.val d) => some d | some (.own _ (.lst l)) => some (.lst l) | _ => none
theorem a_slD : slD e n = oDS e[n]? := rfl
theorem a_oDv : oDS (some (.val d)) = some d := rfl
theorem a_oDo {q : Option Nat} {l : List D} : oDS (some (.own q (.lst l))) = some (.lst l) := rfl
theorem a_oDs {h : D → M D} : oD (some d) h e = h d e := rfl
theorem a_ixN : mIxN n fb e = has n (bnd fb fun y => onSl n fun x => mIx x y) e := rfl
theorem a_mIxI : mIx d (.int i) e = dIx d i e := rfl
theorem a_dIxL {l : List D} : dIx (.lst l) i e = oM (atI l i) e := rfl
theorem a_dIxT {l : List D} : dIx (.tup l) i e = oM (atI l i) e := rfl
theorem a_oM : oM (some d) e = .ok d e := rfl
def kM (o : Option Bool) (e : DEnv) : Res D := match o with | some b => .ok (.bl b) e | none => .stuck
theorem a_isiI {T : String} : cIsi T [.int i] e = kM (kitB "int" T) e := by
  show (match kitB (tyD (.int i)) T with | some b => DL.ret (D.bl b) | none => stk) e = _
  show (match kitB "int" T with | some b => DL.ret (D.bl b) | none => stk) e = _
  cases kitB "int" T <;> rfl
theorem a_isiB {T : String} : cIsi T [.bl b] e = kM (kitB "bool" T) e := by
  show (match kitB "bool" T with | some b => DL.ret (D.bl b) | none => stk) e = _
  cases kitB "bool" T <;> rfl
theorem a_kM : kM (some b) e = .ok (.bl b) e := rfl
theorem k_ii : kitB "int" "int" = some true := by decide +kernel
theorem k_ib : kitB "int" "bool" = some false := by decide +kernel
theorem k_bi : kitB "bool" "int" = some true := by decide +kernel
theorem k_bb : kitB "bool" "bool" = some true := by decide +kernel
def rF (r : Res Fl) : Rs := match r with | .ok (.rt d) _ => .ok d | .ok (.ro l) _ => .ok (.lst l) | .ok .nx _ => .ok .non | .exc x p _ => .exc x p | _ => .stuck
theorem a_runF {f : M Fl} {ds : List D} : runF n f ds = rF (f (DL.envOf n ds)) := rfl
theorem a_rFrt : rF (.ok (.rt d) e) = .ok d := rfl
theorem a_rFro : rF (.ok (.ro l) e) = .ok (.lst l) := rfl
theorem a_rFnx : rF (.ok .nx e) = .ok .non := rfl
theorem a_rFexc : rF (.exc x p e) = .exc x p := rfl
theorem a_rFite {q : Prop} [Decidable q] {r r' : Res Fl} : rF (if q then r else r') = if q then rF r else rF r' := by split <;> rfl
end
end DL
namespace DL
open PySem PySem.Spec PyProof.Rows L2 Evl
theorem eqOk_ii (i j : Int) : eqOk (.int i) (.int j) = true := by
  unfold eqOk shp SeqAt.shaped
  simp [D.py, D.toPy, PyData.canLay0, PyData.depth]
theorem deq_ii (i j : Int) : deq (.int i) (.int j) = decide (i = j) := by
  unfold deq D.toPy PyData.eqv
  by_cases h : i = j
  · subst h; simp
  · simp [h]
theorem iAbs_eq (i : Int) : iAbs i = (i.natAbs : Int) := by unfold iAbs; split <;> omega
/-! ### the greatest common divisor, by a loop -/
theorem fmod_nat (m n : Nat) : (m : Int).fmod (n : Int) = ((m % n : Nat) : Int) := by
  rw [Int.fmod_eq_emod_of_nonneg _ (by omega)]; rfl
/-- while b > 0: a, b = b, a % b -/
abbrev gcdC : M Bool := bnd (m2 (mVar 1) (DL.ret (.int 0)) (g2i (iCmp fun i j => decide (j < i)))) mB
abbrev gcdB : M Fl := mPar 0 1 (aCons (mVar 1) (aCons (m2 (mVar 0) (mVar 1) (g2i iMod)) aNil))
end DL

/-! DLt: how comprehensions, try, == of nested data, loops are reckoned. -/
namespace DL
open PySem PySem.Spec PyProof.Rows L2 Evl
section
variable {α β : Type} {a : α} {e e' : DEnv} {m : M α} {f : α → M β} {x T : Str} {p : Option D} {d d' : D} {i j : Int} {n k : Nat} {fa fb : M D} {g : D → D → M D} {s t : M Fl} {c : M Bool} {b : Bool} {l : List D} {ad : Addr} {tab : ETab}
theorem a_seq : mSeq fa e = rB (fa e) (fun d => match d with | .lst l => DL.ret l | .tup l => DL.ret l | .str z => DL.ret (signsD z) | _ => stk) := rfl
theorem a_listL : cList [.lst l] e = .ok (.lst l) e := rfl
theorem a_listT : cList [.tup l] e = .ok (.lst l) e := rfl
theorem a_tupleL : cTuple [.lst l] e = .ok (.tup l) e := rfl
theorem a_tupleT : cTuple [.tup l] e = .ok (.tup l) e := rfl
theorem a_sum {ns : List Int} : cSum [.lst (ns.map .int)] e = .ok (.int ns.sum) e := by
  show oI (asInts (ns.map .int)) e = _
  rw [asInts_map]; rfl
theorem a_isiT {T : String} : cIsi T [.tup l] e = kM (kitB "tuple" T) e := by
  show (match kitB "tuple" T with | some b => DL.ret (D.bl b) | none => stk) e = _
  cases kitB "tuple" T <;> rfl
theorem a_isiL {T : String} : cIsi T [.lst l] e = kM (kitB "list" T) e := by
  show (match kitB "list" T with | some b => DL.ret (D.bl b) | none => stk) e = _
  cases kitB "list" T <;> rfl
theorem a_isiS {T : String} {z : Str} : cIsi T [.str z] e = kM (kitB "str" T) e := by
  show (match kitB "str" T with | some b => DL.ret (D.bl b) | none => stk) e = _
  cases kitB "str" T <;> rfl
theorem k_tt : kitB "tuple" "tuple" = some true := by decide +kernel
theorem k_lt : kitB "list" "tuple" = some false := by decide +kernel
theorem k_tl : kitB "tuple" "list" = some false := by decide +kernel
theorem k_ll : kitB "list" "list" = some true := by decide +kernel
theorem k_it : kitB "int" "tuple" = some false := by decide +kernel
theorem k_il : kitB "int" "list" = some false := by decide +kernel
theorem k_ss : kitB "str" "str" = some true := by decide +kernel
theorem k_st : kitB "str" "tuple" = some false := by decide +kernel
theorem k_ti : kitB "tuple" "int" = some false := by decide +kernel
theorem k_li : kitB "list" "int" = some false := by decide +kernel
theorem k_tb : kitB "tuple" "bool" = some false := by decide +kernel
theorem k_lb : kitB "list" "bool" = some false := by decide +kernel
/-! exceptions -/
theorem a_isE : cIsE tab ad x T (.opq ad) e = kM (tabAt tab x T) e := by
  show (if ad = ad then (match tabAt tab x T with | some r => DL.ret (D.bl r) | none => stk) else stk) e = _
  rw [if_pos rfl]
  cases tabAt tab x T <;> rfl
def rsE (r : Rs) (e : DEnv) : Res D := match r with | .ok d => .ok d e | _ => .stuck
theorem a_callE {h : M (List D)} {F : List D → Rs} : mCallE h F e = rB (h e) (fun ds e' => rsE (F ds) e') := by
  unfold mCallE; rw [a_bnd]; congr
theorem a_reok : rsE (.ok d) e = .ok d e := rfl
noncomputable def tR (n : Nat) (tab : ETab) (T : Str) (fs : Addr → Str → M Fl) (r : Res Fl) : Res Fl := match r with
  | .exc x none e' => (match tabAt tab x T with
    | some true => mCatch n (fun a => fs a x) e'
    | some false => .exc x none e'
    | none => .stuck)
  | .exc _ (some _) _ => .stuck
  | r => r
noncomputable def cT (o : Option Bool) (n : Nat) (x : Str) (fs : Addr → M Fl) (e : DEnv) : Res Fl := match o with
    | some true => mCatch n fs e
    | some false => .exc x none e
    | none => .stuck
theorem a_try {fs : Addr → Str → M Fl} : mTryAs n tab T s fs e = tR n tab T fs (s e) := rfl
theorem a_tok {fs : Addr → Str → M Fl} {fl : Fl} : tR n tab T fs (.ok fl e) = .ok fl e := rfl
theorem a_texc {fs : Addr → Str → M Fl} : tR n tab T fs (.exc x none e) = cT (tabAt tab x T) n x (fun a => fs a x) e := rfl
theorem a_cT {fs : Addr → M Fl} : cT (some true) n x fs e = mCatch n fs e := rfl
theorem a_cF {fs : Addr → M Fl} : cT (some false) n x fs e = .exc x none e := rfl
theorem a_unN : unS n (.ok .nx e) = .ok .nx (e.set n .no) := rfl
theorem a_unR : unS n (.ok (.rt d) e) = .ok (.rt d) (e.set n .no) := rfl
/-! slices -/
theorem a_slice {fl fu : M (Option Int)} : mSlice fa fl fu e = rB (fa e) (fun x => bnd fl fun l => bnd fu fun u => dSlice x l u) := rfl
theorem a_oNone : oNone e = .ok none e := rfl
theorem a_oSome : oSome fa e = rB (fa e) (fun d => match d with | .int i => DL.ret (some i) | _ => stk) := rfl
theorem a_dSlL {lo hi : Option Int} : dSlice (.lst l) lo hi e = .ok (.lst (cutD l lo hi)) e := rfl
theorem a_dSlT {lo hi : Option Int} : dSlice (.tup l) lo hi e = .ok (.tup (cutD l lo hi)) e := rfl
end
/-! ### comprehensions -/
theorem lcL_eq {vs : List Nat} {g : D → M Unit} {tt : M Bool} {el : M D} {w : DEnv} (p : D → Bool) (f : D → D) : ∀ (ds acc : List D), (∀ d ∈ ds, ∃ e1 e2, g d w = .ok () e1 ∧ tt e1 = .ok (p d) e2 ∧ (p d = true → ∃ e3, el e2 = .ok (f d) e3 ∧ wipeE e3 vs = w) ∧ (p d = false → wipeE e2 vs = w)) → acc.length + ds.length ≤ sizeLine →
    lcL vs g tt el ds acc w = .ok (acc ++ (ds.filter p).map f) w
  | [], acc, _, _ => by
    show DL.ret acc w = _
    rw [List.filter_nil, List.map_nil, List.append_nil]; rfl
  | d :: r, acc, h, hl => by
    obtain ⟨e1, e2, h1, h2, h3, h4⟩ := h d List.mem_cons_self
    have hl' : acc.length + (r.length + 1) ≤ sizeLine := hl
    unfold lcL
    rw [bnd_ok h1, bnd_ok h2]
    cases q : p d with
    | true =>
      obtain ⟨e3, h5, h6⟩ := h3 q
      rw [if_pos rfl, bnd_ok h5]
      rw [if_pos (by omega), h6, lcL_eq p f r (acc ++ [f d]) (fun d' m => h d' (List.mem_cons_of_mem _ m)) (by rw [List.length_append]; show acc.length + 1 + r.length ≤ _; omega), List.filter_cons_of_pos q, List.map_cons, List.append_assoc, List.singleton_append]
    | false =>
      rw [if_neg (by simp), List.filter_cons_of_neg (by simp [q])]
      rw [h4 q]
      exact lcL_eq p f r acc (fun d' m => h d' (List.mem_cons_of_mem _ m)) (by omega)
theorem mLc_filter {vs : List Nat} {fi : M (List D)} {g : D → M Unit} {tt : M Bool} {el : M D} {e e0 : DEnv} {ds : List D} (p : D → Bool) (f : D → D) (hf : fi e = .ok ds e0) (hn : noOwn e0 vs = true) (hb : backE e0 (wipeE e0 vs) vs = e0) (hl : ds.length ≤ sizeLine)
    (h : ∀ d ∈ ds, ∃ e1 e2, g d (wipeE e0 vs) = .ok () e1 ∧ tt e1 = .ok (p d) e2 ∧ (p d = true → ∃ e3, el e2 = .ok (f d) e3 ∧ wipeE e3 vs = wipeE e0 vs) ∧ (p d = false → wipeE e2 vs = wipeE e0 vs)) : mLc vs fi g tt el e = .ok (.lst ((ds.filter p).map f)) e0 := by
  unfold mLc
  rw [bnd_ok hf, if_pos hn, lcL_eq p f ds [] h (by rw [List.length_nil, Nat.zero_add]; exact hl)]
  dsimp only
  rw [hb, List.nil_append]
theorem mLc_map {vs : List Nat} {fi : M (List D)} {g : D → M Unit} {el : M D} {e e0 : DEnv} {ds : List D} (f : D → D) (hf : fi e = .ok ds e0) (hn : noOwn e0 vs = true) (hb : backE e0 (wipeE e0 vs) vs = e0) (hl : ds.length ≤ sizeLine)
    (h : ∀ d ∈ ds, ∃ e1 e3, g d (wipeE e0 vs) = .ok () e1 ∧ el e1 = .ok (f d) e3 ∧ wipeE e3 vs = wipeE e0 vs) : mLc vs fi g (DL.ret true) el e = .ok (.lst (ds.map f)) e0 := by
  have k := mLc_filter (tt := DL.ret true) (el := el) (fun _ => true) f hf hn hb hl fun d hd => by
    obtain ⟨e1, e3, h1, h2, h3⟩ := h d hd
    exact ⟨e1, e1, h1, rfl, fun _ => ⟨e3, h2, h3⟩, fun z => nomatch z⟩
  rw [k, List.filter_eq_self.mpr fun _ _ => rfl]
theorem mLc_ints {vs : List Nat} {fi : M (List D)} {g : D → M Unit} {el : M D} {e e0 : DEnv} {ns : List Int} (f : Int → Int) (hf : fi e = .ok (ns.map .int) e0) (hn : noOwn e0 vs = true) (hb : backE e0 (wipeE e0 vs) vs = e0) (hl : ns.length ≤ sizeLine)
    (h : ∀ n ∈ ns, ∃ e1 e3, g (.int n) (wipeE e0 vs) = .ok () e1 ∧ el e1 = .ok (.int (f n)) e3 ∧ wipeE e3 vs = wipeE e0 vs) : mLc vs fi g (DL.ret true) el e = .ok (.lst ((ns.map f).map .int)) e0 := by
  have k := mLc_map (el := el) (fun d => match d with | .int n => .int (f n) | d => d) hf hn hb (by rw [List.length_map]; exact hl) fun d hd => by
    obtain ⟨n, hn, rfl⟩ := List.mem_map.mp hd
    exact h n hn
  rw [k, List.map_map, List.map_map]; rfl
theorem mLc_rng {vs : List Nat} {fi : M (List D)} {g : D → M Unit} {el : M D} {e e0 : DEnv} {m : Nat} (f : Nat → Int) (hf : fi e = .ok (rngD 0 m) e0) (hn : noOwn e0 vs = true) (hb : backE e0 (wipeE e0 vs) vs = e0) (hl : m ≤ sizeLine)
    (h : ∀ k < m, ∃ e1 e3, g (.int (k : Int)) (wipeE e0 vs) = .ok () e1 ∧ el e1 = .ok (.int (f k)) e3 ∧ wipeE e3 vs = wipeE e0 vs) : mLc vs fi g (DL.ret true) el e = .ok (.lst (((List.range m).map f).map .int)) e0 := by
  have k := mLc_map (el := el) (fun d => match d with | .int n => .int (f n.toNat) | d => d) hf hn hb (by unfold rngD; rw [List.length_map, List.length_range]; exact hl) fun d hd => by
    obtain ⟨k, hk, rfl⟩ := mem_rngD hd
    have e : ((0 : Int) + (k : Int)).toNat = k := by omega
    dsimp only
    rw [e, Int.zero_add]
    exact h k hk
  rw [k]
  unfold rngD
  rw [List.map_map, List.map_map]
  congr 2
  apply List.map_congr_left
  intro k _
  show D.int (f ((0 : Int) + (k : Int)).toNat) = D.int (f k)
  rw [show ((0 : Int) + (k : Int)).toNat = k by omega]
theorem sz0 : szOk 0 = True := eq_true (by decide)
theorem sz1 : szOk 1 = True := eq_true (by decide)
theorem sz2 : szOk 2 = True := eq_true (by decide)
theorem sz3 : szOk 3 = True := eq_true (by decide)
theorem sz4 : szOk 4 = True := eq_true (by decide)
theorem sz5 : szOk 5 = True := eq_true (by decide)
theorem sz6 : szOk 6 = True := eq_true (by decide)
theorem le_size {n : Nat} (h : n ≤ 100000) : n ≤ sizeLine := Nat.le_trans h (by decide)
theorem at0 {x : D} {l : List D} : atI (x :: l) 0 = some x := atI_nat (j := 0) rfl
theorem at1 {x y : D} {l : List D} : atI (x :: y :: l) 1 = some y := atI_nat (j := 1) rfl
theorem at2 {x y z : D} {l : List D} : atI (x :: y :: z :: l) 2 = some z := atI_nat (j := 2) rfl
theorem nc0 : ((0 : Nat) : Int) = 0 := rfl
theorem nc1 : ((1 : Nat) : Int) = 1 := rfl
theorem nc2 : ((2 : Nat) : Int) = 2 := rfl
theorem nc3 : ((3 : Nat) : Int) = 3 := rfl
theorem nc4 : ((4 : Nat) : Int) = 4 := rfl
theorem nc5 : ((5 : Nat) : Int) = 5 := rfl
def Sl.nown : Sl → Bool | .own _ _ => false | _ => true
/-! ### loops -/
theorem forL_fold {σ : Type} {g : D → M Unit} {b : M Fl} (R : σ → DEnv → Prop) (step : σ → D → σ) : ∀ (ds : List D) (s : σ) (e : DEnv), R s e → (∀ d ∈ ds, ∀ s e, R s e → ∃ e1 e2, g d e = .ok () e1 ∧ (b e1 = .ok .nx e2 ∨ b e1 = .ok .ct e2) ∧ R (step s d) e2) → ∃ e', forL g b ds e = .ok .nx e' ∧ R (ds.foldl step s) e'
  | [], s, e, h, _ => ⟨e, rfl, h⟩
  | d :: r, s, e, h, hs => by
    obtain ⟨e1, e2, h1, h2, h3⟩ := hs d List.mem_cons_self s e h
    obtain ⟨e', h4, h5⟩ := forL_fold R step r (step s d) e2 h3 fun d' m => hs d' (List.mem_cons_of_mem _ m)
    refine ⟨e', ?_, h5⟩
    rw [forL_cons, bnd_ok h1]
    unfold again
    rcases h2 with h2 | h2 <;> rw [h2] <;> exact h4
theorem forL_list0 {g : D → M Unit} {b : M Fl} (ds : List D) (R : Nat → DEnv → Prop) (h : ∀ (k : Nat) (d : D), ds[k]? = some d → ∀ e, R k e → ∃ e1 e2, g d e = .ok () e1 ∧ (b e1 = .ok .nx e2 ∨ b e1 = .ok .ct e2) ∧ R (k + 1) e2) : ∀ (n k : Nat) (e : DEnv), k + n = ds.length → R k e → ∃ e', forL g b (ds.drop k) e = .ok .nx e' ∧ R ds.length e'
  | 0, k, e, hk, r => ⟨e, by rw [List.drop_eq_nil_of_le (by omega)]; rfl, by rw [← hk]; exact r⟩
  | n + 1, k, e, hk, r => by
    have hlt : k < ds.length := by omega
    obtain ⟨e1, e2, h1, h2, h3⟩ := h k ds[k] (List.getElem?_eq_getElem hlt) e r
    obtain ⟨e', h4, h5⟩ := forL_list0 ds R h n (k + 1) e2 (by omega) h3
    refine ⟨e', ?_, h5⟩
    rw [List.drop_eq_getElem_cons hlt, forL_cons, bnd_ok h1]
    unfold again
    rcases h2 with h2 | h2 <;> rw [h2] <;> exact h4
/-- a loop over a list, by what holds at each place -/
theorem forL_list {g : D → M Unit} {b : M Fl} {ds : List D} (R : Nat → DEnv → Prop) {e : DEnv} (h0 : R 0 e) (h : ∀ (k : Nat) (d : D), ds[k]? = some d → ∀ e, R k e → ∃ e1 e2, g d e = .ok () e1 ∧ (b e1 = .ok .nx e2 ∨ b e1 = .ok .ct e2) ∧ R (k + 1) e2) : ∃ e', forL g b ds e = .ok .nx e' ∧ R ds.length e' :=
  forL_list0 ds R h ds.length 0 e (Nat.zero_add _) h0
theorem forL_rng {g : D → M Unit} {b : M Fl} {lo : Int} {m : Nat} (R : Nat → DEnv → Prop) {e : DEnv} (h0 : R 0 e) (h : ∀ (k : Nat), k < m → ∀ e, R k e → ∃ e1 e2, g (.int (lo + (k : Int))) e = .ok () e1 ∧ (b e1 = .ok .nx e2 ∨ b e1 = .ok .ct e2) ∧ R (k + 1) e2) : ∃ e', forL g b (rngD lo m) e = .ok .nx e' ∧ R m e' := by
  obtain ⟨e', h1, h2⟩ := forL_list (g := g) (b := b) (ds := rngD lo m) R h0 fun k d hd => by
    unfold rngD at hd
    rw [List.getElem?_map] at hd
    have hk : k < m := by
      cases q : (List.range m)[k]? with
      | none => rw [q] at hd; cases hd
      | some j => have := (List.getElem?_eq_some_iff.mp q).1; simpa using this
    rw [List.getElem?_range hk] at hd
    cases hd
    exact h k hk
  exact ⟨e', h1, by unfold rngD at h2; rw [List.length_map, List.length_range] at h2; exact h2⟩
/-- as forL_rng, from 0 on -/
theorem forL_rng0 {g : D → M Unit} {b : M Fl} {m : Nat} (R : Nat → DEnv → Prop) {e : DEnv} (h0 : R 0 e) (h : ∀ (k : Nat), k < m → ∀ e, R k e → ∃ e1 e2, g (.int (k : Int)) e = .ok () e1 ∧ (b e1 = .ok .nx e2 ∨ b e1 = .ok .ct e2) ∧ R (k + 1) e2) : ∃ e', forL g b (rngD 0 m) e = .ok .nx e' ∧ R m e' :=
  forL_rng R h0 fun k hk e r => by rw [Int.zero_add]; exact h k hk e r
theorem atK {ns : List Int} {k : Nat} (h : k < ns.length) : atI (ns.map D.int) (k : Int) = some (.int (ns.getD k 0)) := by
  rw [atI_ints (by omega) (by omega)]; rfl
/-- while, by an invariant and a measure -/
theorem whN_inv {c : M Bool} {b : M Fl} (I : Nat → DEnv → Prop) (step : ∀ n e, I n e → c e = .ok false e ∨ (c e = .ok true e ∧ ∃ e2 m, m < n ∧ (b e = .ok .nx e2 ∨ b e = .ok .ct e2) ∧ I m e2)) : ∀ (k n : Nat) (e : DEnv), n < k → I n e → ∃ n' e', whN c b k e = .ok .nx e' ∧ I n' e' ∧ c e' = .ok false e'
  | 0, n, e, h, _ => by omega
  | k + 1, n, e, h, i => by
    unfold whN
    rcases step n e i with q | ⟨q, e2, m, hm, hb, i2⟩
    · exact ⟨n, e, by rw [a_if, q]; rfl, i, q⟩
    · obtain ⟨n', e', h1, h2⟩ := whN_inv I step k m e2 (by omega) i2
      refine ⟨n', e', ?_, h2⟩
      rw [a_if, q, a_rok, if_pos rfl, a_again]
      rcases hb with hb | hb <;> rw [hb] <;> exact h1
theorem mWh_inv {c : M Bool} {b : M Fl} (I : Nat → DEnv → Prop) (step : ∀ n e, I n e → c e = .ok false e ∨ (c e = .ok true e ∧ ∃ e2 m, m < n ∧ (b e = .ok .nx e2 ∨ b e = .ok .ct e2) ∧ I m e2)) {n : Nat} {e : DEnv} (h : I n e) : ∃ n' e', mWh c b e = .ok .nx e' ∧ I n' e' ∧ c e' = .ok false e' := by
  obtain ⟨n', e', h1, h2⟩ := whN_inv I step (n + 1) n e (Nat.lt_succ_self n) h
  exact ⟨n', e', mWh_of h1 (fun z => nomatch z), h2⟩
/-! ### == -/
/-- plain data of ints, None, at most n deep -/
def D.pl : Nat → D → Bool
  | _, .int _ => true
  | _, .non => true
  | _, .str z => PyData.strOk z
  | n + 1, .tup l => l.all (D.pl n)
  | n + 1, .lst l => l.all (D.pl n)
  | _, _ => false
theorem pl_tup {n : Nat} {l : List D} (h : D.pl n (.tup l) = true) : ∃ m, n = m + 1 ∧ ∀ d ∈ l, D.pl m d = true := by
  cases n with
  | zero => cases h
  | succ m => exact ⟨m, rfl, List.all_eq_true.mp h⟩
theorem pl_lst {n : Nat} {l : List D} (h : D.pl n (.lst l) = true) : ∃ m, n = m + 1 ∧ ∀ d ∈ l, D.pl m d = true := by
  cases n with
  | zero => cases h
  | succ m => exact ⟨m, rfl, List.all_eq_true.mp h⟩
theorem pls_py : ∀ l : List D, (∀ d ∈ l, d.py = true) → D.pys l = true
  | [], _ => by rw [D.pys]
  | d :: r, h => by rw [D.pys, h d List.mem_cons_self, pls_py r fun d' m => h d' (List.mem_cons_of_mem _ m)]; rfl
theorem pls_can : ∀ l : List D, (∀ d ∈ l, d.toPy.canLay0 = true) → PyData.canLayAll0 (D.toPys l) = true
  | [], _ => by rw [D.toPys, PyData.canLayAll0]
  | d :: r, h => by rw [D.toPys, PyData.canLayAll0, h d List.mem_cons_self, pls_can r fun d' m => h d' (List.mem_cons_of_mem _ m)]; rfl
theorem pls_dep (n : Nat) : ∀ l : List D, (∀ d ∈ l, d.toPy.depth ≤ n) → PyData.depthAll (D.toPys l) ≤ n
  | [], _ => by rw [D.toPys, PyData.depthAll]; omega
  | d :: r, h => by
    rw [D.toPys, PyData.depthAll]
    exact Nat.max_le.mpr ⟨h d List.mem_cons_self, pls_dep n r fun d' m => h d' (List.mem_cons_of_mem _ m)⟩
theorem pl_ok : ∀ (n : Nat) (d : D), D.pl n d = true → d.py = true ∧ d.toPy.canLay0 = true ∧ d.toPy.depth ≤ n := by
  intro n
  induction n with
  | zero =>
    intro d h
    cases d with
    | int i => exact ⟨by rw [D.py] <;> simp, by rw [D.toPy, PyData.canLay0], by rw [D.toPy, PyData.depth]; omega⟩
    | non => exact ⟨by rw [D.py] <;> simp, by rw [D.toPy, PyData.canLay0], by rw [D.toPy, PyData.depth]; omega⟩
    | str z => exact ⟨by rw [D.py] <;> simp, by rw [D.toPy, PyData.canLay0]; exact h, by rw [D.toPy, PyData.depth]; omega⟩
    | _ => cases h
  | succ n ih =>
    intro d h
    cases d with
    | int i => exact ⟨by rw [D.py] <;> simp, by rw [D.toPy, PyData.canLay0], by rw [D.toPy, PyData.depth]; omega⟩
    | non => exact ⟨by rw [D.py] <;> simp, by rw [D.toPy, PyData.canLay0], by rw [D.toPy, PyData.depth]; omega⟩
    | str z => exact ⟨by rw [D.py] <;> simp, by rw [D.toPy, PyData.canLay0]; exact h, by rw [D.toPy, PyData.depth]; omega⟩
    | tup l =>
      obtain ⟨m, e, h⟩ := pl_tup h
      cases e
      refine ⟨by rw [D.py]; exact pls_py l fun d m => (ih d (h d m)).1, by rw [D.toPy, PyData.canLay0]; exact pls_can l fun d m => (ih d (h d m)).2.1, ?_⟩
      rw [D.toPy, PyData.depth]
      have := pls_dep n l fun d m => (ih d (h d m)).2.2
      omega
    | lst l =>
      obtain ⟨m, e, h⟩ := pl_lst h
      cases e
      refine ⟨by rw [D.py]; exact pls_py l fun d m => (ih d (h d m)).1, by rw [D.toPy, PyData.canLay0]; exact pls_can l fun d m => (ih d (h d m)).2.1, ?_⟩
      rw [D.toPy, PyData.depth]
      have := pls_dep n l fun d m => (ih d (h d m)).2.2
      omega
    | _ => cases h
theorem eqOk_pl {n m : Nat} {d d' : D} (h : D.pl n d = true) (h' : D.pl m d' = true) (hn : n ≤ 64 := by decide) (hm : m ≤ 64 := by decide) : eqOk d d' = true := by
  obtain ⟨a1, a2, a3⟩ := pl_ok n d h
  obtain ⟨b1, b2, b3⟩ := pl_ok m d' h'
  unfold eqOk shp SeqAt.shaped
  rw [a1, b1, a2, b2, decide_eq_true (by omega), decide_eq_true (by omega)]; rfl
theorem eqvs {n : Nat} (ih : ∀ d d', D.pl n d = true → D.pl n d' = true → (PyData.eqv d.toPy d'.toPy = true ↔ d = d')) : ∀ l l' : List D, (∀ d ∈ l, D.pl n d = true) → (∀ d ∈ l', D.pl n d = true) → (PyData.eqvAll (D.toPys l) (D.toPys l') = true ↔ l = l')
  | [], [], _, _ => by rw [D.toPys, PyData.eqvAll]; simp
  | [], d :: r, _, _ => by rw [D.toPys, D.toPys, PyData.eqvAll]; simp
  | d :: r, [], _, _ => by rw [D.toPys, D.toPys, PyData.eqvAll]; simp
  | d :: r, d' :: r', h, h' => by
    rw [D.toPys, D.toPys, PyData.eqvAll, Bool.and_eq_true, ih d d' (h d List.mem_cons_self) (h' d' List.mem_cons_self), eqvs ih r r' (fun d m => h d (List.mem_cons_of_mem _ m)) (fun d m => h' d (List.mem_cons_of_mem _ m)), List.cons.injEq]
theorem deq_pl : ∀ (n : Nat) (d d' : D), D.pl n d = true → D.pl n d' = true → (deq d d' = true ↔ d = d') := by
  intro n
  unfold deq
  induction n with
  | zero =>
    intro d d' h h'
    cases d <;> cases d' <;> first
      | (cases h; done)
      | (cases h'; done)
      | (rw [D.toPy, D.toPy, PyData.eqv]; simp)
      | (rw [D.toPy, PyData.eqv]; simp)
  | succ n ih =>
    intro d d' h h'
    cases d <;> cases d' <;> first
      | (cases h; done)
      | (cases h'; done)
      | (obtain ⟨m, e, h⟩ := pl_tup h
         cases e
         obtain ⟨m, e, h'⟩ := pl_tup h'
         cases e
         rw [D.toPy, D.toPy, PyData.eqv, eqvs ih _ _ h h']; simp; done)
      | (obtain ⟨m, e, h⟩ := pl_lst h
         cases e
         obtain ⟨m, e, h'⟩ := pl_lst h'
         cases e
         rw [D.toPy, D.toPy, PyData.eqv, eqvs ih _ _ h h']; simp; done)
      | (rw [D.toPy, D.toPy, PyData.eqv]; simp; done)
      | (rw [D.toPy, PyData.eqv]; simp; done)
theorem deq_self {n : Nat} {d : D} (h : D.pl n d = true) : deq d d = true := (deq_pl n d d h h).mpr rfl
theorem deq_ne {n : Nat} {d d' : D} (h : D.pl n d = true) (h' : D.pl n d' = true) (ne : d ≠ d') : deq d d' = false := by
  cases q : deq d d' with
  | false => rfl
  | true => exact absurd ((deq_pl n d d' h h').mp q) ne
/-- a == b, both plain and the same -/
theorem mEq_same {n : Nat} {d d' : D} {e : DEnv} (h : D.pl n d = true) (he : d = d') (hn : n ≤ 64 := by decide) : mEq d d' e = .ok (.bl true) e := by
  subst he
  rw [a_eq, if_pos (eqOk_pl h h hn hn), deq_self h]
theorem mNe_same {n : Nat} {d d' : D} {e : DEnv} (h : D.pl n d = true) (he : d = d') (hn : n ≤ 64 := by decide) : mNe d d' e = .ok (.bl false) e := by
  subst he
  rw [a_ne, if_pos (eqOk_pl h h hn hn), deq_self h]; rfl
theorem mEq_other {n : Nat} {d d' : D} {e : DEnv} (h : D.pl n d = true) (h' : D.pl n d' = true) (he : d ≠ d') (hn : n ≤ 64 := by decide) : mEq d d' e = .ok (.bl false) e := by
  rw [a_eq, if_pos (eqOk_pl h h' hn hn), deq_ne h h' he]
theorem mNe_other {n : Nat} {d d' : D} {e : DEnv} (h : D.pl n d = true) (h' : D.pl n d' = true) (he : d ≠ d') (hn : n ≤ 64 := by decide) : mNe d d' e = .ok (.bl true) e := by
  rw [a_ne, if_pos (eqOk_pl h h' hn hn), deq_ne h h' he]; rfl
abbrev iL (ns : List Int) : D := .lst (ns.map .int)
abbrev iT (ns : List Int) : D := .tup (ns.map .int)
theorem pl_ints {n : Nat} (ns : List Int) : ∀ d ∈ ns.map D.int, D.pl n d = true := fun d m => by
  obtain ⟨i, _, rfl⟩ := List.mem_map.mp m
  cases n <;> rfl
theorem pl_iL {n : Nat} (ns : List Int) : D.pl (n + 1) (iL ns) = true := List.all_eq_true.mpr (pl_ints ns)
theorem pl_iT {n : Nat} (ns : List Int) : D.pl (n + 1) (iT ns) = true := List.all_eq_true.mpr (pl_ints ns)
theorem atI_map {α : Type} {xs : List α} {f : α → D} {k : Int} {x : α} (h0 : 0 ≤ k) (h : xs[k.toNat]? = some x) : atI (xs.map f) k = some (f x) := by
  obtain ⟨j, rfl⟩ := Int.eq_ofNat_of_zero_le h0
  exact atI_nat (j := j) (by rw [List.getElem?_map]; rw [show xs[j]? = some x from h]; rfl)
theorem atI_get {xs : List Int} {k : Int} (h0 : 0 ≤ k) (h1 : k < xs.length) : atI (xs.map D.int) k = some (.int (xs.getD k.toNat 0)) := atI_ints h0 h1
end DL

/-! DLu: how own lists, texts, stepped ranges are reckoned. -/
namespace DL
open PySem PySem.Spec PyProof.Rows L2 Evl
section
variable {α β : Type} {e e' : DEnv} {m : M α} {f : α → M β} {x T : Str} {d d' : D} {i j : Int} {n k : Nat} {fa fb : M D} {h : M (List D)} {l : List D} {s z : Str} {o : Option Nat}
theorem a_xStr {g : Str → M D} : xStr g (.str s) e = g s e := rfl
theorem a_dSplit : dSplit s (.str z) e = if (z.length == 0) = false ∧ s.length + 2 ≤ sizeLine then .ok (.lst ((Txt.split s z).map .str)) e else .stuck := by
  show (if (z.length == 0) = false ∧ s.length + 2 ≤ sizeLine then DL.ret (D.lst ((Txt.split s z).map .str)) else stk) e = _
  split <;> rfl
theorem a_dJoinL {ys : List Str} : dJoin s (.lst (ys.map .str)) e = if joinOk s ys then .ok (.str (Txt.join s ys)) e else .stuck := by
  show oJoin s (asStrs (ys.map .str)) e = _
  rw [asStrs_map]
  unfold oJoin
  dsimp only
  split <;> rfl
theorem a_dJoinT {ys : List Str} : dJoin s (.tup (ys.map .str)) e = if joinOk s ys then .ok (.str (Txt.join s ys)) e else .stuck := a_dJoinL
theorem a_dIn {neg : Bool} : dIn neg (.str s) (.str z) e = inS neg (sgn s) z e := rfl
theorem a_inF {c : Nat} : inS false (some c) z e = .ok (.bl (decide (c ∈ z.cps.toList))) e := rfl
theorem a_inT {c : Nat} : inS true (some c) z e = .ok (.bl (!decide (c ∈ z.cps.toList))) e := rfl
theorem a_mOwn : mOwn n h e = rB (h e) (fun ds env => .ok .nx (env.set n (.own none (.lst ds)))) := rfl
theorem a_mFl : mFl h e = rB (h e) (fun ds => if szOk ds.length then DL.ret ds else stk) := rfl
def uL (r : Res D) : Res (List D) := match r with | .ok (.lst l) e => .ok l e | .exc x p e => .exc x p e | _ => .stuck
theorem a_unL : unL fa e = uL (fa e) := rfl
theorem a_uLok : uL (.ok (.lst l) e) = .ok l e := rfl
def oOw (o : Option Sl) : Option (Option Nat × List D) := match o with | some (.own k (.lst l)) => some (k, l) | _ => none
theorem a_ownAt : ownAt e n = oOw e[n]? := rfl
theorem a_oOw {q : Option Nat} : oOw (some (.own q (.lst l))) = some (q, l) := rfl
def aP (o : Option (Option Nat × List D)) (n : Nat) (f : M D) (e : DEnv) : Res Fl := match o with | some _ => bnd f (kApp n) e | none => .stuck
theorem a_app : mApp n fa e = aP (ownAt e n) n fa e := rfl
theorem a_aP {q : Option Nat × List D} : aP (some q) n fa e = rB (fa e) (kApp n) := rfl
def kA (o : Option (Option Nat × List D)) (n : Nat) (d : D) (e : DEnv) : Res Fl := match o with
  | some (k, l) => if l.length < sizeLine then .ok .nx (e.set n (.own k (.lst (l ++ [d])))) else .stuck
  | none => .stuck
theorem a_kApp : kApp n d e = kA (ownAt e n) n d e := rfl
theorem a_kA {q : Option Nat} : kA (some (q, l)) n d e = if l.length < sizeLine then .ok .nx (e.set n (.own q (.lst (l ++ [d])))) else .stuck := rfl
def sI (o : Option (Option Nat × List D)) (n : Nat) (fi : M D) (d : D) (e : DEnv) : Res Fl := match o with | some _ => bnd fi (fun kd => kSet n d kd) e | none => .stuck
theorem a_setI : mSetI n fa fb e = rB (fb e) (fun d env => sI (ownAt env n) n fa d env) := rfl
theorem a_sI {q : Option Nat × List D} : sI (some q) n fa d e = rB (fa e) (fun kd => kSet n d kd) := rfl
def kS (o : Option (Option Nat × List D)) (n : Nat) (d : D) (j : Int) (e : DEnv) : Res Fl := match o with
  | some (k, l) => (match ixN l.length j with | some p => .ok .nx (e.set n (.own k (.lst (l.set p d)))) | none => .stuck)
  | none => .stuck
theorem a_kSet : kSet n d (.int j) e = kS (ownAt e n) n d j e := by
  unfold kSet kS
  cases ownAt e n with
  | none => rfl
  | some q => rfl
def kN (o : Option Nat) (q : Option Nat) (l : List D) (n : Nat) (d : D) (e : DEnv) : Res Fl := match o with | some p => .ok .nx (e.set n (.own q (.lst (l.set p d)))) | none => .stuck
theorem a_kS {q : Option Nat} : kS (some (q, l)) n d j e = kN (ixN l.length j) q l n d e := rfl
theorem a_kN {q : Option Nat} {p : Nat} : kN (some p) q l n d e = .ok .nx (e.set n (.own q (.lst (l.set p d)))) := rfl
def fZ (o : Option Sl) (e : DEnv) (n : Nat) : DEnv := match o with | some (.own none (.lst l)) => e.set n (.val (.lst l)) | _ => e
theorem a_frz1 : frz1 e n = fZ e[n]? e n := rfl
theorem a_fZ : fZ (some (.own none (.lst l))) e n = e.set n (.val (.lst l)) := rfl
theorem a_rng3 : mRng3 h e = rB (h e) (fun ds => match ds with | [.int i, .int j, .int c] => if RgC i j c (Builtin.Range.rangeSize i j c).toNat then DL.ret (rng3D i c (Builtin.Range.rangeSize i j c).toNat) else stk | _ => stk) := rfl
theorem a_mAddS : mAdd (.str s) (.str z) e = if szOk (s.length + z.length) then .ok (.str (s ++ z)) e else .stuck := by
  show (if szOk (s.length + z.length) then DL.ret (D.str (s ++ z)) else stk) e = _
  split <;> rfl
theorem a_mAddL {l' : List D} : mAdd (.lst l) (.lst l') e = if szOk (l.length + l'.length) then .ok (.lst (l ++ l')) e else .stuck := by
  show (if szOk (l.length + l'.length) then DL.ret (D.lst (l ++ l')) else stk) e = _
  split <;> rfl
theorem a_dIxS : dIx (.str z) i e = if z.length ≤ sizeLine then oM ((atI z.cps.toList i).map fun c => .str ⟨#[c]⟩) e else .stuck := by
  show (if z.length ≤ sizeLine then oM ((atI z.cps.toList i).map fun c => .str ⟨#[c]⟩) else stk) e = _
  split <;> rfl
theorem a_dSlS {lo hi : Option Int} : dSlice (.str z) lo hi e = if z.length ≤ sizeLine then .ok (.str (cutS z lo hi)) e else .stuck := by
  show (if z.length ≤ sizeLine then DL.ret (D.str (cutS z lo hi)) else stk) e = _
  split <;> rfl
theorem a_mod3 {g : Int → M D} : (match D.int i with | .int i => g i | _ => stk) = g i := rfl
end
theorem isN_n : isNon .non = true := rfl
theorem isN_t {l : List D} : isNon (.tup l) = false := rfl
theorem isN_l {l : List D} : isNon (.lst l) = false := rfl
theorem isN_i {i : Int} : isNon (.int i) = false := rfl
theorem isN_s {z : Str} : isNon (.str z) = false := rfl
theorem at3 {x y z w : D} {l : List D} : atI (x :: y :: z :: w :: l) 3 = some w := atI_nat (j := 3) rfl
theorem at4 {x y z w v : D} {l : List D} : atI (x :: y :: z :: w :: v :: l) 4 = some v := atI_nat (j := 4) rfl
theorem at5 {x y z w v u : D} {l : List D} : atI (x :: y :: z :: w :: v :: u :: l) 5 = some u := atI_nat (j := 5) rfl
theorem at6 {x y z w v u t : D} {l : List D} : atI (x :: y :: z :: w :: v :: u :: t :: l) 6 = some t := atI_nat (j := 6) rfl
theorem at7 {x y z w v u t s : D} {l : List D} : atI (x :: y :: z :: w :: v :: u :: t :: s :: l) 7 = some s := atI_nat (j := 7) rfl
/-- a loop that goes through, or stops at the first item that is not P -/
theorem forL_all {g : D → M Unit} {b : M Fl} (P : D → Bool) (I : DEnv → Prop) (bad : Res Fl → Prop) (hb : ∀ r k, bad r → aG r k = r) : ∀ (ds : List D) (e : DEnv), I e → (∀ d ∈ ds, ∀ e, I e → ∃ e1, g d e = .ok () e1 ∧ (P d = true → ∃ e2, (b e1 = .ok .nx e2 ∨ b e1 = .ok .ct e2) ∧ I e2) ∧ (P d = false → bad (b e1))) →
    (ds.all P = true ∧ ∃ e', forL g b ds e = .ok .nx e' ∧ I e') ∨ (ds.all P = false ∧ bad (forL g b ds e))
  | [], e, i, _ => .inl ⟨rfl, e, rfl, i⟩
  | d :: r, e, i, h => by
    obtain ⟨e1, h1, h2, h3⟩ := h d List.mem_cons_self e i
    rw [List.all_cons, forL_cons, bnd_ok h1, a_again]
    cases q : P d with
    | true =>
      obtain ⟨e2, h4, i2⟩ := h2 q
      have ih := forL_all P I bad hb r e2 i2 fun d' m => h d' (List.mem_cons_of_mem _ m)
      rw [Bool.true_and]
      rcases h4 with h4 | h4 <;> rw [h4] <;> exact ih
    | false => exact .inr ⟨rfl, by rw [hb _ _ (h3 q)]; exact h3 q⟩
/-- a comprehension over what F makes of xs -/
theorem mLc_gen {α : Type} {vs : List Nat} {fi : M (List D)} {g : D → M Unit} {el : M D} {e e0 : DEnv} (xs : List α) (F f : α → D) (hf : fi e = .ok (xs.map F) e0) (hn : noOwn e0 vs = true) (hb : backE e0 (wipeE e0 vs) vs = e0) (hl : xs.length ≤ sizeLine)
    (h : ∀ x ∈ xs, ∃ e1 e3, g (F x) (wipeE e0 vs) = .ok () e1 ∧ el e1 = .ok (f x) e3 ∧ wipeE e3 vs = wipeE e0 vs) : mLc vs fi g (DL.ret true) el e = .ok (.lst (xs.map f)) e0 := by
  have lc : ∀ (ys : List α) (acc : List D), (∀ x ∈ ys, ∃ e1 e3, g (F x) (wipeE e0 vs) = .ok () e1 ∧ el e1 = .ok (f x) e3 ∧ wipeE e3 vs = wipeE e0 vs) → acc.length + ys.length ≤ sizeLine → lcL vs g (DL.ret true) el (ys.map F) acc (wipeE e0 vs) = .ok (acc ++ ys.map f) (wipeE e0 vs) := by
    intro ys
    induction ys with
    | nil => intro acc _ _; rw [List.map_nil, List.map_nil, List.append_nil]; rfl
    | cons y r ih =>
      intro acc h hl
      obtain ⟨e1, e3, h1, h2, h3⟩ := h y List.mem_cons_self
      rw [List.length_cons] at hl
      rw [List.map_cons, List.map_cons]
      unfold lcL
      rw [bnd_ok h1, bnd_ok (show DL.ret true e1 = .ok true e1 from rfl), if_pos rfl, bnd_ok h2]
      rw [if_pos (by omega), h3, ih (acc ++ [f y]) (fun x m => h x (List.mem_cons_of_mem _ m)) (by rw [List.length_append]; show acc.length + 1 + r.length ≤ _; omega), List.append_assoc, List.singleton_append]
  unfold mLc
  rw [bnd_ok hf, if_pos hn, lc xs [] h (by rw [List.length_nil, Nat.zero_add]; exact hl)]
  dsimp only
  rw [hb, List.nil_append]
/-- as mLc_gen, over range(m) -/
theorem mLc_rngD {vs : List Nat} {fi : M (List D)} {g : D → M Unit} {el : M D} {e e0 : DEnv} {m : Nat} (f : Nat → D) (hf : fi e = .ok (rngD 0 m) e0) (hn : noOwn e0 vs = true) (hb : backE e0 (wipeE e0 vs) vs = e0) (hl : m ≤ sizeLine)
    (h : ∀ k < m, ∃ e1 e3, g (.int (k : Int)) (wipeE e0 vs) = .ok () e1 ∧ el e1 = .ok (f k) e3 ∧ wipeE e3 vs = wipeE e0 vs) : mLc vs fi g (DL.ret true) el e = .ok (.lst ((List.range m).map f)) e0 := by
  refine mLc_gen (List.range m) (fun k => .int (k : Int)) f (by rw [hf]; unfold rngD; congr 1; apply List.map_congr_left; intro k _; rw [Int.zero_add]) hn hb (by rw [List.length_range]; exact hl) fun k hk => h k (by simpa using hk)
/-- a fold that may stop -/
def foldO {σ : Type} (step : σ → D → Option σ) : List D → σ → Option σ
  | [], s => some s
  | d :: r, s => match step s d with | some s' => foldO step r s' | none => none
theorem forL_opt {σ : Type} {g : D → M Unit} {b : M Fl} (R : σ → DEnv → Prop) (step : σ → D → Option σ) (bad : Res Fl → Prop) (hb : ∀ r k, bad r → aG r k = r) : ∀ (ds : List D) (s : σ) (e : DEnv), R s e → (∀ d ∈ ds, ∀ s e, R s e → ∃ e1, g d e = .ok () e1 ∧ ((∃ s', step s d = some s' ∧ ∃ e2, (b e1 = .ok .nx e2 ∨ b e1 = .ok .ct e2) ∧ R s' e2) ∨ (step s d = none ∧ bad (b e1)))) →
    (∃ s', foldO step ds s = some s' ∧ ∃ e', forL g b ds e = .ok .nx e' ∧ R s' e') ∨ (foldO step ds s = none ∧ bad (forL g b ds e))
  | [], s, e, i, _ => .inl ⟨s, rfl, e, rfl, i⟩
  | d :: r, s, e, i, h => by
    obtain ⟨e1, h1, h2⟩ := h d List.mem_cons_self s e i
    rw [forL_cons, bnd_ok h1, a_again]
    unfold foldO
    rcases h2 with ⟨s', h3, e2, h4, i2⟩ | ⟨h3, h4⟩
    · rw [h3]
      have ih := forL_opt R step bad hb r s' e2 i2 fun d' m => h d' (List.mem_cons_of_mem _ m)
      rcases h4 with h4 | h4 <;> rw [h4] <;> exact ih
    · rw [h3]
      exact .inr ⟨rfl, by rw [hb _ _ h4]; exact h4⟩
end DL

local macro_rules | `(tactic| walk_at "dl") => `(tactic| try simp -implicitDefEqProofs only [Bool.true_eq_false, DL.wipeE, DL.at0, DL.at1, DL.at2, DL.nc0, DL.nc1, DL.nc2, DL.nc3, DL.nc4, DL.nc5, not_true_eq_false, not_false_eq_true, eq_self, ne_eq,  DL.sz0, DL.sz1, DL.sz2, DL.sz3, DL.sz4, DL.sz5, DL.sz6, DL.a_seq, DL.a_listL, DL.a_listT, DL.a_tupleL, DL.a_tupleT, DL.a_sum, DL.a_isiT, DL.a_isiL, DL.a_isiS, DL.k_tt, DL.k_lt, DL.k_tl, DL.k_ll, DL.k_it, DL.k_il, DL.k_ss, DL.k_st, DL.k_ti, DL.k_li, DL.k_tb, DL.k_lb, DL.a_isE, DL.a_callE, DL.a_reok, DL.a_try, DL.a_tok, DL.a_texc, DL.a_cT, DL.a_cF, DL.a_unN, DL.a_unR, DL.a_slice, DL.a_oNone, DL.a_oSome, DL.a_dSlL, DL.a_dSlT, DL.a_ret, DL.a_stk, DL.a_bnd, DL.a_rok, DL.a_rexc, DL.a_rst, DL.a_rite, DL.a_var, DL.a_oval, DL.a_oown, DL.a_m2, DL.a_g2i, DL.a_add, DL.a_mAdd, DL.a_sub, DL.a_mul, DL.a_div, DL.a_mod, DL.a_pow, DL.a_shr, DL.a_cmp, DL.a_eq, DL.a_ne, DL.eqOk_ii, DL.deq_ii, DL.a_u1i, DL.a_mB, DL.a_truB, DL.a_truI, DL.a_truN, DL.a_truL, DL.a_truT, DL.a_bAnd, DL.a_bOr, DL.a_bNot, DL.a_vAnd, DL.a_vOr, DL.a_vNot, DL.a_if, DL.a_ite, DL.a_aNil, DL.a_aCons, DL.a_tup, DL.a_lst, DL.a_c1i, DL.a_c2i, DL.a_cIntI, DL.a_cIntB, DL.a_lenL, DL.a_lenT, DL.a_lenS, DL.a_nx, DL.a_sq, DL.a_snx, DL.a_srt, DL.a_sbk, DL.a_sct, DL.a_sexc, DL.a_sst, DL.a_site, DL.a_asg, DL.a_mRet, DL.a_drop, DL.a_aug, DL.a_oA, DL.a_gN, DL.a_gsNil, DL.a_gsCons, DL.a_gTpT, DL.a_gTpL, DL.a_asgT, DL.a_par, DL.a_again, DL.a_gnx, DL.a_gct, DL.a_gbk, DL.a_grt, DL.a_gexc, DL.a_gite, DL.a_rng1, DL.a_rng2, DL.a_raise, DL.a_call, DL.a_rsok, DL.a_rsexc, DL.a_rsst, DL.a_has, DL.a_hval, DL.a_hown, DL.a_onSl, DL.a_slD, DL.a_oDv, DL.a_oDo, DL.a_oDs, DL.a_ixN, DL.a_mIxI, DL.a_dIxL, DL.a_dIxT, DL.a_oM, DL.a_isiI, DL.a_isiB, DL.a_kM, DL.k_ii, DL.k_ib, DL.k_bi, DL.k_bb, DL.a_runF, DL.a_rFrt, DL.a_rFnx, DL.a_rFexc, DL.a_rFite, DL.envOf, List.map_cons, List.map_nil, List.length_cons, List.length_nil, List.cons_append, List.nil_append, List.getElem?_cons_zero, List.getElem?_cons_succ, List.set_cons_zero, List.set_cons_succ, List.replicate, if_true, if_false, Bool.false_eq_true, reduceIte, List.length_map, Nat.reduceAdd, Nat.reduceSub, Nat.zero_add, decide_eq_true_eq, Bool.not_eq_true', decide_eq_false_iff_not, Bool.not_true, Bool.not_false])
/-! DLm: divisors, places, as plain mathematics. -/
namespace DL
open PySem PySem.Spec PyProof.Rows L2 Evl
theorem gcd_wh : ∀ (k m n : Nat), n < k → whN gcdC gcdB k [.val (.int m), .val (.int n)] = .ok .nx [.val (.int (Nat.gcd m n : Nat)), .val (.int 0)]
  | 0, m, n, h => by omega
  | k + 1, m, n, h => by
    unfold whN
    walk_at "dl"
    by_cases hn : n = 0
    · subst hn
      rw [if_neg (by omega), Nat.gcd_zero_right]; rfl
    · rw [if_pos (by omega), if_pos (by omega)]
      rw [fmod_nat, gcd_wh k n (m % n) (by have := Nat.mod_lt m (show 0 < n by omega); omega), Nat.gcd_comm n, ← Nat.gcd_rec n m, Nat.gcd_comm]
theorem gcd_mWh (m n : Nat) : mWh gcdC gcdB [.val (.int m), .val (.int n)] = .ok .nx [.val (.int (Nat.gcd m n : Nat)), .val (.int 0)] := mWh_of (gcd_wh (n + 1) m n (Nat.lt_succ_self n)) (fun z => nomatch z)
def gd (a b : Int) : Int := (Nat.gcd a.natAbs b.natAbs : Nat)
/-- the body of divisor -/
noncomputable abbrev gcdF : M Fl :=
  (sq (mAsg 0 (bnd (aCons (mVar 0) aNil) (c1i fun i => ret (.int (iAbs i)))))
  (sq (mAsg 1 (bnd (aCons (mVar 1) aNil) (c1i fun i => ret (.int (iAbs i)))))
  (sq (mWh (bnd (m2 (mVar 1) (ret (.int 0)) (g2i (iCmp fun i j => decide (j < i)))) mB) (mPar 0 1 (aCons (mVar 1) (aCons (m2 (mVar 0) (mVar 1) (g2i iMod)) aNil))))
  (mRet (mVar 0)))))
theorem e_gcd (a b : Int) : runF 2 gcdF [.int a, .int b] = .ok (.int (gd a b)) := by
  walk_at "dl"
  rw [iAbs_eq, iAbs_eq, gcd_mWh]
  walk_at "dl"
  rfl
theorem gd_nonneg (a b : Int) : 0 ≤ gd a b := by unfold gd; omega
theorem gd_comm (a b : Int) : gd b a = gd a b := by unfold gd; rw [Nat.gcd_comm]
theorem gd_zero {a b : Int} (h : gd a b = 0) : a = 0 ∧ b = 0 := by
  unfold gd at h
  have h' : Nat.gcd a.natAbs b.natAbs = 0 := by omega
  have := Nat.gcd_eq_zero_iff.mp h'
  omega
theorem gd_l (a b : Int) : gd a b ∣ a := by unfold gd; exact Int.ofNat_dvd_left.mpr (Nat.gcd_dvd_left _ _)
theorem gd_r (a b : Int) : gd a b ∣ b := by unfold gd; exact Int.ofNat_dvd_left.mpr (Nat.gcd_dvd_right _ _)
theorem gd_dvd {a b c : Int} (h : c ∣ a) (k : c ∣ b) : c ∣ gd a b := by
  unfold gd
  exact Int.natAbs_dvd.mp (Int.ofNat_dvd.mpr (Nat.dvd_gcd (Int.natAbs_dvd_natAbs.mpr h) (Int.natAbs_dvd_natAbs.mpr k)))
theorem fmod_dvd {a b : Int} (h : b ∣ a) (h0 : 0 ≤ b) : a.fmod b = 0 := by rw [Int.fmod_eq_emod_of_nonneg _ h0]; exact Int.emod_eq_zero_of_dvd h
theorem gd_bits {a b : Int} {m : Nat} (ha : ib a ≤ m) (hb : ib b ≤ m) : ib (gd a b) ≤ m := by
  by_cases h : a = 0
  · refine intBits_le_of_natAbs (y := b) ?_ hb
    unfold gd; subst h; simp
  · refine intBits_le_of_natAbs (y := a) ?_ ha
    have := Nat.le_of_dvd (by omega) (Nat.gcd_dvd_left a.natAbs b.natAbs)
    unfold gd; omega
/-- a number and more: the divisor of all -/
def gdl (b : Int) (ns : List Int) : Int := ns.foldl gd b
theorem gdl_cons {b n : Int} {ns : List Int} : gdl b (n :: ns) = gdl (gd b n) ns := rfl
theorem gdl_dvd : ∀ {ns : List Int} {b : Int}, gdl b ns ∣ b ∧ ∀ n ∈ ns, gdl b ns ∣ n
  | [], b => ⟨Int.dvd_refl _, fun n h => by cases h⟩
  | m :: ns, b => by
    obtain ⟨h1, h2⟩ := gdl_dvd (ns := ns) (b := gd b m)
    rw [gdl_cons]
    refine ⟨Int.dvd_trans h1 (gd_l b m), fun n h => ?_⟩
    rcases List.mem_cons.mp h with rfl | h
    · exact Int.dvd_trans h1 (gd_r b n)
    · exact h2 n h
theorem dvd_gdl : ∀ {ns : List Int} {b c : Int}, c ∣ b → (∀ n ∈ ns, c ∣ n) → c ∣ gdl b ns
  | [], b, c, h, _ => h
  | m :: ns, b, c, h, k => by
    rw [gdl_cons]
    exact dvd_gdl (gd_dvd h (k m List.mem_cons_self)) fun n hn => k n (List.mem_cons_of_mem _ hn)
theorem gdl_nonneg : ∀ {ns : List Int} {b : Int}, 0 ≤ b → 0 ≤ gdl b ns
  | [], b, h => h
  | m :: ns, b, h => by rw [gdl_cons]; exact gdl_nonneg (gd_nonneg b m)
theorem dvd_le {a b : Int} (h : a ∣ b) (hb : b ≠ 0) : a.natAbs ≤ b.natAbs := Nat.le_of_dvd (by omega) (Int.natAbs_dvd_natAbs.mpr h)
theorem ib_dvd {a b : Int} {m : Nat} (h : a ∣ b) (hb : b ≠ 0) (k : ib b ≤ m) : ib a ≤ m := intBits_le_of_natAbs (dvd_le h hb) k
/-- what all of a place is divided by -/
def pby (u : Int) (ns : List Int) : Int := if u < 0 then -gdl u.natAbs ns else gdl u.natAbs ns
theorem pby_dvd {u : Int} {ns : List Int} : pby u ns ∣ u ∧ ∀ n ∈ ns, pby u ns ∣ n := by
  obtain ⟨h1, h2⟩ := gdl_dvd (ns := ns) (b := (u.natAbs : Int))
  have h1 : gdl u.natAbs ns ∣ u := Int.dvd_trans h1 (Int.natAbs_dvd.mpr (Int.dvd_refl u))
  unfold pby
  split
  · exact ⟨Int.neg_dvd.mpr h1, fun n h => Int.neg_dvd.mpr (h2 n h)⟩
  · exact ⟨h1, h2⟩
theorem pby_ne {u : Int} {ns : List Int} (hu : u ≠ 0) : pby u ns ≠ 0 := fun h => by
  have := pby_dvd (u := u) (ns := ns) |>.1
  rw [h] at this
  exact hu (Int.zero_dvd.mp this)
theorem mul_div_of {a b : Int} (hb : b ≠ 0) (h : b ∣ a) : b * a.fdiv b = a := by
  obtain ⟨k, rfl⟩ := h
  rw [Int.mul_comm b k, Int.mul_fdiv_cancel k hb, Int.mul_comm]
/-- the place's under -/
def pun (u : Int) (ns : List Int) : Int := u.fdiv (pby u ns)
/-- the place's tops -/
def pts (u : Int) (ns : List Int) : List Int := ns.map fun n => n.fdiv (pby u ns)
theorem pun_mul {u : Int} {ns : List Int} (hu : u ≠ 0) : pby u ns * pun u ns = u := mul_div_of (pby_ne hu) pby_dvd.1
theorem pun_pos {u : Int} {ns : List Int} (hu : u ≠ 0) : 0 < pun u ns := by
  have h := pun_mul (ns := ns) hu
  have g := gdl_nonneg (ns := ns) (b := (u.natAbs : Int)) (by omega)
  have hne := pby_ne (ns := ns) hu
  have hs : (u < 0 → pby u ns < 0) ∧ (0 < u → 0 < pby u ns) := by
    unfold pby at hne ⊢
    constructor
    · intro q; rw [if_pos q] at hne ⊢; omega
    · intro q; rw [if_neg (by omega)] at hne ⊢; omega
  rcases Int.lt_or_gt_of_ne hu with q | q
  · have h1 := hs.1 q
    refine Int.not_le.mp fun z => ?_
    have := Int.mul_nonneg_of_nonpos_of_nonpos (Int.le_of_lt h1) z
    omega
  · have h1 := hs.2 q
    refine Int.not_le.mp fun z => ?_
    have := Int.mul_nonpos_of_nonneg_of_nonpos (Int.le_of_lt h1) z
    omega
/-- in lowest terms: no divisor above 1 in common -/
def low (v : Int) (qs : List Int) : Prop := gdl v qs = 1
theorem low_of {v : Int} {qs : List Int} (hv : 0 < v) (h : ∀ c : Int, 0 ≤ c → c ∣ v → (∀ q ∈ qs, c ∣ q) → c = 1) : low v qs := by
  obtain ⟨h1, h2⟩ := gdl_dvd (ns := qs) (b := v)
  exact h _ (gdl_nonneg (by omega)) h1 h2
theorem low_use {v : Int} {qs : List Int} (hl : low v qs) {c : Int} (h0 : 0 ≤ c) (h1 : c ∣ v) (h2 : ∀ q ∈ qs, c ∣ q) : c = 1 := by
  have h := dvd_gdl h1 h2
  rw [hl] at h
  exact Int.eq_one_of_dvd_one h0 h
theorem natAbs_pby {u : Int} {ns : List Int} : pby u ns ∣ gdl u.natAbs ns ∧ gdl u.natAbs ns ∣ pby u ns := by
  unfold pby
  split
  · exact ⟨Int.neg_dvd.mpr (Int.dvd_refl _), Int.dvd_neg.mpr (Int.dvd_refl _)⟩
  · exact ⟨Int.dvd_refl _, Int.dvd_refl _⟩
theorem pl_low {u : Int} {ns : List Int} (hu : u ≠ 0) : low (pun u ns) (pts u ns) := by
  refine low_of (pun_pos hu) fun c c0 c1 c2 => ?_
  have hb := pby_ne (ns := ns) hu
  have hg : pby u ns * c ∣ gdl u.natAbs ns := by
    refine dvd_gdl ?_ fun n hn => ?_
    · refine Int.dvd_natAbs.mpr ?_
      have := Int.mul_dvd_mul_left (pby u ns) c1
      rw [pun_mul hu] at this
      exact this
    · have := Int.mul_dvd_mul_left (pby u ns) (c2 _ (List.mem_map_of_mem hn))
      rw [mul_div_of hb (pby_dvd.2 n hn)] at this
      exact this
  have := Int.dvd_trans hg natAbs_pby.2
  have h1 : pby u ns * c ∣ pby u ns * 1 := by rw [Int.mul_one]; exact this
  exact Int.eq_one_of_dvd_one c0 (Int.dvd_of_mul_dvd_mul_left hb h1)
/-- a place in lowest terms comes as it is -/
theorem pby_low {v : Int} {qs : List Int} (hv : 0 < v) (h : low v qs) : pby v qs = 1 := by
  unfold pby
  rw [if_neg (by omega), show ((v.natAbs : Nat) : Int) = v by omega]
  exact h
theorem fdiv_one (a : Int) : a.fdiv 1 = a := by rw [Int.fdiv_eq_ediv_of_nonneg _ (by decide)]; exact Int.ediv_one a
theorem pun_low {v : Int} {qs : List Int} (hv : 0 < v) (h : low v qs) : pun v qs = v := by unfold pun; rw [pby_low hv h, fdiv_one]
theorem pts_low {v : Int} {qs : List Int} (hv : 0 < v) (h : low v qs) : pts v qs = qs := by
  unfold pts
  rw [pby_low hv h]
  exact (List.map_congr_left fun q _ => fdiv_one q).trans (List.map_id _)
/-- the rest -/
def rst (v : Int) (qs : List Int) : List Int := qs.map fun q => q.fmod v
theorem fmod_rng {a v : Int} (hv : 0 < v) : 0 ≤ a.fmod v ∧ a.fmod v < v := ⟨Int.fmod_nonneg_of_pos a hv, Int.fmod_lt_of_pos a hv⟩
theorem fmod_small {a v : Int} (h0 : 0 ≤ a) (h : a < v) : a.fmod v = a := by rw [Int.fmod_eq_emod_of_nonneg _ (by omega)]; exact Int.emod_eq_of_lt h0 h
theorem dvd_sub_fmod (a v : Int) : v ∣ a.fmod v - a := by
  have h := Int.fmod_add_mul_fdiv a v
  refine ⟨-(a.fdiv v), ?_⟩
  rw [Int.mul_neg]; omega
theorem dvd_congr {a b c v : Int} (hc : c ∣ v) (h : v ∣ a - b) : c ∣ a ↔ c ∣ b := by
  have h1 := Int.dvd_trans hc h
  constructor
  · intro h2
    have := Int.dvd_sub h2 h1
    rwa [show a - (a - b) = b by omega] at this
  · intro h2
    have := Int.dvd_add h1 h2
    rwa [show a - b + b = a by omega] at this
/-- tops that differ by wholes are in lowest terms together -/
theorem low_congr {v : Int} {qs rs : List Int} (hv : 0 < v) (hl : qs.length = rs.length) (h : ∀ (k : Nat) (q r : Int), qs[k]? = some q → rs[k]? = some r → v ∣ q - r) (hq : low v qs) : low v rs := by
  refine low_of hv fun c c0 c1 c2 => low_use hq c0 c1 fun q hm => ?_
  obtain ⟨k, hk⟩ := List.getElem?_of_mem hm
  have hk' : k < rs.length := by rw [← hl]; exact (List.getElem?_eq_some_iff.mp hk).1
  exact (dvd_congr c1 (h k q rs[k] hk (List.getElem?_eq_getElem hk'))).mpr (c2 _ (List.getElem_mem hk'))
theorem low_rst {v : Int} {qs : List Int} (hv : 0 < v) (h : low v qs) : low v (rst v qs) := by
  refine low_congr hv (by unfold rst; rw [List.length_map]) (fun k q r h1 h2 => ?_) h
  unfold rst at h2
  rw [List.getElem?_map, h1] at h2
  cases h2
  have := dvd_sub_fmod q v
  have := Int.dvd_neg.mpr this
  rwa [show -(q.fmod v - q) = q - q.fmod v by omega] at this
theorem fmod_congr {a b v : Int} (hv : 0 < v) (h : v ∣ a - b) : a.fmod v = b.fmod v := by
  rw [Int.fmod_eq_emod_of_nonneg _ (by omega), Int.fmod_eq_emod_of_nonneg _ (by omega)]
  exact Int.emod_eq_emod_iff_emod_sub_eq_zero.mpr (Int.emod_eq_zero_of_dvd h)
theorem rst_congr {v : Int} {qs rs : List Int} (hv : 0 < v) (hl : qs.length = rs.length) (h : ∀ (k : Nat) (q r : Int), qs[k]? = some q → rs[k]? = some r → v ∣ q - r) : rst v qs = rst v rs := by
  apply List.ext_getElem?
  intro k
  unfold rst
  rw [List.getElem?_map, List.getElem?_map]
  cases q : qs[k]? with
  | none =>
    have : rs[k]? = none := List.getElem?_eq_none (by rw [← hl]; exact List.getElem?_eq_none_iff.mp q)
    rw [this]
  | some x =>
    have hk' : k < rs.length := by rw [← hl]; exact (List.getElem?_eq_some_iff.mp q).1
    rw [List.getElem?_eq_getElem hk']
    show some (x.fmod v) = some (rs[k].fmod v)
    rw [fmod_congr hv (h k x rs[k] q (List.getElem?_eq_getElem hk'))]
end DL

/-! DLv: vectors, rows, determinants, what is alike modulo a number: plain mathematics. -/
namespace DL
open PySem PySem.Spec PyProof.Rows L2 Evl
/-! sums -/
theorem sum_dvd {u : Int} : ∀ l : List Int, (∀ x ∈ l, u ∣ x) → u ∣ l.sum
  | [], _ => by rw [List.sum_nil]; exact Int.dvd_zero u
  | x :: r, h => by
    rw [List.sum_cons]
    exact Int.dvd_add (h x List.mem_cons_self) (sum_dvd r fun y hy => h y (List.mem_cons_of_mem _ hy))
theorem sum_sub (f g : Nat → Int) : ∀ l : List Nat, (l.map f).sum - (l.map g).sum = (l.map fun x => f x - g x).sum
  | [] => by simp
  | x :: r => by
    rw [List.map_cons, List.map_cons, List.map_cons, List.sum_cons, List.sum_cons, List.sum_cons, ← sum_sub f g r]
    omega
theorem sum_bits {m : Nat} : ∀ l : List Int, (∀ x ∈ l, ib x ≤ m) → ib l.sum ≤ m + l.length
  | [], _ => by rw [List.sum_nil]; exact Nat.le_trans (by decide : ib 0 ≤ 0) (Nat.zero_le _)
  | x :: r, h => by
    rw [List.sum_cons]
    have h1 := h x List.mem_cons_self
    have h2 := sum_bits r fun y hy => h y (List.mem_cons_of_mem _ hy)
    refine Nat.le_trans (intBits_add_le h1 h2) ?_
    rw [List.length_cons]; omega
/-! what is alike -/
structure Cg (U : Int) (A B : List Int) : Prop where
  len : A.length = B.length
  at_ : ∀ k : Nat, U ∣ A.getD k 0 - B.getD k 0
def dtn (n : Nat) (r t : List Int) : Int := ((List.range n).map fun j => r.getD j 0 * t.getD j 0).sum
def led (X : List (List Int)) (t : List Int) : List Int := X.map fun r => dtn t.length r t
theorem dtn_cg {u : Int} {n : Nat} {r t t' : List Int} (h : Cg u t t') : u ∣ dtn n r t - dtn n r t' := by
  unfold dtn
  rw [sum_sub]
  refine sum_dvd _ fun x hx => ?_
  obtain ⟨k, _, rfl⟩ := List.mem_map.mp hx
  have := Int.dvd_mul_of_dvd_right (h.at_ k) (b := r.getD k 0)
  rwa [Int.mul_sub] at this
theorem getD_map' {α : Type} {f : α → Int} {l : List α} {k : Nat} {d : α} : (l.map f).getD k 0 = if k < l.length then f (l.getD k d) else 0 := by
  rw [List.getD_eq_getElem?_getD, List.getElem?_map]
  by_cases h : k < l.length
  · rw [if_pos h, List.getElem?_eq_getElem h, List.getD_eq_getElem?_getD, List.getElem?_eq_getElem h]; rfl
  · rw [if_neg h, List.getElem?_eq_none (by omega)]; rfl
theorem led_len {X : List (List Int)} {t : List Int} : (led X t).length = X.length := List.length_map _
theorem led_cg {u : Int} {X : List (List Int)} {t t' : List Int} (h : Cg u t t') : Cg u (led X t) (led X t') := by
  refine ⟨by rw [led_len, led_len], fun k => ?_⟩
  unfold led
  rw [getD_map' (d := []), getD_map' (d := [])]
  by_cases hk : k < X.length
  · rw [if_pos hk, if_pos hk, h.len]; exact dtn_cg h
  · rw [if_neg hk, if_neg hk]; exact ⟨0, by simp⟩
theorem gdl_cg {U : Int} {A B : List Int} (h : Cg U A B) : gdl U A ∣ gdl U B := by
  obtain ⟨h1, h2⟩ := gdl_dvd (ns := A) (b := U)
  refine dvd_gdl h1 fun n hn => ?_
  obtain ⟨k, hk⟩ := List.getElem?_of_mem hn
  have kl : k < A.length := by rw [h.len]; exact (List.getElem?_eq_some_iff.mp hk).1
  have e1 : B.getD k 0 = n := by rw [List.getD_eq_getElem?_getD, hk]; rfl
  have e2 : A.getD k 0 ∈ A := by
    rw [List.getD_eq_getElem?_getD, List.getElem?_eq_getElem kl]
    exact List.getElem_mem kl
  have := (dvd_congr h1 (h.at_ k)).mp (h2 _ e2)
  rwa [e1] at this
theorem Cg.symm {U : Int} {A B : List Int} (h : Cg U A B) : Cg U B A := ⟨h.len.symm, fun k => by
  have := Int.dvd_neg.mpr (h.at_ k)
  rwa [show -(A.getD k 0 - B.getD k 0) = B.getD k 0 - A.getD k 0 by omega] at this⟩
theorem gdl_eq {U : Int} {A B : List Int} (u0 : 0 < U) (h : Cg U A B) : gdl U A = gdl U B :=
  Int.dvd_antisymm (gdl_nonneg (by omega)) (gdl_nonneg (by omega)) (gdl_cg h) (gdl_cg h.symm)
theorem pby_pos {U : Int} {A : List Int} (u0 : 0 < U) : pby U A = gdl U A := by
  unfold pby
  rw [if_neg (by omega), show ((U.natAbs : Nat) : Int) = U by omega]
/-- places alike modulo their under have the same rest, and the same under in lowest terms -/
theorem place_cg {U : Int} {A B : List Int} (u0 : 0 < U) (h : Cg U A B) : pun U A = pun U B ∧ rst (pun U A) (pts U A) = rst (pun U B) (pts U B) := by
  have e : pby U A = pby U B := by rw [pby_pos u0, pby_pos u0, gdl_eq u0 h]
  have e1 : pun U A = pun U B := by unfold pun; rw [e]
  refine ⟨e1, ?_⟩
  rw [← e1]
  have hA := pby_dvd (u := U) (ns := A)
  have hB := pby_dvd (u := U) (ns := B)
  have hn := pby_ne (u := U) (ns := A) (by omega)
  have hU := pun_mul (u := U) (ns := A) (by omega)
  refine rst_congr (pun_pos (by omega)) (by unfold pts; rw [List.length_map, List.length_map, h.len]) fun k q r h1 h2 => ?_
  unfold pts at h1 h2
  rw [List.getElem?_map] at h1 h2
  cases qa : A[k]? with
  | none => rw [qa] at h1; cases h1
  | some a =>
    cases qb : B[k]? with
    | none => rw [qb] at h2; cases h2
    | some b =>
      rw [qa] at h1; cases h1
      rw [qb] at h2; cases h2
      have ma := mul_div_of hn (hA.2 a (List.mem_of_getElem? qa))
      have mb := mul_div_of hn (by rw [e]; exact hB.2 b (List.mem_of_getElem? qb))
      have d := h.at_ k
      rw [List.getD_eq_getElem?_getD, List.getD_eq_getElem?_getD, qa, qb] at d
      have d : U ∣ a - b := d
      rw [← e]
      generalize pby U A = H at *
      generalize pun U A = v at *
      refine Int.dvd_of_mul_dvd_mul_left hn ?_
      rw [Int.mul_sub, ma, mb, hU]
      exact d
/-! rows -/
def sn : List (List Int) → Int
  | [[a, b], [c, d]] => a * d - b * c
  | [[a, b, c], [d, e, f], [g, h, i]] => a * (e * i - f * h) + b * (f * g - d * i) + c * (d * h - e * g)
  | _ => 0
def Sh (n : Nat) (X : List (List Int)) : Prop := (n = 2 ∧ ∃ a b c d, X = [[a, b], [c, d]]) ∨ (n = 3 ∧ ∃ a b c d e f g h i, X = [[a, b, c], [d, e, f], [g, h, i]])
def cols (M : List (List Int)) : List (List Int) := (List.range M.length).map fun j => M.map fun r => r.getD j 0
def pm (O M : List (List Int)) : List (List Int) := O.map fun r => (cols M).map fun c => dtn r.length r c
def adj : List (List Int) → List (List Int)
  | [[a, b], [c, d]] => let y := a * d - b * c; [[y * d, -y * b], [-y * c, y * a]]
  | [[a, b, c], [d, e, f], [g, h, i]] => let y := a * (e * i - f * h) + b * (f * g - d * i) + c * (d * h - e * g)
    [[y * (e * i - f * h), y * (h * c - i * b), y * (b * f - c * e)], [y * (f * g - d * i), y * (i * a - g * c), y * (c * d - a * f)], [y * (d * h - e * g), y * (g * b - h * a), y * (a * e - b * d)]]
  | _ => []
theorem pm_sh {n : Nat} {O M : List (List Int)} (hO : Sh n O) (hM : Sh n M) : Sh n (pm O M) ∧ sn (pm O M) = sn O * sn M := by
  rcases hO with ⟨rfl, a, b, c, d, rfl⟩ | ⟨rfl, a, b, c, d, e, f, g, h, i, rfl⟩
  · rcases hM with ⟨_, p, q, r, s, rfl⟩ | ⟨z, _⟩
    · refine ⟨.inl ⟨rfl, _, _, _, _, rfl⟩, ?_⟩
      show sn [[a * p + (b * r + 0), a * q + (b * s + 0)], [c * p + (d * r + 0), c * q + (d * s + 0)]] = sn [[a, b], [c, d]] * sn [[p, q], [r, s]]
      unfold sn
      grind
    · omega
  · rcases hM with ⟨z, _⟩ | ⟨_, a', b', c', d', e', f', g', h', i', rfl⟩
    · omega
    · refine ⟨.inr ⟨rfl, _, _, _, _, _, _, _, _, _, rfl⟩, ?_⟩
      show sn [[a * a' + (b * d' + (c * g' + 0)), a * b' + (b * e' + (c * h' + 0)), a * c' + (b * f' + (c * i' + 0))], [d * a' + (e * d' + (f * g' + 0)), d * b' + (e * e' + (f * h' + 0)), d * c' + (e * f' + (f * i' + 0))], [g * a' + (h * d' + (i * g' + 0)), g * b' + (h * e' + (i * h' + 0)), g * c' + (h * f' + (i * i' + 0))]] = sn [[a, b, c], [d, e, f], [g, h, i]] * sn [[a', b', c'], [d', e', f'], [g', h', i']]
      unfold sn
      grind
theorem Sh.len {n : Nat} {X : List (List Int)} (h : Sh n X) : X.length = n ∧ ∀ r ∈ X, r.length = n := by
  rcases h with ⟨rfl, a, b, c, e, rfl⟩ | ⟨rfl, a, b, c, d', e, f, g, h, i, rfl⟩
  · exact ⟨rfl, fun r h => by simp at h; rcases h with rfl | rfl <;> rfl⟩
  · exact ⟨rfl, fun r h => by simp at h; rcases h with rfl | rfl | rfl <;> rfl⟩
theorem Sh.n {n : Nat} {X : List (List Int)} (h : Sh n X) : n = 2 ∨ n = 3 := by
  rcases h with ⟨rfl, _⟩ | ⟨rfl, _⟩
  · exact .inl rfl
  · exact .inr rfl
theorem adj_sh {n : Nat} {M : List (List Int)} (hM : Sh n M) (hs : sn M = 1 ∨ sn M = -1) : Sh n (adj M) ∧ (sn (adj M) = 1 ∨ sn (adj M) = -1) := by
  rcases hM with ⟨rfl, a, b, c, d, rfl⟩ | ⟨rfl, a, b, c, d, e, f, g, h, i, rfl⟩
  · refine ⟨.inl ⟨rfl, _, _, _, _, rfl⟩, ?_⟩
    have e : sn (adj [[a, b], [c, d]]) = sn [[a, b], [c, d]] * sn [[a, b], [c, d]] * sn [[a, b], [c, d]] := by
      unfold adj sn
      dsimp only
      grind
    rw [e]
    rcases hs with h | h <;> rw [h] <;> decide
  · refine ⟨.inr ⟨rfl, _, _, _, _, _, _, _, _, _, rfl⟩, ?_⟩
    have e : sn (adj [[a, b, c], [d, e, f], [g, h, i]]) = sn [[a, b, c], [d, e, f], [g, h, i]] * sn [[a, b, c], [d, e, f], [g, h, i]] * sn [[a, b, c], [d, e, f], [g, h, i]] * sn [[a, b, c], [d, e, f], [g, h, i]] * sn [[a, b, c], [d, e, f], [g, h, i]] := by
      unfold adj sn
      dsimp only
      generalize hy : a * (e * i - f * h) + b * (f * g - d * i) + c * (d * h - e * g) = y
      have k : (e * i - f * h) * ((i * a - g * c) * (a * e - b * d) - (c * d - a * f) * (g * b - h * a)) + (h * c - i * b) * ((c * d - a * f) * (d * h - e * g) - (f * g - d * i) * (a * e - b * d)) + (b * f - c * e) * ((f * g - d * i) * (g * b - h * a) - (i * a - g * c) * (d * h - e * g)) = y * y := by
        subst hy
        grind
      have k2 : ∀ A B C D E F G H I : Int, y * A * (y * E * (y * I) - y * F * (y * H)) + y * B * (y * F * (y * G) - y * D * (y * I)) + y * C * (y * D * (y * H) - y * E * (y * G)) = y * y * y * (A * (E * I - F * H) + B * (F * G - D * I) + C * (D * H - E * G)) := fun A B C D E F G H I => by grind
      rw [k2, k]
      grind
    rw [e]
    rcases hs with h | h <;> rw [h] <;> decide
/-! elementary steps -/
def rw_ (X : List (List Int)) (i : Nat) : List Int := X.getD i []
def negR (r : List Int) : List Int := r.map fun x => -x
def addR (n : Nat) (k : Int) (r s : List Int) : List Int := (List.range n).map fun j => r.getD j 0 + k * s.getD j 0
theorem step_swap {n : Nat} {X : List (List Int)} (h : Sh n X) {i j : Nat} (hi : i < n) (hj : j < n) (ne : i ≠ j) : Sh n ((X.set i (rw_ X j)).set j (rw_ X i)) ∧ sn ((X.set i (rw_ X j)).set j (rw_ X i)) = -sn X := by
  rcases h with ⟨rfl, a, b, c, d, rfl⟩ | ⟨rfl, a, b, c, d, e, f, g, h, k, rfl⟩
  · have : (i = 0 ∧ j = 1) ∨ (i = 1 ∧ j = 0) := by omega
    rcases this with ⟨rfl, rfl⟩ | ⟨rfl, rfl⟩
    · exact ⟨.inl ⟨rfl, _, _, _, _, rfl⟩, by show sn [[c, d], [a, b]] = -sn [[a, b], [c, d]]; unfold sn; grind⟩
    · exact ⟨.inl ⟨rfl, _, _, _, _, rfl⟩, by show sn [[c, d], [a, b]] = -sn [[a, b], [c, d]]; unfold sn; grind⟩
  · have : (i = 0 ∧ j = 1) ∨ (i = 1 ∧ j = 0) ∨ (i = 0 ∧ j = 2) ∨ (i = 2 ∧ j = 0) ∨ (i = 1 ∧ j = 2) ∨ (i = 2 ∧ j = 1) := by omega
    rcases this with ⟨rfl, rfl⟩ | ⟨rfl, rfl⟩ | ⟨rfl, rfl⟩ | ⟨rfl, rfl⟩ | ⟨rfl, rfl⟩ | ⟨rfl, rfl⟩
    · exact ⟨.inr ⟨rfl, _, _, _, _, _, _, _, _, _, rfl⟩, by show sn [[d, e, f], [a, b, c], [g, h, k]] = -sn [[a, b, c], [d, e, f], [g, h, k]]; unfold sn; grind⟩
    · exact ⟨.inr ⟨rfl, _, _, _, _, _, _, _, _, _, rfl⟩, by show sn [[d, e, f], [a, b, c], [g, h, k]] = -sn [[a, b, c], [d, e, f], [g, h, k]]; unfold sn; grind⟩
    · exact ⟨.inr ⟨rfl, _, _, _, _, _, _, _, _, _, rfl⟩, by show sn [[g, h, k], [d, e, f], [a, b, c]] = -sn [[a, b, c], [d, e, f], [g, h, k]]; unfold sn; grind⟩
    · exact ⟨.inr ⟨rfl, _, _, _, _, _, _, _, _, _, rfl⟩, by show sn [[g, h, k], [d, e, f], [a, b, c]] = -sn [[a, b, c], [d, e, f], [g, h, k]]; unfold sn; grind⟩
    · exact ⟨.inr ⟨rfl, _, _, _, _, _, _, _, _, _, rfl⟩, by show sn [[a, b, c], [g, h, k], [d, e, f]] = -sn [[a, b, c], [d, e, f], [g, h, k]]; unfold sn; grind⟩
    · exact ⟨.inr ⟨rfl, _, _, _, _, _, _, _, _, _, rfl⟩, by show sn [[a, b, c], [g, h, k], [d, e, f]] = -sn [[a, b, c], [d, e, f], [g, h, k]]; unfold sn; grind⟩
theorem step_neg {n : Nat} {X : List (List Int)} (h : Sh n X) {i : Nat} (hi : i < n) : Sh n (X.set i (negR (rw_ X i))) ∧ sn (X.set i (negR (rw_ X i))) = -sn X := by
  rcases h with ⟨rfl, a, b, c, d, rfl⟩ | ⟨rfl, a, b, c, d, e, f, g, h, k, rfl⟩
  · have : i = 0 ∨ i = 1 := by omega
    rcases this with rfl | rfl
    · exact ⟨.inl ⟨rfl, _, _, _, _, rfl⟩, by show sn [[-a, -b], [c, d]] = -sn [[a, b], [c, d]]; unfold sn; grind⟩
    · exact ⟨.inl ⟨rfl, _, _, _, _, rfl⟩, by show sn [[a, b], [-c, -d]] = -sn [[a, b], [c, d]]; unfold sn; grind⟩
  · have : i = 0 ∨ i = 1 ∨ i = 2 := by omega
    rcases this with rfl | rfl | rfl
    · exact ⟨.inr ⟨rfl, _, _, _, _, _, _, _, _, _, rfl⟩, by show sn [[-a, -b, -c], [d, e, f], [g, h, k]] = -sn [[a, b, c], [d, e, f], [g, h, k]]; unfold sn; grind⟩
    · exact ⟨.inr ⟨rfl, _, _, _, _, _, _, _, _, _, rfl⟩, by show sn [[a, b, c], [-d, -e, -f], [g, h, k]] = -sn [[a, b, c], [d, e, f], [g, h, k]]; unfold sn; grind⟩
    · exact ⟨.inr ⟨rfl, _, _, _, _, _, _, _, _, _, rfl⟩, by show sn [[a, b, c], [d, e, f], [-g, -h, -k]] = -sn [[a, b, c], [d, e, f], [g, h, k]]; unfold sn; grind⟩
theorem step_add {n : Nat} {X : List (List Int)} (h : Sh n X) {i j : Nat} (hi : i < n) (hj : j < n) (ne : i ≠ j) (y : Int) : Sh n (X.set i (addR n y (rw_ X i) (rw_ X j))) ∧ sn (X.set i (addR n y (rw_ X i) (rw_ X j))) = sn X := by
  rcases h with ⟨rfl, a, b, c, d, rfl⟩ | ⟨rfl, a, b, c, d, e, f, g, h, k, rfl⟩
  · have : (i = 0 ∧ j = 1) ∨ (i = 1 ∧ j = 0) := by omega
    rcases this with ⟨rfl, rfl⟩ | ⟨rfl, rfl⟩
    · exact ⟨.inl ⟨rfl, _, _, _, _, rfl⟩, by show sn [[a + y * c, b + y * d], [c, d]] = sn [[a, b], [c, d]]; unfold sn; grind⟩
    · exact ⟨.inl ⟨rfl, _, _, _, _, rfl⟩, by show sn [[a, b], [c + y * a, d + y * b]] = sn [[a, b], [c, d]]; unfold sn; grind⟩
  · have : (i = 0 ∧ j = 1) ∨ (i = 1 ∧ j = 0) ∨ (i = 0 ∧ j = 2) ∨ (i = 2 ∧ j = 0) ∨ (i = 1 ∧ j = 2) ∨ (i = 2 ∧ j = 1) := by omega
    rcases this with ⟨rfl, rfl⟩ | ⟨rfl, rfl⟩ | ⟨rfl, rfl⟩ | ⟨rfl, rfl⟩ | ⟨rfl, rfl⟩ | ⟨rfl, rfl⟩
    · exact ⟨.inr ⟨rfl, _, _, _, _, _, _, _, _, _, rfl⟩, by show sn [[a + y * d, b + y * e, c + y * f], [d, e, f], [g, h, k]] = sn [[a, b, c], [d, e, f], [g, h, k]]; unfold sn; grind⟩
    · exact ⟨.inr ⟨rfl, _, _, _, _, _, _, _, _, _, rfl⟩, by show sn [[a, b, c], [d + y * a, e + y * b, f + y * c], [g, h, k]] = sn [[a, b, c], [d, e, f], [g, h, k]]; unfold sn; grind⟩
    · exact ⟨.inr ⟨rfl, _, _, _, _, _, _, _, _, _, rfl⟩, by show sn [[a + y * g, b + y * h, c + y * k], [d, e, f], [g, h, k]] = sn [[a, b, c], [d, e, f], [g, h, k]]; unfold sn; grind⟩
    · exact ⟨.inr ⟨rfl, _, _, _, _, _, _, _, _, _, rfl⟩, by show sn [[a, b, c], [d, e, f], [g + y * a, h + y * b, k + y * c]] = sn [[a, b, c], [d, e, f], [g, h, k]]; unfold sn; grind⟩
    · exact ⟨.inr ⟨rfl, _, _, _, _, _, _, _, _, _, rfl⟩, by show sn [[a, b, c], [d + y * g, e + y * h, f + y * k], [g, h, k]] = sn [[a, b, c], [d, e, f], [g, h, k]]; unfold sn; grind⟩
    · exact ⟨.inr ⟨rfl, _, _, _, _, _, _, _, _, _, rfl⟩, by show sn [[a, b, c], [d, e, f], [g + y * d, h + y * e, k + y * f]] = sn [[a, b, c], [d, e, f], [g, h, k]]; unfold sn; grind⟩
end DL

namespace DL
open PySem PySem.Spec PyProof.Rows L2
/-! deeds as triples: what comes of two, back, still -/
def mvA (n : Nat) (O : List (List Int)) (s : List Int) (v : Int) (t : List Int) (u : Int) : List Int := (List.range n).map fun i => (led O t).getD i 0 * v + s.getD i 0 * u
theorem mvA_len {n : Nat} {O : List (List Int)} {s : List Int} {v : Int} {t : List Int} {u : Int} : (mvA n O s v t u).length = n := by unfold mvA; rw [List.length_map, List.length_range]
def idm (d : Nat) : List (List Int) := (List.range d).map fun (i : Nat) => (List.range d).map fun (j : Nat) => if decide ((i : Int) = (j : Int)) = true then 1 else 0
theorem wgetD_rng {f : Nat → Int} {n k : Nat} : ((List.range n).map f).getD k 0 = if k < n then f k else 0 := by
  rw [getD_map' (d := 0), List.length_range]
  by_cases h : k < n
  · rw [if_pos h, if_pos h, List.getD_eq_getElem?_getD, List.getElem?_range h]; rfl
  · rw [if_neg h, if_neg h]
theorem wgetD_out {t : List Int} {k : Nat} (h : ¬ k < t.length) : t.getD k 0 = 0 := by
  rw [List.getD_eq_getElem?_getD, List.getElem?_eq_none (by omega)]; rfl
structure Tr where
  M : List (List Int)
  t : List Int
  u : Int
structure TOk (n : Nat) (A : Tr) : Prop where
  sh : Sh n A.M
  sg : sn A.M = 1 ∨ sn A.M = -1
  tl : A.t.length = n
  u0 : 0 < A.u
structure Okk (n : Nat) (A : Tr) : Prop extends TOk n A where
  lo : low A.u A.t
def nm (A : Tr) : Tr := ⟨A.M, pts A.u A.t, pun A.u A.t⟩
def rawB (n : Nat) (A B : Tr) : Tr := ⟨pm B.M A.M, mvA n B.M B.t B.u A.t A.u, B.u * A.u⟩
def bh (n : Nat) (A B : Tr) : Tr := nm (rawB n A B)
def rawW (A : Tr) : Tr := ⟨adj A.M, (led (adj A.M) A.t).map fun x => -x, A.u⟩
def bk (A : Tr) : Tr := nm (rawW A)
def stl (n : Nat) : Tr := ⟨idm n, List.replicate n 0, 1⟩
/-- of the same worth -/
structure Ev (A B : Tr) : Prop where
  M : A.M = B.M
  tl : A.t.length = B.t.length
  w : ∀ k, A.t.getD k 0 * B.u = B.t.getD k 0 * A.u
theorem Ev.symm {A B : Tr} (h : Ev A B) : Ev B A := ⟨h.M.symm, h.tl.symm, fun k => (h.w k).symm⟩
theorem Ev.refl {A : Tr} : Ev A A := ⟨rfl, rfl, fun k => rfl⟩
theorem Ev.trans {A B C : Tr} (hB : 0 < B.u) (h : Ev A B) (k : Ev B C) : Ev A C := ⟨h.M.trans k.M, h.tl.trans k.tl, fun j => by
  have h1 := h.w j
  have h2 := k.w j
  have : (A.t.getD j 0 * C.u) * B.u = (C.t.getD j 0 * A.u) * B.u := by grind
  exact Int.eq_of_mul_eq_mul_right (by omega) this⟩
theorem nm_ok {n : Nat} {A : Tr} (h : TOk n A) : Okk n (nm A) := { sh := h.sh, sg := h.sg, tl := (List.length_map _).trans h.tl, u0 := pun_pos (by have := h.u0; omega), lo := pl_low (by have := h.u0; omega) }
theorem nm_ev {A : Tr} (h : 0 < A.u) : Ev (nm A) A := ⟨rfl, List.length_map _, fun k => by
  show (pts A.u A.t).getD k 0 * A.u = A.t.getD k 0 * pun A.u A.t
  have h1 := pun_mul (u := A.u) (ns := A.t) (by omega)
  unfold pts
  rw [getD_map' (d := 0)]
  by_cases hk : k < A.t.length
  · rw [if_pos hk]
    have hm : A.t.getD k 0 ∈ A.t := by rw [List.getD_eq_getElem?_getD, List.getElem?_eq_getElem hk]; exact List.getElem_mem hk
    have h2 := mul_div_of (pby_ne (ns := A.t) (u := A.u) (by omega)) (pby_dvd.2 _ hm)
    grind
  · rw [if_neg hk, wgetD_out hk]; omega⟩
theorem nm_low {A : Tr} (h : 0 < A.u) (l : low A.u A.t) : nm A = A := by
  unfold nm
  rw [pts_low h l, pun_low h l]
theorem gd_mul {a b U : Int} (h : 0 ≤ U) : gd (a * U) (b * U) = gd a b * U := by
  obtain ⟨m, rfl⟩ := Int.eq_ofNat_of_zero_le h
  unfold gd
  rw [Int.natAbs_mul, Int.natAbs_mul, Int.natAbs_natCast, Nat.gcd_mul_right, Int.natCast_mul]
theorem gdl_mul {U : Int} (h : 0 ≤ U) : ∀ (ns : List Int) (b : Int), gdl (b * U) (ns.map (· * U)) = gdl b ns * U
  | [], b => rfl
  | n :: r, b => by
    rw [List.map_cons, gdl_cons, gdl_cons, gd_mul h, gdl_mul h r]
/-- what divides all tops, so many times, divides so many -/
theorem low_dvd {v U : Int} {qs : List Int} (h0 : 0 ≤ U) (hl : low v qs) (h : ∀ q ∈ qs, v ∣ q * U) : v ∣ U := by
  have : v ∣ gdl (v * U) (qs.map (· * U)) := dvd_gdl ⟨U, rfl⟩ fun x hx => by
    obtain ⟨q, hq, rfl⟩ := List.mem_map.mp hx
    exact h q hq
  rw [gdl_mul h0, show gdl v qs = 1 from hl, Int.one_mul] at this
  exact this
theorem ev_dvd {n : Nat} {A B : Tr} (hA : Okk n A) (hB : 0 < B.u) (h : Ev A B) : A.u ∣ B.u := low_dvd (by omega) hA.lo fun q hq => by
  obtain ⟨k, hk, rfl⟩ := List.getElem_of_mem hq
  have e := h.w k
  rw [show A.t.getD k 0 = A.t[k] by rw [List.getD_eq_getElem?_getD, List.getElem?_eq_getElem hk]; rfl] at e
  exact ⟨B.t.getD k 0, by grind⟩
theorem ev_eq {n : Nat} {A B : Tr} (hA : Okk n A) (hB : Okk n B) (h : Ev A B) : A = B := by
  have e : A.u = B.u := Int.dvd_antisymm (by have := hA.u0; omega) (by have := hB.u0; omega) (ev_dvd hA hB.u0 h) (ev_dvd hB hA.u0 h.symm)
  have t : A.t = B.t := by
    refine List.ext_getElem h.tl fun k h1 h2 => ?_
    have w := h.w k
    rw [show A.t.getD k 0 = A.t[k] by rw [List.getD_eq_getElem?_getD, List.getElem?_eq_getElem h1]; rfl, show B.t.getD k 0 = B.t[k] by rw [List.getD_eq_getElem?_getD, List.getElem?_eq_getElem h2]; rfl, e] at w
    exact Int.eq_of_mul_eq_mul_right (by have := hB.u0; omega) w
  cases A; cases B
  cases h.M; cases t; cases e
  rfl
/-! the explicit shapes -/
theorem len2 {t : List Int} (h : t.length = 2) : ∃ x y, t = [x, y] := by
  match t, h with
  | [x, y], _ => exact ⟨x, y, rfl⟩
theorem len3 {t : List Int} (h : t.length = 3) : ∃ x y z, t = [x, y, z] := by
  match t, h with
  | [x, y, z], _ => exact ⟨x, y, z, rfl⟩
theorem pm2 {a b c d p q r s : Int} : pm [[a, b], [c, d]] [[p, q], [r, s]] = [[a * p + b * r, a * q + b * s], [c * p + d * r, c * q + d * s]] := by
  show [[a * p + (b * r + 0), a * q + (b * s + 0)], [c * p + (d * r + 0), c * q + (d * s + 0)]] = _
  simp only [Int.add_zero]
theorem pm3 {a b c d e f g h i a' b' c' d' e' f' g' h' i' : Int} : pm [[a, b, c], [d, e, f], [g, h, i]] [[a', b', c'], [d', e', f'], [g', h', i']] = [[a * a' + (b * d' + c * g'), a * b' + (b * e' + c * h'), a * c' + (b * f' + c * i')], [d * a' + (e * d' + f * g'), d * b' + (e * e' + f * h'), d * c' + (e * f' + f * i')], [g * a' + (h * d' + i * g'), g * b' + (h * e' + i * h'), g * c' + (h * f' + i * i')]] := by
  show [[a * a' + (b * d' + (c * g' + 0)), a * b' + (b * e' + (c * h' + 0)), a * c' + (b * f' + (c * i' + 0))], [d * a' + (e * d' + (f * g' + 0)), d * b' + (e * e' + (f * h' + 0)), d * c' + (e * f' + (f * i' + 0))], [g * a' + (h * d' + (i * g' + 0)), g * b' + (h * e' + (i * h' + 0)), g * c' + (h * f' + (i * i' + 0))]] = _
  simp only [Int.add_zero]
theorem led2 {a b c d x y : Int} : led [[a, b], [c, d]] [x, y] = [a * x + b * y, c * x + d * y] := by
  show [a * x + (b * y + 0), c * x + (d * y + 0)] = _
  simp only [Int.add_zero]
theorem led3 {a b c d e f g h i x y z : Int} : led [[a, b, c], [d, e, f], [g, h, i]] [x, y, z] = [a * x + (b * y + c * z), d * x + (e * y + f * z), g * x + (h * y + i * z)] := by
  show [a * x + (b * y + (c * z + 0)), d * x + (e * y + (f * z + 0)), g * x + (h * y + (i * z + 0))] = _
  simp only [Int.add_zero]
theorem mv2 {O : List (List Int)} {l1 l2 s1 s2 v u : Int} {t : List Int} (h : led O t = [l1, l2]) : mvA 2 O [s1, s2] v t u = [l1 * v + s1 * u, l2 * v + s2 * u] := by
  unfold mvA
  rw [h]
  rfl
theorem mv3 {O : List (List Int)} {l1 l2 l3 s1 s2 s3 v u : Int} {t : List Int} (h : led O t = [l1, l2, l3]) : mvA 3 O [s1, s2, s3] v t u = [l1 * v + s1 * u, l2 * v + s2 * u, l3 * v + s3 * u] := by
  unfold mvA
  rw [h]
  rfl
theorem Tr.ext' {A B : Tr} (h1 : A.M = B.M) (h2 : A.t = B.t) (h3 : A.u = B.u) : A = B := by
  cases A; cases B; cases h1; cases h2; cases h3; rfl
/-- a triple, spelt out -/
theorem TOk.cs {n : Nat} {A : Tr} (h : TOk n A) : (n = 2 ∧ ∃ a b c d x y u, A = ⟨[[a, b], [c, d]], [x, y], u⟩) ∨ (n = 3 ∧ ∃ a b c d e f g h i x y z u, A = ⟨[[a, b, c], [d, e, f], [g, h, i]], [x, y, z], u⟩) := by
  obtain ⟨M, t, u⟩ := A
  rcases h.sh with ⟨rfl, a, b, c, d, e⟩ | ⟨rfl, a, b, c, d, e', f, g, h', i, e⟩
  · obtain ⟨x, y, k⟩ := len2 h.tl
    refine .inl ⟨rfl, a, b, c, d, x, y, u, ?_⟩
    exact Tr.ext' e k rfl
  · obtain ⟨x, y, z, k⟩ := len3 h.tl
    refine .inr ⟨rfl, a, b, c, d, e', f, g, h', i, x, y, z, u, ?_⟩
    exact Tr.ext' e k rfl
theorem raw_ok {n : Nat} {A B : Tr} (hA : TOk n A) (hB : TOk n B) : TOk n (rawB n A B) where
  sh := (pm_sh hB.sh hA.sh).1
  sg := by
    show sn (pm B.M A.M) = 1 ∨ _
    show sn (pm B.M A.M) = 1 ∨ sn (pm B.M A.M) = -1
    rw [(pm_sh hB.sh hA.sh).2]
    rcases hA.sg with h | h <;> rcases hB.sg with k | k <;> rw [h, k] <;> decide
  tl := mvA_len
  u0 := Int.mul_pos hB.u0 hA.u0
theorem rawW_ok {n : Nat} {A : Tr} (hA : TOk n A) : TOk n (rawW A) where
  sh := (adj_sh hA.sh hA.sg).1
  sg := (adj_sh hA.sh hA.sg).2
  tl := by
    show ((led (adj A.M) A.t).map fun x => -x).length = n
    rw [List.length_map, led_len, (adj_sh hA.sh hA.sg).1.len.1]
  u0 := hA.u0
theorem bh_ok {n : Nat} {A B : Tr} (hA : TOk n A) (hB : TOk n B) : Okk n (bh n A B) := nm_ok (raw_ok hA hB)
theorem bk_ok {n : Nat} {A : Tr} (hA : TOk n A) : Okk n (bk A) := nm_ok (rawW_ok hA)
theorem assoc_raw {n : Nat} {A B C : Tr} (hA : TOk n A) (hB : TOk n B) (hC : TOk n C) : rawB n (rawB n A B) C = rawB n A (rawB n B C) := by
  rcases hA.cs with ⟨rfl, a1, a2, a3, a4, ax, ay, au, rfl⟩ | ⟨rfl, a1, a2, a3, a4, a5, a6, a7, a8, a9, ax, ay, az, au, rfl⟩
  · rcases hB.cs with ⟨_, b1, b2, b3, b4, bx, by_, bu, rfl⟩ | ⟨z, _⟩
    · rcases hC.cs with ⟨_, c1, c2, c3, c4, cx, cy, cu, rfl⟩ | ⟨z, _⟩
      · unfold rawB
        simp only [pm2, mv2 led2]
        refine Tr.ext' ?_ ?_ ?_
        · simp only [List.cons.injEq, and_true]
          refine ⟨⟨?_, ?_⟩, ?_, ?_⟩ <;> grind
        · simp only [List.cons.injEq, and_true]
          refine ⟨?_, ?_⟩ <;> grind
        · show cu * (bu * au) = cu * bu * au
          grind
      · omega
    · omega
  · rcases hB.cs with ⟨z, _⟩ | ⟨_, b1, b2, b3, b4, b5, b6, b7, b8, b9, bx, by_, bz, bu, rfl⟩
    · omega
    · rcases hC.cs with ⟨z, _⟩ | ⟨_, c1, c2, c3, c4, c5, c6, c7, c8, c9, cx, cy, cz, cu, rfl⟩
      · omega
      · unfold rawB
        simp only [pm3, mv3 led3]
        refine Tr.ext' ?_ ?_ ?_
        · simp only [List.cons.injEq, and_true]
          refine ⟨⟨?_, ?_, ?_⟩, ⟨?_, ?_, ?_⟩, ?_, ?_, ?_⟩ <;> grind
        · simp only [List.cons.injEq, and_true]
          refine ⟨?_, ?_, ?_⟩ <;> grind
        · show cu * (bu * au) = cu * bu * au
          grind
/-! worth -/
theorem sum_mul (f : Nat → Int) (c : Int) : ∀ l : List Nat, (l.map f).sum * c = (l.map fun x => f x * c).sum
  | [] => Int.zero_mul c
  | x :: r => by rw [List.map_cons, List.map_cons, List.sum_cons, List.sum_cons, Int.add_mul, sum_mul f c r]
theorem dtn_w {n : Nat} {r t t' : List Int} {u u' : Int} (h : ∀ k, t.getD k 0 * u' = t'.getD k 0 * u) : dtn n r t * u' = dtn n r t' * u := by
  unfold dtn
  rw [sum_mul, sum_mul]
  refine congrArg List.sum (List.map_congr_left fun k _ => ?_)
  have := h k
  grind
theorem led_w {X : List (List Int)} {t t' : List Int} {u u' : Int} (hl : t.length = t'.length) (h : ∀ k, t.getD k 0 * u' = t'.getD k 0 * u) (k : Nat) : (led X t).getD k 0 * u' = (led X t').getD k 0 * u := by
  unfold led
  rw [getD_map' (d := []), getD_map' (d := []), hl]
  by_cases hk : k < X.length
  · rw [if_pos hk, if_pos hk]; exact dtn_w h
  · rw [if_neg hk, if_neg hk]; omega
theorem raw_ev {n : Nat} {A A' B B' : Tr} (hA : Ev A A') (hB : Ev B B') : Ev (rawB n A B) (rawB n A' B') := ⟨by
  show pm B.M A.M = pm B'.M A'.M
  rw [hA.M, hB.M], by
  show (mvA _ _ _ _ _ _).length = (mvA _ _ _ _ _ _).length
  rw [mvA_len, mvA_len], fun k => by
  show (mvA n B.M B.t B.u A.t A.u).getD k 0 * (B'.u * A'.u) = (mvA n B'.M B'.t B'.u A'.t A'.u).getD k 0 * (B.u * A.u)
  unfold mvA
  rw [wgetD_rng, wgetD_rng]
  by_cases hk : k < n
  · rw [if_pos hk, if_pos hk, ← hB.M]
    have h1 := led_w (X := B.M) hA.tl hA.w k
    have h2 := hB.w k
    generalize (led B.M A.t).getD k 0 = p at *
    generalize (led B.M A'.t).getD k 0 = q at *
    grind
  · rw [if_neg hk, if_neg hk]; omega⟩
theorem rawW_ev {A A' : Tr} (hA : Ev A A') : Ev (rawW A) (rawW A') := ⟨by
  show adj A.M = adj A'.M
  rw [hA.M], by
  show ((led (adj A.M) A.t).map _).length = ((led (adj A'.M) A'.t).map _).length
  rw [List.length_map, List.length_map, led_len, led_len, hA.M], fun k => by
  show ((led (adj A.M) A.t).map fun x => -x).getD k 0 * A'.u = ((led (adj A'.M) A'.t).map fun x => -x).getD k 0 * A.u
  rw [getD_map' (d := 0), getD_map' (d := 0), led_len, led_len, ← hA.M]
  by_cases hk : k < (adj A.M).length
  · rw [if_pos hk, if_pos hk]
    have h1 := led_w (X := adj A.M) hA.tl hA.w k
    generalize (led (adj A.M) A.t).getD k 0 = p at *
    generalize (led (adj A.M) A'.t).getD k 0 = q at *
    grind
  · rw [if_neg hk, if_neg hk]; omega⟩
theorem bh_assoc {n : Nat} {A B C : Tr} (hA : TOk n A) (hB : TOk n B) (hC : TOk n C) : bh n (bh n A B) C = bh n A (bh n B C) := by
  have a := raw_ok hA hB
  have b := raw_ok hB hC
  have ab := bh_ok hA hB
  have bc := bh_ok hB hC
  refine ev_eq (bh_ok ab.toTOk hC) (bh_ok hA bc.toTOk) ?_
  have e1 : Ev (bh n (bh n A B) C) (rawB n (rawB n A B) C) := (nm_ev (raw_ok ab.toTOk hC).u0).trans (raw_ok ab.toTOk hC).u0 (raw_ev (nm_ev a.u0) Ev.refl)
  have e2 : Ev (bh n A (bh n B C)) (rawB n A (rawB n B C)) := (nm_ev (raw_ok hA bc.toTOk).u0).trans (raw_ok hA bc.toTOk).u0 (raw_ev Ev.refl (nm_ev b.u0))
  rw [assoc_raw hA hB hC] at e1
  exact e1.trans (raw_ok hA b).u0 e2.symm
/-! still -/
theorem idm2 : idm 2 = [[1, 0], [0, 1]] := rfl
theorem idm3 : idm 3 = [[1, 0, 0], [0, 1, 0], [0, 0, 1]] := rfl
theorem stl_ok {n : Nat} (hn : n = 2 ∨ n = 3) : Okk n (stl n) where
  sh := by
    rcases hn with rfl | rfl
    · exact .inl ⟨rfl, _, _, _, _, rfl⟩
    · exact .inr ⟨rfl, _, _, _, _, _, _, _, _, _, rfl⟩
  sg := by rcases hn with rfl | rfl <;> exact .inl (by decide)
  tl := List.length_replicate
  u0 := by show (0 : Int) < 1; decide
  lo := by
    rcases hn with rfl | rfl
    · exact (by decide : gdl 1 [0, 0] = 1)
    · exact (by decide : gdl 1 [0, 0, 0] = 1)
theorem Okk.nmz {n : Nat} {A : Tr} (h : Okk n A) : nm A = A := nm_low h.u0 h.lo
theorem raw_stl_l {n : Nat} {A : Tr} (hA : TOk n A) : rawB n (stl n) A = A := by
  rcases hA.cs with ⟨rfl, a1, a2, a3, a4, ax, ay, au, rfl⟩ | ⟨rfl, a1, a2, a3, a4, a5, a6, a7, a8, a9, ax, ay, az, au, rfl⟩
  · refine Tr.ext' ?_ ?_ (Int.mul_one _)
    · show pm [[a1, a2], [a3, a4]] [[1, 0], [0, 1]] = [[a1, a2], [a3, a4]]
      rw [pm2]; simp
    · show mvA 2 [[a1, a2], [a3, a4]] [ax, ay] au [0, 0] 1 = [ax, ay]
      rw [mv2 led2]; simp
  · refine Tr.ext' ?_ ?_ (Int.mul_one _)
    · show pm [[a1, a2, a3], [a4, a5, a6], [a7, a8, a9]] [[1, 0, 0], [0, 1, 0], [0, 0, 1]] = [[a1, a2, a3], [a4, a5, a6], [a7, a8, a9]]
      rw [pm3]; simp
    · show mvA 3 [[a1, a2, a3], [a4, a5, a6], [a7, a8, a9]] [ax, ay, az] au [0, 0, 0] 1 = [ax, ay, az]
      rw [mv3 led3]; simp
theorem raw_stl_r {n : Nat} {A : Tr} (hA : TOk n A) : rawB n A (stl n) = A := by
  rcases hA.cs with ⟨rfl, a1, a2, a3, a4, ax, ay, au, rfl⟩ | ⟨rfl, a1, a2, a3, a4, a5, a6, a7, a8, a9, ax, ay, az, au, rfl⟩
  · refine Tr.ext' ?_ ?_ (Int.one_mul _)
    · show pm [[1, 0], [0, 1]] [[a1, a2], [a3, a4]] = [[a1, a2], [a3, a4]]
      rw [pm2]; simp
    · show mvA 2 [[1, 0], [0, 1]] [0, 0] 1 [ax, ay] au = [ax, ay]
      rw [mv2 led2]; simp
  · refine Tr.ext' ?_ ?_ (Int.one_mul _)
    · show pm [[1, 0, 0], [0, 1, 0], [0, 0, 1]] [[a1, a2, a3], [a4, a5, a6], [a7, a8, a9]] = [[a1, a2, a3], [a4, a5, a6], [a7, a8, a9]]
      rw [pm3]; simp
    · show mvA 3 [[1, 0, 0], [0, 1, 0], [0, 0, 1]] [0, 0, 0] 1 [ax, ay, az] au = [ax, ay, az]
      rw [mv3 led3]; simp
theorem bh_stl_l {n : Nat} {A : Tr} (hA : Okk n A) : bh n (stl n) A = A := by
  unfold bh; rw [raw_stl_l hA.toTOk, hA.nmz]
theorem bh_stl_r {n : Nat} {A : Tr} (hA : Okk n A) : bh n A (stl n) = A := by
  unfold bh; rw [raw_stl_r hA.toTOk, hA.nmz]
/-! the way back -/
theorem adj2 {a b c d : Int} : adj [[a, b], [c, d]] = [[sn [[a, b], [c, d]] * d, -sn [[a, b], [c, d]] * b], [-sn [[a, b], [c, d]] * c, sn [[a, b], [c, d]] * a]] := rfl
theorem adj3 {a b c d e f g h i : Int} : adj [[a, b, c], [d, e, f], [g, h, i]] = [[sn [[a, b, c], [d, e, f], [g, h, i]] * (e * i - f * h), sn [[a, b, c], [d, e, f], [g, h, i]] * (h * c - i * b), sn [[a, b, c], [d, e, f], [g, h, i]] * (b * f - c * e)], [sn [[a, b, c], [d, e, f], [g, h, i]] * (f * g - d * i), sn [[a, b, c], [d, e, f], [g, h, i]] * (i * a - g * c), sn [[a, b, c], [d, e, f], [g, h, i]] * (c * d - a * f)], [sn [[a, b, c], [d, e, f], [g, h, i]] * (d * h - e * g), sn [[a, b, c], [d, e, f], [g, h, i]] * (g * b - h * a), sn [[a, b, c], [d, e, f], [g, h, i]] * (a * e - b * d)]] := rfl
theorem pm_adj {n : Nat} {M : List (List Int)} (h : Sh n M) (s : sn M = 1 ∨ sn M = -1) : pm (adj M) M = idm n ∧ pm M (adj M) = idm n := by
  rcases h with ⟨rfl, a, b, c, d, rfl⟩ | ⟨rfl, a, b, c, d, e, f, g, h, i, rfl⟩
  · have ss : sn [[a, b], [c, d]] * (a * d - b * c) = 1 := by
      rcases s with h | h <;> (have h' : a * d - b * c = _ := h; rw [h, h']; decide)
    rw [adj2]
    generalize sn [[a, b], [c, d]] = y at ss
    rw [pm2, pm2, idm2]
    simp only [List.cons.injEq, and_true]
    refine ⟨⟨⟨?_, ?_⟩, ?_, ?_⟩, ⟨?_, ?_⟩, ?_, ?_⟩ <;> grind
  · have ss : sn [[a, b, c], [d, e, f], [g, h, i]] * (a * (e * i - f * h) + b * (f * g - d * i) + c * (d * h - e * g)) = 1 := by
      rcases s with k | k <;> (have h' : a * (e * i - f * h) + b * (f * g - d * i) + c * (d * h - e * g) = _ := k; rw [k, h']; decide)
    rw [adj3]
    generalize sn [[a, b, c], [d, e, f], [g, h, i]] = y at ss
    rw [pm3, pm3, idm3]
    simp only [List.cons.injEq, and_true]
    refine ⟨⟨⟨?_, ?_, ?_⟩, ⟨?_, ?_, ?_⟩, ?_, ?_, ?_⟩, ⟨?_, ?_, ?_⟩, ⟨?_, ?_, ?_⟩, ?_, ?_, ?_⟩ <;> grind
theorem raw_back {n : Nat} {A : Tr} (hA : TOk n A) : Ev (rawB n A (rawW A)) (stl n) := ⟨(pm_adj hA.sh hA.sg).1, by
  show (mvA _ _ _ _ _ _).length = (List.replicate n 0).length
  rw [mvA_len, List.length_replicate], fun k => by
  show (mvA n (adj A.M) ((led (adj A.M) A.t).map fun x => -x) A.u A.t A.u).getD k 0 * 1 = (List.replicate n (0 : Int)).getD k 0 * (A.u * A.u)
  have z : (List.replicate n (0 : Int)).getD k 0 = 0 := by
    by_cases h : k < n
    · rw [List.getD_eq_getElem?_getD, List.getElem?_eq_getElem (by rw [List.length_replicate]; exact h), List.getElem_replicate]; rfl
    · exact wgetD_out (by rw [List.length_replicate]; exact h)
  rw [z]
  unfold mvA
  rw [wgetD_rng]
  by_cases h : k < n
  · have l : k < (led (adj A.M) A.t).length := by rw [led_len, (adj_sh hA.sh hA.sg).1.len.1]; exact h
    rw [if_pos h, getD_map' (d := 0), if_pos l]
    grind
  · rw [if_neg h]; omega⟩
theorem bh_bk {n : Nat} {A : Tr} (hA : TOk n A) : bh n A (bk A) = stl n := by
  have w := rawW_ok hA
  have k := bk_ok hA
  refine ev_eq (bh_ok hA k.toTOk) (stl_ok hA.sh.n) ?_
  have e1 : Ev (bh n A (bk A)) (rawB n A (rawW A)) := (nm_ev (raw_ok hA k.toTOk).u0).trans (raw_ok hA k.toTOk).u0 (raw_ev Ev.refl (nm_ev w.u0))
  exact e1.trans (raw_ok hA w).u0 (raw_back hA)
theorem bk_bk {n : Nat} {A : Tr} (hA : Okk n A) : bk (bk A) = A := by
  have k := bk_ok hA.toTOk
  have k2 := bk_ok k.toTOk
  have h1 := bh_bk hA.toTOk
  have h2 := bh_bk k.toTOk
  have h3 := bh_assoc hA.toTOk k.toTOk k2.toTOk
  rw [h1, h2, bh_stl_l k2, bh_stl_r hA] at h3
  exact h3
theorem bk_bh {n : Nat} {A : Tr} (hA : Okk n A) : bh n (bk A) A = stl n := by
  have h := bh_bk (bk_ok hA.toTOk).toTOk
  rwa [bk_bk hA] at h
/-! so many times -/
def pw (n : Nat) (A : Tr) : Nat → Tr
  | 0 => stl n
  | k + 1 => bh n (pw n A k) A
theorem pw_ok {n : Nat} {A : Tr} (hA : Okk n A) : ∀ k, Okk n (pw n A k)
  | 0 => stl_ok hA.sh.n
  | k + 1 => bh_ok (pw_ok hA k).toTOk hA.toTOk
theorem pw_one {n : Nat} {A : Tr} (hA : Okk n A) : pw n A 1 = A := bh_stl_l hA
theorem pw_add {n : Nat} {A : Tr} (hA : Okk n A) (a : Nat) : ∀ b, bh n (pw n A a) (pw n A b) = pw n A (a + b)
  | 0 => bh_stl_r (pw_ok hA a)
  | b + 1 => by
    show bh n (pw n A a) (bh n (pw n A b) A) = bh n (pw n A (a + b)) A
    rw [← pw_add hA a b, bh_assoc (pw_ok hA a).toTOk (pw_ok hA b).toTOk hA.toTOk]
theorem pw_back {n : Nat} {A : Tr} (hA : Okk n A) (k : Nat) : bh n (pw n (bk A) (k + 1)) A = pw n (bk A) k := by
  have w := bk_ok hA.toTOk
  show bh n (bh n (pw n (bk A) k) (bk A)) A = _
  rw [bh_assoc (pw_ok w k).toTOk w.toTOk hA.toTOk, bk_bh hA, bh_stl_r (pw_ok w k)]
/-! the under divides -/
theorem bh_dvd {n : Nat} {A B : Tr} (hA : TOk n A) (hB : TOk n B) {U : Int} (h0 : 0 ≤ U) (ha : A.u ∣ U) (hb : B.u ∣ U) : (bh n A B).u ∣ U := low_dvd h0 (bh_ok hA hB).lo fun q hq => by
  obtain ⟨k, hk, rfl⟩ := List.getElem_of_mem hq
  have w := (nm_ev (raw_ok hA hB).u0).w k
  have hk' : k < n := by rw [← (bh_ok hA hB).tl]; exact hk
  have e1 : (nm (rawB n A B)).t.getD k 0 = (bh n A B).t[k] := by rw [List.getD_eq_getElem?_getD, List.getElem?_eq_getElem (show k < (nm (rawB n A B)).t.length from hk)]; rfl
  have e2 : (rawB n A B).t.getD k 0 = (led B.M A.t).getD k 0 * B.u + B.t.getD k 0 * A.u := by
    show (mvA _ _ _ _ _ _).getD k 0 = _
    unfold mvA
    rw [wgetD_rng, if_pos hk']
  rw [e1, e2] at w
  have w : (bh n A B).t[k] * (B.u * A.u) = ((led B.M A.t).getD k 0 * B.u + B.t.getD k 0 * A.u) * (bh n A B).u := w
  obtain ⟨a, ha⟩ := ha
  obtain ⟨b, hb⟩ := hb
  have p : 0 < B.u * A.u := (raw_ok hA hB).u0
  generalize (led B.M A.t).getD k 0 = l at w
  generalize B.t.getD k 0 = s at w
  generalize (bh n A B).t[k] = q at w
  generalize (bh n A B).u = v at w
  refine ⟨l * a + s * b, ?_⟩
  refine Int.eq_of_mul_eq_mul_right (a := B.u * A.u) (by omega) ?_
  have h1 : l * B.u * U = l * a * (B.u * A.u) := by rw [ha]; grind
  have h2 : s * A.u * U = s * b * (B.u * A.u) := by rw [hb]; grind
  grind
theorem bk_dvd {n : Nat} {A : Tr} (hA : TOk n A) : (bk A).u ∣ A.u := ev_dvd (B := rawW A) (bk_ok hA) hA.u0 (nm_ev (A := rawW A) hA.u0)
theorem pw_dvd {n : Nat} {A : Tr} (hA : Okk n A) {U : Int} (h0 : 0 ≤ U) (h : A.u ∣ U) : ∀ k, (pw n A k).u ∣ U
  | 0 => Int.one_dvd U
  | k + 1 => bh_dvd (pw_ok hA k).toTOk hA.toTOk h0 (pw_dvd hA h0 h k) h
end DL

/-! DLx: str(int), max of a list, extend, clear, pop of own lists. -/
namespace DL
open PySem PySem.Spec PyProof.Rows L2 Evl
section
variable {X : Cx} {W : WX} {a b c e : Expr} {es : List Expr} {fa fb fc : M D} {pos : Pos} {N : List Str} {sc raw : Scope} {f : M (List D)}
def StrIOk (i : Int) : Prop := i.natAbs.log2 < 1920
instance (i : Int) : Decidable (StrIOk i) := by unfold StrIOk; infer_instance
def cStr : List D → M D := fun ds => match ds with | [.int i] => if StrIOk i then ret (.str (toString i)) else stk | _ => stk
theorem je_strC {p : Pos} {f : M (List D)} (V : Nm X N sc raw) (hG : okG sc "str" = true) (hm : X.mg "str" = none) (ja : JA X W [a] f) (he : starEach [a] X.env = (false, eval a X.env) :: starEach [] X.env := by rfl) : JE X W (.Call (.Name "str" p) [a] [] pos) (bnd f cStr) := by
  refine je_callTy call_str_int (fun ps σ Hf H env xs ds Q S rx q => ?_) V hG hm ja (by decide +kernel) he
  unfold cStr at q
  split at q
  · rename_i i
    by_cases h : StrIOk i
    · rw [if_pos h] at q
      cases rx with
      | cons r1 r2 => cases r2; rw [r1.int_inv]; exact ⟨_, rfl, h, q.ret S _ (.str _)⟩
    · rw [if_neg h] at q; exact q.elim
  · exact q.elim
/-! max(list of ints) -/
def mxI (n : Int) (r : List Int) : Int := r.foldl max n
theorem mxI_ok : ∀ (r : List Int) (n : Int), mxI n r ∈ n :: r ∧ ∀ y ∈ n :: r, y ≤ mxI n r
  | [], n => ⟨List.mem_cons_self, fun y h => by rw [List.mem_singleton.mp h]; exact Int.le_refl _⟩
  | x :: r, n => by
    obtain ⟨h1, h2⟩ := mxI_ok r (max n x)
    have e : mxI n (x :: r) = mxI (max n x) r := rfl
    rw [e]
    refine ⟨?_, fun y hy => ?_⟩
    · rcases List.mem_cons.mp h1 with h | h
      · rw [h]
        by_cases k : n ≤ x
        · rw [Int.max_eq_right k]; exact List.mem_cons_of_mem _ List.mem_cons_self
        · rw [Int.max_eq_left (by omega)]; exact List.mem_cons_self
      · exact List.mem_cons_of_mem _ (List.mem_cons_of_mem _ h)
    · have h3 := h2 (max n x) List.mem_cons_self
      rcases List.mem_cons.mp hy with h | h
      · rw [h]; omega
      · rcases List.mem_cons.mp h with h | h
        · rw [h]; omega
        · exact h2 y (List.mem_cons_of_mem _ h)
def oMx (o : Option (List Int)) : M D := match o with | some (n :: r) => ret (.int (mxI n r)) | _ => stk
def cMaxL : List D → M D := fun ds => match ds with | [.lst l] => oMx (asInts l) | _ => stk
theorem je_maxL {p : Pos} (C : CtxOk X W) (V : Nm X N sc raw) (hG : okG sc "max" = true) (hm : X.mg "max" = none) (ja : JA X W [a] f) (he : starEach [a] X.env = (false, eval a X.env) :: starEach [] X.env := by rfl) : JE X W (.Call (.Name "max" p) [a] [] pos) (bnd f cMaxL) := by
  refine je_callB (cr_max C.calm) (fun ps σ Hf H env xs ds Q S rx q => ?_) V hG hm ja (by decide +kernel) he
  unfold cMaxL at q
  split at q
  · rename_i l
    cases w : asInts l with
    | none => rw [w] at q; exact q.elim
    | some ns =>
      rw [w] at q
      cases ns with
      | nil => exact q.elim
      | cons n r0 =>
        have e := asInts_eq w
        subst e
        cases rx with
        | cons r1 r2 => cases r2; cases r1 with
          | lst hq r =>
            have ev := r.ints
            subst ev
            refine ⟨_, n :: r0, rfl, ex_l S.ex hq, by simp, fun m hm1 hm2 => ?_⟩
            obtain ⟨k1, k2⟩ := mxI_ok r0 n
            have : m = mxI n r0 := by
              have h1 := hm2 _ k1
              have h2 := k2 _ hm1
              omega
            rw [this]
            exact q.ret S _ (.int _)
  · exact q.elim
/-! x.extend(a new list) -/
def kExt (i : Nat) (l2 : List D) : M Fl := fun env => match ownAt env i with
  | some (k, l) => if l.length + l2.length ≤ sizeLine then .ok .nx (env.set i (.own k (.lst (l ++ l2)))) else .stuck
  | none => .stuck
def mExt (i : Nat) (f : M (List D)) : M Fl := fun env => match ownAt env i with | some _ => bnd f (kExt i) env | none => .stuck
theorem js_ext {x : Str} {i : Nat} {p1 p2 p3 pos2 : Pos} (V : Nm X N sc raw) (hv : okV N sc i x = true) (j : JF X W e f)
    (hbase : attributeBase (.Name x p1) "extend" X.env (eval (.Name x p1) X.env) = eval (.Name x p1) X.env := by rfl)
    (hfew : ((backTo p3 (starEach [e] X.env)).all (fun x => !x.1) && (backToKw p3 (keywordEach [] X.env)).all (fun x => x.1.isSome)
      && decide ([e].length + ([] : List Keyword).length + (if ([] : List Keyword).isEmpty then 0 else 1) < 30)) = true := by rfl)
    (hline : (p2.endLine == p3.line) = true := by rfl) (hs : starEach [e] X.env = (false, eval e X.env) :: starEach [] X.env := by rfl) (hplain : (backTo p3 (starEach [] X.env)).any (·.1) = false := by rfl)
    (hsw : swapsWith (.Call (.Attribute (.Name x p1) "extend" p2) [e] [] p3) none pos2.line X.env = pure false := by rfl) :
    JS X W (.Expr (.Call (.Attribute (.Name x p1) "extend" p2) [e] [] p3) pos2) (mExt i f) := by
  obtain ⟨hN, hvi, hd, hcd⟩ := V.v hv
  obtain ⟨t, p, h⟩ := j.ex
  refine ⟨⟨_, ps_expr (pe_bm PySem.F.plainAttrs_list PySem.F.slot_list_extend PySem.F.type_list_extend mt_extend (pe_var hN hvi hd hcd) (pa_cons p pa_nil hs) hbase hfew hline hs hplain) hsw, fun ps σ Hf H env S De z => ?_⟩⟩
  unfold mExt at z
  cases w : ownAt env i with
  | none => rw [w] at z; exact z.elim
  | some kl =>
    obtain ⟨k, l⟩ := kl
    rw [w] at z
    obtain ⟨pa, o, hp, nf, ho, ⟨vs, e1, r⟩, hk⟩ := S.own (ownAt_eq w)
    subst e1
    refine ⟨.ref pa, hp, .inl ⟨rfl, vs, .inl (.inl ho)⟩, ?_⟩
    refine h ps σ Hf H env S _ ?_
    unfold bnd at z
    cases q : f env with
    | stuck => rw [q] at z; exact z
    | exc x pp e' => rw [q] at z; exact fun cls dd Hf' H' x S ie => z cls dd σ Hf' H' x S ie
    | ok l2 e1 =>
      rw [q] at z
      intro Hf1 H1 p2 vs2 x1 S1 hp2 nf2 ng2 r2 no2
      have z1 : SG X.K X.mg ps W De Hf (kExt i l2 e1) := z
      unfold kExt at z1
      cases w1 : ownAt e1 i with
      | none => rw [w1] at z1; exact z1.elim
      | some kl1 =>
        obtain ⟨k1, l1⟩ := kl1
        rw [w1] at z1
        dsimp only at z1
        by_cases hz : l1.length + l2.length ≤ sizeLine
        · rw [if_pos hz] at z1
          obtain ⟨p1, o1, hp1, nf1, ho1, ⟨vs1, e2, r1⟩, hk1⟩ := S1.own (ownAt_eq w1)
          subst e2
          rw [hp] at hp1; cases hp1
          exact ⟨pa, p2, vs1, vs2, rfl, rfl, ho1, hp2, by rw [r1.length, r2.length]; exact hz, z1 σ Hf1 _ x1 (S1.turn (ownAt_eq w1) hp ⟨vs1 ++ vs2, rfl, r1.append r2⟩)⟩
        · rw [if_neg hz] at z1; exact z1.elim
end
end DL

/-! DLy: what the rules of DLx are worth at an environment; texts (plain mathematics). -/
namespace DL
open PySem PySem.Spec PyProof.Rows L2 Evl
section
variable {e e' : DEnv} {n : Nat} {l : List D} {ns : List Int} {i : Int} {f : M (List D)}
theorem a_cStr : cStr [.int i] e = if StrIOk i then .ok (.str (toString i)) e else .stuck := by
  show (if StrIOk i then DL.ret (D.str (toString i)) else stk) e = _
  split <;> rfl
theorem a_cMaxL : cMaxL [.lst (ns.map .int)] e = oMx (some ns) e := by
  show oMx (asInts (ns.map .int)) e = _
  rw [asInts_map]
def eP (o : Option (Option Nat × List D)) (n : Nat) (f : M (List D)) (e : DEnv) : Res Fl := match o with | some _ => bnd f (kExt n) e | none => .stuck
theorem a_ext : mExt n f e = eP (ownAt e n) n f e := rfl
theorem a_eP {q : Option Nat × List D} : eP (some q) n f e = rB (f e) (kExt n) := rfl
def kE (o : Option (Option Nat × List D)) (n : Nat) (l2 : List D) (e : DEnv) : Res Fl := match o with
  | some (k, l) => if l.length + l2.length ≤ sizeLine then .ok .nx (e.set n (.own k (.lst (l ++ l2)))) else .stuck
  | none => .stuck
theorem a_kExt {l2 : List D} : kExt n l2 e = kE (ownAt e n) n l2 e := rfl
theorem a_kE {q : Option Nat} {l2 : List D} : kE (some (q, l)) n l2 e = if l.length + l2.length ≤ sizeLine then .ok .nx (e.set n (.own q (.lst (l ++ l2)))) else .stuck := rfl
end
/-! texts -/
theorem ystrOk_iff {z : Str} : PyData.strOk z = true ↔ ∀ c ∈ z.cps.toList, c < 0x110000 := by
  unfold PyData.strOk
  rw [Array.all_eq_true_iff_forall_mem]
  simp
theorem ycps_app (a b : Str) : (a ++ b).cps.toList = a.cps.toList ++ b.cps.toList := by
  show (a.cps ++ b.cps).toList = _
  rw [Array.toList_append]
theorem str_eq {a b : Str} (h : a.cps.toList = b.cps.toList) : a = b := by
  cases a; cases b
  exact congrArg Str.mk (Array.toList_inj.mp h)
theorem str_assoc (a b c : Str) : a ++ b ++ c = a ++ (b ++ c) := str_eq (by rw [ycps_app, ycps_app, ycps_app, ycps_app, List.append_assoc])
theorem str_nil (a : Str) : a ++ (Str.ofString "") = a := str_eq (by rw [ycps_app]; exact List.append_nil _)
theorem nil_str (a : Str) : (Str.ofString "") ++ a = a := str_eq (by rw [ycps_app]; rfl)
/-- a plain text of at most m signs -/
def tOk (m : Nat) (z : Str) : Prop := PyData.strOk z = true ∧ z.length ≤ m
theorem ylen_app (a b : Str) : (a ++ b).length = a.length + b.length := by
  show (a.cps ++ b.cps).size = _
  rw [Array.size_append]; rfl
theorem tOk.app {m n : Nat} {a b : Str} (h : tOk m a) (k : tOk n b) : tOk (m + n) (a ++ b) := by
  refine ⟨?_, by rw [ylen_app]; exact Nat.add_le_add h.2 k.2⟩
  rw [ystrOk_iff]
  intro c hc
  rw [ycps_app] at hc
  rcases List.mem_append.mp hc with hc | hc
  · exact ystrOk_iff.mp h.1 c hc
  · exact ystrOk_iff.mp k.1 c hc
theorem tOk.mono {m n : Nat} {z : Str} (h : tOk m z) (k : m ≤ n) : tOk n z := ⟨h.1, Nat.le_trans h.2 k⟩
theorem tOk_of (s : String) {m : Nat} (h : s.length ≤ m) : tOk m (Str.ofString s) := by
  refine ⟨?_, by rw [PySem.ofString_length]; exact h⟩
  rw [ystrOk_iff, Str.ofString_eq_toList]
  intro c hc
  simp only [List.mem_map] at hc
  obtain ⟨d, _, rfl⟩ := hc
  have := d.valid
  unfold UInt32.isValidChar Nat.isValidChar at this
  show d.toNat < _
  have e : d.toNat = d.val.toNat := rfl
  omega
theorem tOk_int {i : Int} (h : i.natAbs < 10 ^ 100) : tOk 101 (Str.ofString (toString i)) := tOk_of _ (int_text_length_le10 (k := 100) (by decide) h)
theorem strI_ok {i : Int} (h : i.natAbs < 10 ^ 100) : StrIOk i := by
  unfold StrIOk
  by_cases z : i.natAbs = 0
  · rw [z]; decide
  · exact (Nat.log2_lt z).mpr (Nat.lt_trans h (by decide +kernel))
theorem tOk_join {m : Nat} {sep : Str} (hs : tOk 1 sep) : ∀ ys : List Str, (∀ y ∈ ys, tOk m y) → tOk (ys.length * (m + 1)) (Str.join sep ys)
  | [], _ => ⟨by show PyData.strOk Str.empty = true; decide +kernel, Nat.zero_le _⟩
  | [x], h => (h x List.mem_cons_self).mono (by rw [List.length_cons, List.length_nil]; omega)
  | x :: x2 :: r, h => by
    have e : Str.join sep (x :: x2 :: r) = x ++ sep ++ Str.join sep (x2 :: r) := rfl
    rw [e]
    refine (((h x List.mem_cons_self).app hs).app (tOk_join hs (x2 :: r) fun y m => h y (List.mem_cons_of_mem _ m))).mono ?_
    rw [List.length_cons (a := x), Nat.succ_mul]; omega
theorem yjoin_eq (sep : Str) (ys : List Str) : Txt.join sep ys = Str.join sep ys := StrLaws.glued_eq_join sep ys
theorem pl_s {m : Nat} {z : Str} (h : tOk m z) : D.pl 0 (.str z) = true := h.1
theorem deq_s {m n : Nat} {a b : Str} (h : tOk m a) (k : tOk n b) : eqOk (.str a) (.str b) = true ∧ deq (.str a) (.str b) = decide (a = b) := by
  refine ⟨eqOk_pl (pl_s h) (pl_s k), ?_⟩
  by_cases e : a = b
  · rw [decide_eq_true e, e, deq_self (pl_s k)]
  · rw [decide_eq_false e, deq_ne (pl_s h) (pl_s k) (fun z => e (D.str.inj z))]
theorem ysum_le {ys : List Str} {m : Nat} (h : ∀ y ∈ ys, y.length ≤ m) : (ys.map (·.length)).sum ≤ ys.length * m := by
  induction ys with
  | nil => simp
  | cons y ys ih =>
    rw [List.map_cons, List.sum_cons, List.length_cons, Nat.succ_mul]
    have := ih fun y' m' => h y' (List.mem_cons_of_mem _ m')
    have := h y List.mem_cons_self
    omega
theorem joinOk_of {sep : Str} {ys : List Str} {m : Nat} (h : ∀ y ∈ ys, y.length ≤ m) (hn : ys.length ≤ 100) (hm : m ≤ 2000) (hs : sep.length ≤ 1) : joinOk sep ys := by
  unfold joinOk
  have h1 := ysum_le h
  have h2 : ys.length * m ≤ 100 * 2000 := Nat.mul_le_mul hn hm
  have h3 : ys.length * sep.length ≤ 100 * 1 := Nat.mul_le_mul hn hs
  omega
/-! a text with signs: as the program builds it (ws), as the law does (wr) -/
def sgS (k : Int) : Str := if k < 0 then Str.ofString "-" else Str.ofString "+"
def ws (p : Str) (k : Int) (w : Str) : Str := if k < 0 then p ++ Str.ofString "-" ++ w else if p = Str.ofString "" then w else p ++ Str.ofString "+" ++ w
inductive Rel : Str → Str → Prop
  | nil : Rel (Str.ofString "") (Str.ofString "")
  | neg {p : Str} : Rel (Str.ofString "-" ++ p) (Str.ofString "-" ++ p)
  | pos {p : Str} : p ≠ Str.ofString "" → Rel p (Str.ofString "+" ++ p)
theorem app_ne {a b : Str} (h : b ≠ Str.ofString "") : a ++ b ≠ Str.ofString "" := fun z => by
  have := congrArg Str.length z
  rw [ylen_app] at this
  have e : (Str.ofString "").length = 0 := rfl
  have hb : b.length = 0 := by omega
  exact h (str_eq (by
    have : b.cps = #[] := Array.eq_empty_of_size_eq_zero hb
    rw [this]; rfl))
theorem one_ne {a : Str} (s : Str) (hs : s.length = 1) : s ++ a ≠ Str.ofString "" := fun z => by
  have := congrArg Str.length z
  rw [ylen_app] at this
  have e : (Str.ofString "").length = 0 := rfl
  omega
theorem Rel.step {p q w : Str} (h : Rel p q) (hw : w ≠ Str.ofString "") (k : Int) : Rel (ws p k w) (q ++ (sgS k ++ w)) := by
  unfold ws sgS
  by_cases hk : k < 0
  · rw [if_pos hk, if_pos hk]
    cases h with
    | nil => rw [nil_str, nil_str]; exact .neg
    | neg => rw [str_assoc, str_assoc]; exact .neg
    | pos hp => rw [str_assoc, str_assoc]; exact .pos (app_ne (one_ne _ rfl))
  · rw [if_neg hk, if_neg hk]
    cases h with
    | nil => rw [if_pos rfl, nil_str]; exact .pos hw
    | neg => rw [if_neg (one_ne _ rfl), str_assoc, str_assoc]; exact .neg
    | pos hp => rw [if_neg hp, str_assoc, str_assoc]; exact .pos (app_ne (one_ne _ rfl))
theorem cut0 {q : Str} : cutS q (some 0) none = q := by
  unfold cutS
  refine str_eq ?_
  simp [HT.sIx]
  exact List.take_of_length_le (Nat.le_of_eq (Array.length_toList (xs := q.cps)))
theorem cut1 {p : Str} : cutS (Str.ofString "+" ++ p) (some 1) none = p := by
  unfold cutS
  refine str_eq ?_
  rw [ycps_app]
  show _ = p.cps.toList
  have h1 : (Str.ofString "+" ++ p).length = 1 + p.length := by rw [ylen_app]; rfl
  simp only [HT.sIx, h1]
  simp
  rw [show (Str.ofString "+").cps.toList = [43] by decide +kernel]
  show List.take p.length p.cps.toList = _
  exact List.take_of_length_le (Nat.le_of_eq (Array.length_toList (xs := p.cps)))
end DL

/-! DLn: enumerate of a list or a tuple; try .. except X (no name). -/
namespace DL
open PySem PySem.Spec PyProof.Rows L2 Evl
/-! ### enumerate(v) -/
set_option maxHeartbeats 1000000 in
theorem meets_enum1 {v : Value} {o : Obj} {H : Heap → Prop} (B : Begins v o H) :
    Meets (Builtin.«enumerate.__new__» ⟨[.type "enumerate", v], []⟩) (fun _ R s => H s.heap ∧
      R (.ok (.ret (.ref (s.heap.push o).objs.size))) { s with heap := (s.heap.push o).push { cls := .type "enumerate", data := .fields #[.none, .bool false, .ref s.heap.objs.size, rawInt 0, .none, .none] } }) :=
  .of_wp fun prog w A R s h => by
    obtain ⟨hp, g, d, tk, os⟩ := s; obtain ⟨h1, h⟩ := h
    have hsub := sub_enumerate
    have q1 : ∀ {A' : Around} {E : Value → Shared → Prop} {Q : Value → Shared → Prop}, Q (.ref hp.objs.size) ⟨hp.push o, g, d, tk, os⟩ → wpAny (model prog w) A' (pyIter v) Q E ⟨hp, g, d, tk, os⟩ :=
      fun q => B.iter prog w _ _ ⟨hp, g, d, tk, os⟩ _ h1 q
    wp_walk using q1
    refine wpAny_stack_any fun st => wpAny_pure ?_
    split
    · rename_i c _ _ _ _ _
      cases (c == Value.type "enumerate")
      · wp_walk using q1
        exact ⟨_, rfl, h⟩
      · wp_walk using q1
        exact ⟨_, rfl, h⟩
    · wp_walk using q1
      exact ⟨_, rfl, h⟩
section
variable {prog : Program} {w : World} {A : Around} {E : Value → Shared → Prop} {s : Shared}
theorem enum_begins1 {v : Value} {o : Obj} {H : Heap → Prop} {Q : Value → Shared → Prop} (B : Begins v o H) (h1 : H s.heap)
    (h : ∀ h', IsEnum h' (s.heap.objs.size + 1) s.heap.objs.size 0 .none → h'.get? s.heap.objs.size = some o → h'.objs.size = s.heap.objs.size + 2 →
      (∀ b o, s.heap.get? b = some o → h'.get? b = some o) → Q (.ref (s.heap.objs.size + 1)) { s with heap := h' }) :
    wpAny (model prog w) A (call (.type "enumerate") [v]) Q E s := by
  refine callType_new F.called_enumerate (by decide) (F.typeCall_enumerate_1 _) (F.newCall_enumerate_1 _) (fun obj => F.args_object_init_2 obj _) F.entry_enumerate_new
    (meets_enum1 B) ⟨h1, ?_⟩
  have hz : (s.heap.push o).objs.size = s.heap.objs.size + 1 := Heap.size_push ..
  show _ ∧ _
  rw [hz]
  have he : IsEnum ((s.heap.push o).push { cls := .type "enumerate", data := .fields #[.none, .bool false, .ref s.heap.objs.size, rawInt 0, .none, .none] }) (s.heap.objs.size + 1) s.heap.objs.size 0 .none := by
    have := Heap.get?_push_size (s.heap.push o) (o := { cls := .type "enumerate", data := .fields #[.none, .bool false, .ref s.heap.objs.size, rawInt 0, .none, .none] }) rfl
    rw [hz] at this; exact this
  refine ⟨⟨_, he, rfl⟩, h _ he (Heap.get?_push_of_some _ (Heap.get?_push_size _ B.free)) (by rw [Heap.size_push, hz]) fun b o x => Heap.get?_push_of_some _ (Heap.get?_push_of_some _ x)⟩
end
/-- the tuple at a as it stands at each turn, each item in a new pair -/
def IteT (K : PySem.W.Frag) (a : Addr) : It :=
  ⟨fun i H => ∃ (xs : List V) (x : V), SqT K H a xs ∧ xs[i]? = some x, fun i H v H' => ∃ T x, v = .ref T ∧ H T = none ∧ H' = upd H T (.tup [.int (i : Nat), x]) ∧ ∀ xs, SqT K H a xs → xs[i]? = some x, fun i H => ∃ xs : List V, SqT K H a xs ∧ xs.length ≤ i⟩
theorem ne_cls {h : Heap} {a b : Addr} {o o' : Obj} (x : h.get? a = some o) (y : h.get? b = some o') (n : o.cls ≠ o'.cls) : a ≠ b := fun e => by
  subst e; rw [x] at y; cases y; exact n rfl
theorem turn_enumT {P : Program} {w : World} {K : PySem.W.Frag} {elts : List Expr} {kk : Nat} {tpos : Pos} (a e it : Addr) :
    Turn P w K (.Tuple elts kk tpos) (IteT K a) [e, it] e (fun i h => (∃ old, IsEnum h e it ((i : Nat) : Int) old) ∧ h.IsTupleIter it a i ∧ e ≠ it) where
  mem := by simp
  obj := fun i h st b hb => by
    obtain ⟨⟨old, he⟩, ⟨o, ho, hc, hd⟩, _⟩ := st
    have e' : b = e ∨ b = it := by simpa using hb
    rcases e' with z | z
    · rw [z]; exact ⟨_, he, fun v q => nomatch q⟩
    · rw [z]; exact ⟨o, ho, fun v q => by rw [hd] at q; cases q⟩
  keep := fun i h h' st k => let ⟨⟨old, he⟩, hi, hne⟩ := st; ⟨⟨old, k e (by simp) _ he⟩, hi.at fun o q => k it (by simp) o q, hne⟩
  item := by
    intro X hP hw hK hc i pins s σ H E I hf st hg
    subst hP hw hK
    obtain ⟨⟨old, he⟩, hit, hne⟩ := st
    obtain ⟨xs, x, hq, hx⟩ := hg
    obtain ⟨its, rv, p, hz⟩ := I.tuple hq
    obtain ⟨u, hu, ru⟩ := rv.get hx
    have hel : e < s.heap.objs.size := Heap.lt_size he
    have hil : it < s.heap.objs.size := by obtain ⟨_, q, _⟩ := hit; exact Heap.lt_size q
    have p : s.heap.IsTuple a its.toArray := p
    have nea : e ≠ a := by
      obtain ⟨o, ho, hcl, _⟩ := id p
      exact ne_cls he ho (by rw [hcl]; exact fun z => by injection z with z; revert z; decide)
    have nia : a ≠ it := by
      obtain ⟨o, ho, hcl, _⟩ := id p
      obtain ⟨o', ho', hcl', _⟩ := id hit
      exact ne_cls ho ho' (by rw [hcl, hcl']; exact fun z => by injection z with z; revert z; decide)
    have D := Draws.tuple (prog := X.prog) (w := X.w) (A := X.A.in1) (show X.A.in1.handled = none from I.ok.hd hc) it a nia its.toArray
    have hlt : i < its.toArray.size := by
      have := (List.getElem?_eq_some_iff.mp hu).1; simpa using this
    refine wpAny_pyNext_enum_itemD D he ⟨hit, p⟩ hlt hne (by simp [hne, nea]) fun x' h' tk hx' ho hit' hT hsz hk => ?_
    have ex : x' = u := by
      have h1 : its.toArray[i]? = some u := by simpa using hu
      rw [h1] at hx'; exact (Option.some.inj hx').symm
    subst ex
    refine ⟨_, rfl, wpAny_letOwnedTupleGo_enum (s := { s with heap := h', toks := tk + 1 }) ho fun h'' he' sb => ?_⟩
    have hT2 : h''.get? s.heap.objs.size = some { cls := .type "tuple", data := .seq #[.int i tk, x'] } := (sb.2 _ (Nat.ne_of_gt hel)).trans hT
    have new : ObjOk X.prog X.w (upd H s.heap.objs.size (.tup [.int (i : Nat), x])) h'' s.heap.objs.size (.tup [.int (i : Nat), x]) :=
      ⟨by show 2 ≤ sizeLine; decide, [.int i tk, x'], .cons ⟨_, rfl⟩ (.cons ru .nil), ⟨_, hT2, rfl, _, rfl⟩⟩
    have I1 : Inv X pins σ (upd H s.heap.objs.size (.tup [.int (i : Nat), x])) { s with heap := h'', toks := tk + 1 } :=
      I.turnedNew (ch := [e, it]) (fun b ob hb q => (sb.2 b (fun z => hb (by simp [z]))).trans (hk b ob (fun z => hb (by simp [z])) (fun z => hb (by simp [z])) q)) hf (Nat.le_refl _) new
    refine ⟨.ref s.heap.objs.size, _, I1, rfl, ⟨_, x, rfl, I.hok.fresh (Nat.le_refl _), rfl, fun ys hy => by rw [I.tuple_inj hy hq]; exact hx⟩, ⟨⟨x', ?_⟩, hit'.1.at fun o q => (sb.2 it (Ne.symm hne)).trans q, hne⟩, fun b hb => ?_⟩
    · have e1 : ((i + 1 : Nat) : Int) = (i : Int) + 1 := by omega
      rw [e1]; exact he'
    · have hb' : b < s.heap.objs.size := by
        have e' : b = e ∨ b = it := by simpa using hb
        rcases e' with z | z
        · rw [z]; exact hel
        · rw [z]; exact hil
      rw [upd_ne (Nat.ne_of_lt hb')]
      exact (hf b hb).1
  done := by
    intro X hP hw hK hc i pins s σ H E I hf st hg
    subst hP hw hK
    obtain ⟨⟨old, he⟩, hit, hne⟩ := st
    obtain ⟨xs, hq, hx⟩ := hg
    obtain ⟨its, rv, p, hz⟩ := I.tuple hq
    obtain ⟨f0, f1, f2, f3, f4, f5⟩ := hf it (by simp)
    have hl := rv.length
    have p : s.heap.IsTuple a its.toArray := p
    have nia : a ≠ it := by
      obtain ⟨o, ho, hcl, _⟩ := id p
      obtain ⟨o', ho', hcl', _⟩ := id hit
      exact ne_cls ho ho' (by rw [hcl, hcl']; exact fun z => by injection z with z; revert z; decide)
    have hT : s.TypeIs (.ref e) "enumerate" := ⟨_, he, rfl⟩
    unfold pyNext
    refine wpAny_bind (wpAny_attempt (wpAny_callSpecial?_slot (name := Str.ofString "__next__") hT F.slot_enumerate_next
      (wpAny_call_entry F.slot_enumerate_next hT F.entry_enumerate_next ?_ (F.args_enumerate_next_1 _))))
    show wpAny _ _ (field (.ref e) 2 >>= _) _ _ _
    refine wpAny_bind (wpAny_field he rfl (x := .ref it) rfl ?_)
    refine wpAny_bind (wpAny_nextOf_tuple_end (show X.A.in1.handled = none from I.ok.hd hc) hit p (by simp; omega) fun h' x he' hx' => ?_)
    obtain ⟨o, ho, hcl⟩ := hx'
    refine wpAny_bind (wpAny_isInstance (T := "StopIteration") (b := true) ⟨o, ho, hcl⟩ isSubtype_stop ?_)
    exact wpAny_pure ⟨rfl, I.turned (t' := s.toks) (fun b o hb q => he' b o hb q) f0 f1 f3 f4 f5⟩
  self := fun A i s Q E st h => let ⟨⟨_, he⟩, _⟩ := st; wpAny_pyIter_enum he h
def iEnumA (K : PySem.W.Frag) (ta : TA) : TI := fun σ H R => ta σ H fun vs H1 => ∃ a xs, vs = [.ref a] ∧ ((SqL K H1 a xs ∧ R (Ite K a) H1) ∨ (SqT K H1 a xs ∧ R (IteT K a) H1))
theorem pi_enumA {X : Cx} {e : Expr} {ta : TA} {p pos tpos : Pos} {elts : List Expr} {kk : Nat} (hg : Gl X "enumerate") (hm : X.mg "enumerate" = none) (ha : PA X [e] ta) (hs : starEach [e] X.env = [(false, eval e X.env)] := by rfl) :
    PI X (.Tuple elts kk tpos) (.Call (.Name "enumerate" p) [e] [] pos) (iEnumA X.K ta) := by
  refine ⟨fun pins s σ H R I h => ?_⟩
  refine Call_ (ld_blt I hg hm boot_enumerate (PyProof.Rows.callWith_type1 (thn (ha.run pos pins s σ H _ I h) fun us s1 ⟨vs, H1, I1, r1, q1⟩ => ?_) hs rfl))
  obtain ⟨a, xs, ex, q1⟩ := q1
  subst ex
  cases r1 with
  | cons r rr =>
    cases rr
    cases r
    have fp : ∀ b, b ∈ [s1.heap.objs.size + 1, s1.heap.objs.size] → FpOk X pins H1 b := fun b hb => by
      have e' : b = s1.heap.objs.size + 1 ∨ b = s1.heap.objs.size := by simpa using hb
      have hle : s1.heap.objs.size ≤ b := by
        rcases e' with z | z
        · rw [z]; exact Nat.le_add_right _ _
        · rw [z]; exact Nat.le_refl _
      exact I1.fpOk hle (I1.hok.fresh hle)
    rcases q1 with ⟨hq, q⟩ | ⟨hq, q⟩
    · obtain ⟨its, rv, p', hz⟩ := I1.list hq
      refine call_enumerate_list p'.isList fun h' he hit hsz hk => wpAny_pyIter_enum he ?_
      have I2 : Inv X pins σ H1 { s1 with heap := h' } := I1.kept (t' := s1.toks) hk
      exact ⟨s1.heap.objs.size + 1, [s1.heap.objs.size + 1, s1.heap.objs.size], _, _, H1, rfl, I2, turn_enum a (s1.heap.objs.size + 1) s1.heap.objs.size, ⟨⟨.none, he⟩, hit, Nat.succ_ne_self _⟩, fp, q⟩
    · obtain ⟨its, rv, p', hz⟩ := I1.tuple hq
      have p' : s1.heap.IsTuple a its.toArray := p'
      refine enum_begins1 (begins_tuple a its.toArray) p' fun h' he hit hsz hk => wpAny_pyIter_enum he ?_
      have I2 : Inv X pins σ H1 { s1 with heap := h' } := I1.kept (t' := s1.toks) hk
      exact ⟨s1.heap.objs.size + 1, [s1.heap.objs.size + 1, s1.heap.objs.size], _, _, H1, rfl, I2, turn_enumT a (s1.heap.objs.size + 1) s1.heap.objs.size, ⟨⟨.none, he⟩, ⟨_, hit, rfl, rfl⟩, Nat.succ_ne_self _⟩, fp, q⟩
section
variable {X : Cx} {W : WX} {a b c e : Expr} {es : List Expr} {fa fb fc : M D} {pos : Pos} {f : M (List D)} {N : List Str} {sc raw : Scope}
def enD (l : List D) : List D := (List.range l.length).map fun k => .tup [.int (k : Nat), l.getD k .non]
theorem enD_at {l : List D} {i : Nat} {d : D} (h : (enD l)[i]? = some d) : ∃ x, l[i]? = some x ∧ d = .tup [.int (i : Nat), x] := by
  unfold enD at h
  rw [List.getElem?_map] at h
  have hi : i < l.length := by
    cases q : (List.range l.length)[i]? with
    | none => rw [q] at h; cases h
    | some k => have := (List.getElem?_eq_some_iff.mp q).1; simpa using this
  rw [List.getElem?_range hi] at h
  cases h
  refine ⟨l[i], List.getElem?_eq_getElem hi, ?_⟩
  dsimp only
  rw [List.getD_eq_getElem?_getD, List.getElem?_eq_getElem hi]; rfl
theorem enD_len {l : List D} : (enD l).length = l.length := by unfold enD; rw [List.length_map, List.length_range]
theorem itok_enL {K : PySem.W.Frag} {mg : MG} {Hf : Hp} {a : Addr} {xs : List L2.V} {l : List D} (hx : SqL K Hf a xs) (rx : Rps K mg Hf xs l) : ItOk K mg Hf (Ite K a) (enD l) where
  go := fun i d hd ps σ env Hf2 H2 x S => by
    obtain ⟨dx, h1, rfl⟩ := enD_at hd
    obtain ⟨u, hu, ru⟩ := rx.get h1
    have qx := ex_l S.ex (ex_l x hx)
    refine ⟨⟨xs, u, qx, hu⟩, fun v H3 yl => ?_⟩
    obtain ⟨T, x', rfl, nT, rfl, k1⟩ := yl
    have e1 := k1 xs qx
    rw [hu] at e1; cases e1
    have nf := fresh_back S.ex nT
    exact ⟨_, Ex.new nf, S.froze nT, .tup (.inl (.inl upd_same)) (.cons (.int _) (.cons ((ru.mono x).mono (Ex.new nf)) .nil))⟩
  stop := fun i hi ps σ env Hf2 H2 x S => by
    rw [enD_len] at hi
    exact ⟨xs, ex_l S.ex (ex_l x hx), by rw [rx.length]; exact hi⟩
theorem itok_enT {K : PySem.W.Frag} {mg : MG} {Hf : Hp} {a : Addr} {xs : List L2.V} {l : List D} (hx : SqT K Hf a xs) (rx : Rps K mg Hf xs l) : ItOk K mg Hf (IteT K a) (enD l) where
  go := fun i d hd ps σ env Hf2 H2 x S => by
    obtain ⟨dx, h1, rfl⟩ := enD_at hd
    obtain ⟨u, hu, ru⟩ := rx.get h1
    have qx := ex_t S.ex (ex_t x hx)
    refine ⟨⟨xs, u, qx, hu⟩, fun v H3 yl => ?_⟩
    obtain ⟨T, x', rfl, nT, rfl, k1⟩ := yl
    have e1 := k1 xs qx
    rw [hu] at e1; cases e1
    have nf := fresh_back S.ex nT
    exact ⟨_, Ex.new nf, S.froze nT, .tup (.inl (.inl upd_same)) (.cons (.int _) (.cons ((ru.mono x).mono (Ex.new nf)) .nil))⟩
  stop := fun i hi ps σ env Hf2 H2 x S => by
    rw [enD_len] at hi
    exact ⟨xs, ex_t S.ex (ex_t x hx), by rw [rx.length]; exact hi⟩
/-- what a list or a tuple holds -/
def itemsD : D → Option (List D) | .lst l => some l | .tup l => some l | _ => none
def enO (o : Option (List D)) : M (List D) := match o with | some l => ret (enD l) | none => stk
def mEnu (f : M (List D)) : M (List D) := bnd f fun ds => match ds with | [x] => enO (itemsD x) | _ => stk
theorem ji_enum {p tpos : Pos} {elts : List Expr} {kk : Nat} (V : Nm X N sc raw) (hG : okG sc "enumerate" = true) (hm : X.mg "enumerate" = none) (ja : JA X W [a] f) (hs : starEach [a] X.env = [(false, eval a X.env)] := by rfl) :
    JI X W (.Tuple elts kk tpos) (.Call (.Name "enumerate" p) [a] [] pos) (mEnu f) := by
  have hg := (V.g hG).1
  obtain ⟨t, q, h⟩ := ja.ex
  refine ⟨⟨_, pi_enumA hg hm q hs, fun ps σ Hf H env S R z => ?_⟩⟩
  refine h ps σ Hf H env S _ (EG.bnd z fun ds e1 Hf1 H1 x1 S1 h1 vs r => ?_)
  split at h1
  · rename_i d
    cases r with
    | cons r1 r2 =>
      cases r2
      cases r1 with
      | lst hx rx => exact ⟨_, _, rfl, .inl ⟨ex_l S1.ex hx, h1.ret S1 _ (itok_enL hx rx)⟩⟩
      | tup hx rx => exact ⟨_, _, rfl, .inr ⟨ex_t S1.ex hx, h1.ret S1 _ (itok_enT hx rx)⟩⟩
      | _ => exact h1.elim
  · exact h1.elim
end
/-! ### zip(v, u), lists and tuples mixed -/
def SqB (K : PySem.W.Frag) (H : Hp) (k : Bool) (a : Addr) (xs : List V) : Prop := match k with | true => SqL K H a xs | false => SqT K H a xs
def ItrB (h : Heap) (k : Bool) (it a : Addr) (i : Nat) : Prop := match k with | true => h.IsListIter it a i | false => h.IsTupleIter it a i
def IsB (h : Heap) (k : Bool) (a : Addr) (its : Array Value) : Prop := match k with | true => h.IsList a its | false => h.IsTuple a its
def oIt (k : Bool) (a : Addr) : Obj := match k with | true => { cls := .type "list_iterator", data := .fields #[.ref a, .int 0 0] } | false => { cls := .type "tuple_iterator", data := .fields #[.ref a, .int 0 0] }
theorem begins_B (k : Bool) (a : Addr) (its : Array Value) : Begins (.ref a) (oIt k a) fun h => IsB h k a its := match k with
  | true => begins_list a its
  | false => begins_tuple a its
theorem itrB_at {h h' : Heap} {k : Bool} {it a : Addr} {i : Nat} (x : ItrB h k it a i) (f : ∀ o, h.get? it = some o → h'.get? it = some o) : ItrB h' k it a i := match k, x with
  | true, x => Heap.IsListIter.at x f
  | false, x => Heap.IsTupleIter.at x f
theorem itrB_obj {h : Heap} {k : Bool} {it a : Addr} {i : Nat} (x : ItrB h k it a i) : ∃ o, h.get? it = some o ∧ (o.cls = .type "list_iterator" ∨ o.cls = .type "tuple_iterator") ∧ ∀ v, o.data ≠ .cell v := match k, x with
  | true, ⟨o, e, c, d⟩ => ⟨o, e, .inl c, fun v q => by rw [d] at q; cases q⟩
  | false, ⟨o, e, c, d⟩ => ⟨o, e, .inr c, fun v q => by rw [d] at q; cases q⟩
theorem isB_obj {h : Heap} {k : Bool} {a : Addr} {its : Array Value} (x : IsB h k a its) : ∃ o, h.get? a = some o ∧ (o.cls = .type "list" ∨ o.cls = .type "tuple") := match k, x with
  | true, ⟨o, e, c, d⟩ => ⟨o, e, .inl c⟩
  | false, ⟨o, e, c, d⟩ => ⟨o, e, .inr c⟩
theorem isB_at {h h' : Heap} {k : Bool} {a : Addr} {its : Array Value} (x : IsB h k a its) (f : ∀ o, h.get? a = some o → h'.get? a = some o) : IsB h' k a its := match k, x with
  | true, x => Heap.IsList.at x f
  | false, x => Heap.IsTuple.at x f
theorem drawsB {prog : Program} {w : World} {A : Around} (hh : A.handled = none) (k : Bool) (it a : Addr) (hne : a ≠ it) (items : Array Value) :
    Draws prog w A it [it, a] items.size (fun i v => items[i]? = some v) (fun i h => ItrB h k it a i ∧ IsB h k a items) := match k with
  | true => Draws.list hh it a hne items
  | false => Draws.tuple hh it a hne items
theorem endB {prog : Program} {w : World} {A : Around} {s : Shared} {Q : Value → Shared → Prop} {E : Value → Shared → Prop} (hh : A.handled = none) {k : Bool} {it a : Addr} {i : Nat} {items : Array Value} (h1 : ItrB s.heap k it a i) (h2 : IsB s.heap k a items) (hx : items[i]? = none)
    (hE : ∀ h' e, Heap.ExtBut it s.heap h' → (∃ o, h'.get? e = some o ∧ o.cls = .type "StopIteration") → E (.ref e) { s with heap := h' }) : wpAny (model prog w) A (Builtin.SmallTypes.nextOf (.ref it)) Q E s := match k, h1, h2 with
  | true, h1, h2 => wpAny_nextOf_list_end hh h1 h2 hx hE
  | false, h1, h2 => wpAny_nextOf_tuple_end hh h1 h2 hx hE
theorem drawsEnd {prog : Program} {w : World} {A : Around} {s : Shared} (hh : A.handled = none) {k : Bool} {it a : Addr} (hne : a ≠ it) {i : Nat} {items : Array Value} (h1 : ItrB s.heap k it a i) (h2 : IsB s.heap k a items) :
    ∃ n P St, Draws prog w A it [it, a] n P St ∧ St i s.heap ∧ i ≤ n ∧ (items.size ≤ i → i = n) := by
  by_cases hs : items.size ≤ i
  · refine ⟨i, fun _ _ => False, fun j h => j = i ∧ ItrB h k it a i ∧ IsB h k a items, ⟨fun j h st => ?_, fun j h h' st hk => ⟨st.1, itrB_at st.2.1 fun o e => hk it (by simp) o e, isB_at st.2.2 fun o e => hk a (by simp) o e⟩, fun j s Q E hj st => ?_, fun s Q E st hE => ?_⟩, ⟨rfl, h1, h2⟩, Nat.le_refl _, fun _ => rfl⟩
    · obtain ⟨o, e, _⟩ := itrB_obj st.2.1; exact ⟨o, e⟩
    · exact absurd st.1 (Nat.ne_of_lt hj)
    · exact endB hh st.2.1 st.2.2 (by simp; exact hs) hE
  · exact ⟨_, _, _, drawsB hh k it a hne items, ⟨h1, h2⟩, by omega, fun q => absurd q hs⟩
/-- the sequences at a and b as they stand at each turn, the items in new pairs -/
def ItzB (K : PySem.W.Frag) (ka kb : Bool) (a b : Addr) : It :=
  ⟨fun i H => ∃ (xs ys : List V) (x y : V), SqB K H ka a xs ∧ SqB K H kb b ys ∧ xs[i]? = some x ∧ ys[i]? = some y,
    fun i H v H' => ∃ T x y, v = .ref T ∧ H T = none ∧ H' = upd H T (.tup [x, y]) ∧ (∀ xs, SqB K H ka a xs → xs[i]? = some x) ∧ ∀ ys, SqB K H kb b ys → ys[i]? = some y,
    fun i H => ∃ xs ys : List V, SqB K H ka a xs ∧ SqB K H kb b ys ∧ (xs.length ≤ i ∨ ys.length ≤ i)⟩
theorem inv_B {X : Cx} {pins : List (Addr × Obj)} {σ : L2.St} {H : Hp} {s : Shared} (I : Inv X pins σ H s) {k : Bool} {a : Addr} {xs : List V} (h : SqB X.K H k a xs) : ∃ its : List Value, Vals xs its ∧ IsB s.heap k a its.toArray := match k, h with
  | true, h => by obtain ⟨its, rv, p, _⟩ := I.list h; exact ⟨its, rv, p.isList⟩
  | false, h => by obtain ⟨its, rv, p, _⟩ := I.tuple h; exact ⟨its, rv, p⟩
theorem inv_B_inj {X : Cx} {pins : List (Addr × Obj)} {σ : L2.St} {H : Hp} {s : Shared} (I : Inv X pins σ H s) {k : Bool} {a : Addr} {xs ys : List V} (h : SqB X.K H k a xs) (h' : SqB X.K H k a ys) : xs = ys := match k, h, h' with
  | true, h, h' => I.list_inj h h'
  | false, h, h' => I.tuple_inj h h'
theorem itB_ne {h : Heap} {k : Bool} {it a : Addr} {i : Nat} {k' : Bool} {its : Array Value} (x : ItrB h k it a i) {b : Addr} (y : IsB h k' b its) : b ≠ it := by
  obtain ⟨o, e, c, _⟩ := itrB_obj x
  obtain ⟨o', e', c'⟩ := isB_obj y
  refine ne_cls e' e fun z => ?_
  rw [z] at c'
  rcases c with c | c <;> rcases c' with c' | c' <;> rw [c] at c' <;> injection c' with c' <;> revert c' <;> decide
structure ZApart (z TI TO i1 i2 : Addr) : Prop where
  TIz : TI ≠ z
  TOz : TO ≠ z
  TITO : TI ≠ TO
  TIi1 : TI ≠ i1
  TIi2 : TI ≠ i2
  zi1 : z ≠ i1
  zi2 : z ≠ i2
  Ti1 : TO ≠ i1
  Ti2 : TO ≠ i2
  i12 : i1 ≠ i2
theorem ZApart.sep {z TI TO i1 i2 a b : Addr} (D : ZApart z TI TO i1 i2) (h1 : z ≠ a) (h2 : TO ≠ a) (h3 : z ≠ b) (h4 : TO ≠ b) (h5 : i1 ≠ b) (h6 : i2 ≠ a) : ZipSep2 z TI TO i1 i2 [i1, a] [i2, b] :=
  ⟨D.TIz, D.TOz, D.TITO, D.TIi1, by simp, by simp [D.zi1, h1], by simp [D.Ti1, h2], D.TIi2, by simp, by simp [D.zi2, h3], by simp [D.Ti2, h4], by simp [D.i12, h5], by simp [Ne.symm D.i12, h6]⟩
theorem turn_zipB {P : Program} {w : World} {K : PySem.W.Frag} {elts : List Expr} {kk : Nat} {tpos : Pos} {ka kb : Bool} {a b z TI TO i1 i2 : Addr} (D : ZApart z TI TO i1 i2) (lt : TO ≠ a ∧ TO ≠ b) :
    Turn P w K (.Tuple elts kk tpos) (ItzB K ka kb a b) [z, TI, TO, i1, i2] z (fun i h => IsZip h z TI TO .none ∧ IsTupOf2 h TI (.ref i1) (.ref i2) ∧ (∃ x y, IsTupOf2 h TO x y) ∧ ItrB h ka i1 a i ∧ ItrB h kb i2 b i) where
  mem := by simp
  obj := fun i h st c hc => by
    obtain ⟨hz, hTI, ⟨x, y, hTO⟩, q1, q2⟩ := st
    obtain ⟨o1, e1, _, d1⟩ := itrB_obj q1
    obtain ⟨o2, e2, _, d2⟩ := itrB_obj q2
    have e' : c = z ∨ c = TI ∨ c = TO ∨ c = i1 ∨ c = i2 := by simpa using hc
    rcases e' with q | q | q | q | q
    · rw [q]; exact ⟨_, hz, fun v q => nomatch q⟩
    · rw [q]; exact ⟨_, hTI, fun v q => nomatch q⟩
    · rw [q]; exact ⟨_, hTO, fun v q => nomatch q⟩
    · rw [q]; exact ⟨o1, e1, d1⟩
    · rw [q]; exact ⟨o2, e2, d2⟩
  keep := fun i h h' st k => by
    obtain ⟨hz, hTI, ⟨x, y, hTO⟩, h1, h2⟩ := st
    exact ⟨k z (by simp) _ hz, k TI (by simp) _ hTI, ⟨x, y, k TO (by simp) _ hTO⟩, itrB_at h1 fun o q => k i1 (by simp) o q, itrB_at h2 fun o q => k i2 (by simp) o q⟩
  item := by
    intro X hP hw hK hc i pins s σ H E I hf st hg
    subst hP hw hK
    obtain ⟨hz, hTI, ⟨x0, y0, hTO⟩, h1, h2⟩ := st
    obtain ⟨xs, ys, x, y, hqx, hqy, hx, hy⟩ := hg
    obtain ⟨its, rv, p⟩ := inv_B I hqx
    obtain ⟨its2, rv2, p2⟩ := inv_B I hqy
    obtain ⟨u, hu, ru⟩ := rv.get hx
    obtain ⟨u2, hu2, ru2⟩ := rv2.get hy
    have hzl : z < s.heap.objs.size := Heap.lt_size hz
    have nz : ∀ {k' : Bool} {c : Addr} {js : Array Value}, IsB s.heap k' c js → z ≠ c := fun y => by
      obtain ⟨o, e, c⟩ := isB_obj y
      refine ne_cls hz e fun q => ?_
      rcases c with c | c <;> rw [c] at q <;> injection q with q <;> revert q <;> decide
    have S := D.sep (a := a) (b := b) (nz p) lt.1 (nz p2) lt.2 (Ne.symm (itB_ne h1 p2)) (Ne.symm (itB_ne h2 p))
    have D1 := drawsB (prog := X.prog) (w := X.w) (A := X.A.in1) (show X.A.in1.handled = none from I.ok.hd hc) ka i1 a (itB_ne h1 p) its.toArray
    have D2 := drawsB (prog := X.prog) (w := X.w) (A := X.A.in1) (show X.A.in1.handled = none from I.ok.hd hc) kb i2 b (itB_ne h2 p2) its2.toArray
    have l1 : i < its.toArray.size := by have := (List.getElem?_eq_some_iff.mp hu).1; simpa using this
    have l2 : i < its2.toArray.size := by have := (List.getElem?_eq_some_iff.mp hu2).1; simpa using this
    refine wpAny_pyNext_zipD2_item S D1 D2 hz hTI hTO ⟨h1, p⟩ ⟨h2, p2⟩ l1 l2 fun x1 x2 h' tk g1 g2 z' TO' h1' h2' hT hsz hk => ?_
    have ex1 : x1 = u := by
      have q : its.toArray[i]? = some u := by simpa using hu
      rw [q] at g1; exact (Option.some.inj g1).symm
    have ex2 : x2 = u2 := by
      have q : its2.toArray[i]? = some u2 := by simpa using hu2
      rw [q] at g2; exact (Option.some.inj g2).symm
    subst ex1 ex2
    refine ⟨_, rfl, wpAny_letOwnedTupleGo_zip (s := { s with heap := h', toks := tk }) z' fun h'' z'' sb => ?_⟩
    have hT2 : h''.get? s.heap.objs.size = some { cls := .type "tuple", data := .seq #[x1, x2] } := (sb.2 _ (Nat.ne_of_gt hzl)).trans hT
    have new : ObjOk X.prog X.w (upd H s.heap.objs.size (.tup [x, y])) h'' s.heap.objs.size (.tup [x, y]) :=
      ⟨by show 2 ≤ sizeLine; decide, [x1, x2], .cons ru (.cons ru2 .nil), ⟨_, hT2, rfl, _, rfl⟩⟩
    have I1 : Inv X pins σ (upd H s.heap.objs.size (.tup [x, y])) { s with heap := h'', toks := tk } :=
      I.turnedNew (ch := [z, TI, TO, i1, i2]) (fun c o hb q => (sb.2 c (fun q' => hb (by simp [q']))).trans (hk c o (fun q' => hb (by simp [q'])) (fun q' => hb (by simp [q'])) (fun q' => hb (by simp [q'])) (fun q' => hb (by simp [q'])) q)) hf (Nat.le_refl _) new
    refine ⟨.ref s.heap.objs.size, _, I1, rfl, ⟨_, x, y, rfl, I.hok.fresh (Nat.le_refl _), rfl, fun l hl => by rw [inv_B_inj I hl hqx]; exact hx, fun l hl => by rw [inv_B_inj I hl hqy]; exact hy⟩, ⟨z'', ?_, ⟨x1, x2, ?_⟩, ?_, ?_⟩, fun c hcm => ?_⟩
    · exact (sb.2 _ D.TIz).trans (hk _ _ D.TIz D.TITO D.TIi1 D.TIi2 hTI)
    · exact (sb.2 _ D.TOz).trans TO'
    · exact itrB_at h1'.1 fun o q => (sb.2 _ (Ne.symm D.zi1)).trans q
    · exact itrB_at h2'.1 fun o q => (sb.2 _ (Ne.symm D.zi2)).trans q
    · have hlt : c < s.heap.objs.size := by
        have e' : c = z ∨ c = TI ∨ c = TO ∨ c = i1 ∨ c = i2 := by simpa using hcm
        rcases e' with q | q | q | q | q
        · rw [q]; exact hzl
        · rw [q]; exact Heap.lt_size hTI
        · rw [q]; exact Heap.lt_size hTO
        · rw [q]; obtain ⟨_, e1, _⟩ := itrB_obj h1; exact Heap.lt_size e1
        · rw [q]; obtain ⟨_, e1, _⟩ := itrB_obj h2; exact Heap.lt_size e1
      rw [upd_ne (Nat.ne_of_lt hlt)]
      exact (hf c hcm).1
  done := by
    intro X hP hw hK hc i pins s σ H E I hf st hg
    subst hP hw hK
    obtain ⟨hz, hTI, ⟨x0, y0, hTO⟩, h1, h2⟩ := st
    obtain ⟨xs, ys, hqx, hqy, hend⟩ := hg
    obtain ⟨its, rv, p⟩ := inv_B I hqx
    obtain ⟨its2, rv2, p2⟩ := inv_B I hqy
    have l1 := rv.length
    have l2 := rv2.length
    have nz : ∀ {k' : Bool} {c : Addr} {js : Array Value}, IsB s.heap k' c js → z ≠ c := fun y => by
      obtain ⟨o, e, c⟩ := isB_obj y
      refine ne_cls hz e fun q => ?_
      rcases c with c | c <;> rw [c] at q <;> injection q with q <;> revert q <;> decide
    have S := D.sep (a := a) (b := b) (nz p) lt.1 (nz p2) lt.2 (Ne.symm (itB_ne h1 p2)) (Ne.symm (itB_ne h2 p))
    obtain ⟨n1, P1, St1, D1, s1, le1, en1⟩ := drawsEnd (prog := X.prog) (w := X.w) (A := X.A.in1) (show X.A.in1.handled = none from I.ok.hd hc) (itB_ne h1 p) h1 p
    obtain ⟨n2, P2, St2, D2, s2, le2, en2⟩ := drawsEnd (prog := X.prog) (w := X.w) (A := X.A.in1) (show X.A.in1.handled = none from I.ok.hd hc) (itB_ne h2 p2) h2 p2
    refine wpAny_pyNext_zipD2_end S D1 D2 hz hTI hTO s1 s2 le1 le2 ?_ fun h' tk hk => ⟨rfl, I.turnedL (t' := tk) (ch := [z, TI, TO, i1, i2]) (fun c o hb q =>
      hk c o (fun q' => hb (by simp [q'])) (fun q' => hb (by simp [q'])) (fun q' => hb (by simp [q'])) (fun q' => hb (by simp [q'])) q) hf⟩
    rcases hend with q | q
    · exact .inl (en1 (by simp; omega))
    · exact .inr (en2 (by simp; omega))
  self := fun A i s Q E st h => wpAny_pyIter_zip st.1 h
def iZipB (K : PySem.W.Frag) (ta : TA) : TI := fun σ H R => ta σ H fun vs H1 => ∃ a b xs ys ka kb, vs = [.ref a, .ref b] ∧ SqB K H1 ka a xs ∧ SqB K H1 kb b ys ∧ R (ItzB K ka kb a b) H1
theorem pi_zipB {X : Cx} {e e2 : Expr} {ta : TA} {p pos tpos : Pos} {elts : List Expr} {kk : Nat} (hg : Gl X "zip") (hm : X.mg "zip" = none) (ha : PA X [e, e2] ta)
    (hs : starEach [e, e2] X.env = (false, eval e X.env) :: starEach [e2] X.env := by rfl) (hpl : (backTo pos (starEach [e2] X.env)).any (·.1) = false := by rfl) :
    PI X (.Tuple elts kk tpos) (.Call (.Name "zip" p) [e, e2] [] pos) (iZipB X.K ta) := by
  refine ⟨fun pins s σ H R I h => ?_⟩
  refine Call_ (ld_blt I hg hm PyProof.Rows.boot_zip (PyProof.Rows.callWith_type1 (thn (ha.run pos pins s σ H _ I h) fun us s1 ⟨vs, H1, I1, r1, q1⟩ => ?_) hs hpl))
  obtain ⟨a, b, xs, ys, ka, kb, ex, hqx, hqy, q⟩ := q1
  subst ex
  cases r1 with
  | cons r rr =>
    cases rr with
    | cons r' rr =>
      cases rr
      cases r
      cases r'
      have fresh5 : ∀ c, c ∈ [s1.heap.objs.size + 4, s1.heap.objs.size + 2, s1.heap.objs.size + 3, s1.heap.objs.size, s1.heap.objs.size + 1] → FpOk X pins H1 c := fun c hcm => by
        have e' : c = s1.heap.objs.size + 4 ∨ c = s1.heap.objs.size + 2 ∨ c = s1.heap.objs.size + 3 ∨ c = s1.heap.objs.size ∨ c = s1.heap.objs.size + 1 := by simpa using hcm
        have hle : s1.heap.objs.size ≤ c := by
          rcases e' with z | z | z | z | z
          · rw [z]; exact Nat.le_add_right _ _
          · rw [z]; exact Nat.le_add_right _ _
          · rw [z]; exact Nat.le_add_right _ _
          · rw [z]; exact Nat.le_refl _
          · rw [z]; exact Nat.le_add_right _ _
        exact I1.fpOk hle (I1.hok.fresh hle)
      obtain ⟨its, rv, p1⟩ := inv_B I1 hqx
      obtain ⟨its2, rv2, p2⟩ := inv_B I1 hqy
      obtain ⟨o1, ho1, _⟩ := isB_obj p1
      obtain ⟨o2, ho2, _⟩ := isB_obj p2
      have la : (a : Nat) < s1.heap.objs.size := Heap.lt_size ho1
      have lb : (b : Nat) < s1.heap.objs.size := Heap.lt_size ho2
      refine zip_begins2 (begins_B ka a its.toArray) (begins_B kb b its2.toArray) p1 p2 fun h' hz hTI hTO h1 h2 hsz hk => wpAny_pyIter_zip hz ?_
      have I2 : Inv X pins σ H1 { s1 with heap := h' } := I1.kept (t' := s1.toks) hk
      generalize hN : s1.heap.objs.size = N at *
      have AP : ZApart (N + 4) (N + 2) (N + 3) N (N + 1) := ⟨show (N + 2 : Nat) ≠ N + 4 by omega, show (N + 3 : Nat) ≠ N + 4 by omega, show (N + 2 : Nat) ≠ N + 3 by omega, show (N + 2 : Nat) ≠ N by omega, show (N + 2 : Nat) ≠ N + 1 by omega, show (N + 4 : Nat) ≠ N by omega, show (N + 4 : Nat) ≠ N + 1 by omega, show (N + 3 : Nat) ≠ N by omega, show (N + 3 : Nat) ≠ N + 1 by omega, show (N : Nat) ≠ N + 1 by omega⟩
      have i1 : ItrB h' ka N a 0 := match ka, h1 with
        | true, h1 => ⟨_, h1, rfl, rfl⟩
        | false, h1 => ⟨_, h1, rfl, rfl⟩
      have i2 : ItrB h' kb (N + 1) b 0 := match kb, h2 with
        | true, h2 => ⟨_, h2, rfl, rfl⟩
        | false, h2 => ⟨_, h2, rfl, rfl⟩
      exact ⟨N + 4, [N + 4, N + 2, N + 3, N, N + 1], _, _, H1, rfl, I2, turn_zipB AP ⟨Nat.ne_of_gt (Nat.lt_of_lt_of_le la (Nat.le_add_right _ _)), Nat.ne_of_gt (Nat.lt_of_lt_of_le lb (Nat.le_add_right _ _))⟩, ⟨hz, hTI, ⟨_, _, hTO⟩, i1, i2⟩, fresh5, q⟩
section
variable {X : Cx} {W : WX} {a b c e : Expr} {es : List Expr} {fa fb fc : M D} {pos : Pos} {f : M (List D)} {N : List Str} {sc raw : Scope}
theorem sqB_ex {K : PySem.W.Frag} {H H' : Hp} {k : Bool} {a : Addr} {xs : List L2.V} (x : Ex H H') (h : SqB K H k a xs) : SqB K H' k a xs := match k, h with
  | true, h => ex_l x h
  | false, h => ex_t x h
theorem itok_zipB {K : PySem.W.Frag} {mg : MG} {Hf : Hp} {ka kb : Bool} {a b : Addr} {xs ys : List L2.V} {l m : List D} (hx : SqB K Hf ka a xs) (rx : Rps K mg Hf xs l) (hy : SqB K Hf kb b ys) (ry : Rps K mg Hf ys m) : ItOk K mg Hf (ItzB K ka kb a b) (zipD l m) where
  go := fun i d hd ps σ env Hf2 H2 x S => by
    obtain ⟨dx, dy, h1, h2, rfl⟩ := zipD_at hd
    obtain ⟨u, hu, ru⟩ := rx.get h1
    obtain ⟨w, hw, rw'⟩ := ry.get h2
    have qx := sqB_ex S.ex (sqB_ex x hx)
    have qy := sqB_ex S.ex (sqB_ex x hy)
    refine ⟨⟨xs, ys, u, w, qx, qy, hu, hw⟩, fun v H3 yl => ?_⟩
    obtain ⟨T, x', y', rfl, nT, rfl, k1, k2⟩ := yl
    have e1 := k1 xs qx
    have e2 := k2 ys qy
    rw [hu] at e1; cases e1
    rw [hw] at e2; cases e2
    have nf := fresh_back S.ex nT
    exact ⟨_, Ex.new nf, S.froze nT, .tup (.inl (.inl upd_same)) (.cons ((ru.mono x).mono (Ex.new nf)) (.cons ((rw'.mono x).mono (Ex.new nf)) .nil))⟩
  stop := fun i hi ps σ env Hf2 H2 x S => by
    rw [zipD_len] at hi
    refine ⟨xs, ys, sqB_ex S.ex (sqB_ex x hx), sqB_ex S.ex (sqB_ex x hy), ?_⟩
    rw [rx.length, ry.length]
    omega
theorem rp_items {K : PySem.W.Frag} {mg : MG} {H : Hp} {v : L2.V} {d : D} {l : List D} (r : Rp K mg H v d) (h : itemsD d = some l) : ∃ k a xs, v = .ref a ∧ SqB K H k a xs ∧ Rps K mg H xs l := by
  cases r with
  | lst hq r => cases h; exact ⟨true, _, _, rfl, hq, r⟩
  | tup hq r => cases h; exact ⟨false, _, _, rfl, hq, r⟩
  | _ => cases h
def zip2 (o o' : Option (List D)) : M (List D) := match o, o' with | some l, some m => ret (zipD l m) | _, _ => stk
def mZipM (f : M (List D)) : M (List D) := bnd f fun ds => match ds with | [x, y] => zip2 (itemsD x) (itemsD y) | _ => stk
theorem ji_zipM {p tpos : Pos} {elts : List Expr} {kk : Nat} (V : Nm X N sc raw) (hG : okG sc "zip" = true) (hm : X.mg "zip" = none) (ja : JA X W [a, b] f) (hs : starEach [a, b] X.env = (false, eval a X.env) :: starEach [b] X.env := by rfl) (hpl : (backTo pos (starEach [b] X.env)).any (·.1) = false := by rfl) :
    JI X W (.Tuple elts kk tpos) (.Call (.Name "zip" p) [a, b] [] pos) (mZipM f) := by
  have hg := (V.g hG).1
  obtain ⟨t, q, h⟩ := ja.ex
  refine ⟨⟨_, pi_zipB hg hm q hs hpl, fun ps σ Hf H env S R z => ?_⟩⟩
  refine h ps σ Hf H env S _ (EG.bnd z fun ds e1 Hf1 H1 x1 S1 h1 vs r => ?_)
  split at h1
  · rename_i dx dy
    cases r with
    | cons r1 r2 => cases r2 with
      | cons r3 r4 =>
        cases r4
        cases w1 : itemsD dx with
        | none => rw [w1] at h1; exact h1.elim
        | some l =>
          cases w2 : itemsD dy with
          | none => rw [w1, w2] at h1; exact h1.elim
          | some m =>
            rw [w1, w2] at h1
            obtain ⟨ka, aa, xs, rfl, hx, rx⟩ := rp_items r1 w1
            obtain ⟨kb, ab, ys, rfl, hy, ry⟩ := rp_items r3 w2
            exact ⟨_, _, _, _, ka, kb, rfl, sqB_ex S1.ex hx, sqB_ex S1.ex hy, h1.ret S1 _ (itok_zipB hx rx hy ry)⟩
  · exact h1.elim
end
/-! ### try .. except T: -/
section
variable {X : Cx} {W : WX} {a b c e : Expr} {es : List Expr} {fa fb fc : M D} {pos : Pos} {f : M (List D)} {N : List Str} {sc raw : Scope}
def unT : Res Fl → Res Fl
  | .exc _ _ _ => .stuck
  | r => r
def mTry1 (tab : ETab) (T : Str) (fb : M Fl) (fs : Str → M Fl) : M Fl := fun env => match fb env with
  | .exc x none e' => (match tabAt tab x T with
    | some true => unT (fs x e')
    | some false => .exc x none e'
    | none => .stuck)
  | .exc _ (some _) _ => .stuck
  | r => r
theorem js_try1 {tab : ETab} {T : Str} {np pos' : Pos} {body suite : List Stmt} {b0 : Stmt} {fb : M Fl} {fs : Str → M Fl} (C : CtxOk X W) (V : Nm X N sc raw) (Y : Df X) (hT : okG sc T = true) {u : Value} (hu : X.mg T = some u) (TO : CatOk X.K X.mg tab)
    (jb : ∀ (X' : Cx) (W' : WX), CtxOk X' W' → Nm X' N sc raw → Df X' → Bl X X' → JSs X' W' body fb)
    (jh : ∀ (X' : Cx) (a : Addr) (y : Str), HotX X' a y → Nm X' N sc raw → BlH X X' → JSs X' WF (b0 :: suite) (fs y)) :
    JS X W (.Try body [.ExceptHandler (some (.Name T np)) none (b0 :: suite) pos'] [] [] pos) (mTry1 tab T fb fs) := by
  obtain ⟨hg, hdb, _⟩ := V.g hT
  refine ⟨⟨_, L2N.ps_try_many (Wout := W) (l := [(u, fun a cls d De σ H => ∀ oe pn, L2N.Zn cls d oe → (∃ vs, oe.data = .fields vs) → tAll (X.suite a ((a, oe) :: pn)) (b0 :: suite) De σ H)]) Y.hs Y.hf C.tk
    (tb := fun W' De σ H => ∀ pn xe, L2N.Takes (X.tr pn xe) W' → PassesOwn (model X.prog X.w) X.A X.env xe → tAll (X.tr pn xe) body De σ H)
    (fun W' pn xe tk po => ⟨fun pins s σ H De I h => tAll_ok.run pins s σ H De I (h pn xe tk po)⟩)
    (.cons ⟨hg, hdb, .inl hu⟩ (fun a oe cls d pn hz hv => ⟨fun pins s σ H De I h => tAll_ok.run pins s σ H De I (h oe pn hz hv)⟩) .nil), fun ps σ Hf H env S De z => ?_⟩⟩
  intro pn xe tk po
  refine tAll_of (X := X.tr pn xe) (W := wMany X.K W De _) (jb (X.tr pn xe) _ ⟨C.calm, C.hu, po, tk⟩ ⟨V.hN, V.hs, V.nd, V.kind, V.fn⟩ ⟨Y.hs, Y.hf⟩ ⟨rfl, rfl, rfl, rfl, rfl, rfl⟩) S ?_
  unfold mTry1 at z
  cases q : fb env with
  | ok fl e' => rw [q] at z; exact z
  | stuck => rw [q] at z; exact z
  | exc x p e' =>
    rw [q] at z
    cases p with
    | some d => exact False.elim z
    | none =>
      dsimp only at z
      cases w : tabAt tab x T with
      | none => rw [w] at z; exact False.elim z
      | some b =>
        rw [w] at z
        obtain ⟨Dd, u', hx, hT', hex⟩ := TO x T b (tabAt_mem w)
        cases (hu.symm.trans hT')
        intro cls dd σ' Hf' H' x' S' ie
        obtain ⟨ie1, ie2⟩ := ie
        cases (hx.symm.trans ie1)
        cases ie2
        refine ⟨b, hex, fun hb a ha oe pn' hz hv => ?_, fun hb => ?_⟩
        · subst hb
          obtain ⟨vs, hv⟩ := hv
          refine tAll_of (X := X.suite a ((a, oe) :: pn')) (W := WF) (jh (X.suite a ((a, oe) :: pn')) a x ⟨rfl, oe, vs, Dd, List.mem_cons_self, hx, hz.zc, hv, hz.2.2 vs hv⟩ ⟨V.hN, V.hs, V.nd, V.kind, V.fn⟩ ⟨rfl, rfl, rfl, rfl, rfl, rfl, rfl⟩) S' ?_
          have z : SG X.K X.mg ps W De Hf (unT (fs x e')) := z
          have z := SG.mono x' z
          cases r : fs x e' with
          | ok fl e2 => rw [r] at z; exact z
          | exc y p e2 => rw [r] at z; exact False.elim z
          | stuck => rw [r] at z; exact False.elim z
        · subst hb
          exact z (.ref Dd) none σ' Hf' H' x' S' ⟨hx, rfl⟩
end
end DL

/-! DLo: own lists handed back by a def, lent to a calm expression, cleared. -/
namespace DL
open PySem PySem.Spec PyProof.Rows L2 Evl
section
variable {X : Cx} {W : WX} {a b c e : Expr} {es : List Expr} {fa fb fc : M D} {pos : Pos} {f : M (List D)} {N : List Str} {sc raw : Scope}
/-! ### return of an own list -/
def mRetF (f : M (List D)) : M Fl := bnd f fun l => ret (.ro l)
theorem js_retF (j : JF X W e f) : JS X W (.Return (some e) pos) (mRetF f) := by
  obtain ⟨t, p, h⟩ := j.ex
  refine ⟨⟨_, ps_ret p, fun ps σ Hf H env S De z => ?_⟩⟩
  refine h ps σ Hf H env S _ ?_
  unfold mRetF bnd at z
  cases q : f env with
  | ok l e' =>
    rw [q] at z
    exact fun Hf' H' p vs x S' hp nf ng r no => z σ Hf' H' x S' p vs hp nf ng r
  | exc x p e' => rw [q] at z; exact fun cls dd Hf' H' x S' ie => z cls dd σ Hf' H' x S' ie
  | stuck => rw [q] at z; exact z
/-- a name's own list is taken from it -/
def mTake (i : Nat) : M (List D) := fun env => match env[i]? with
  | some (.own none (.lst l)) => .ok l (env.set i .no)
  | _ => .stuck
theorem jf_var (V : Nm X N sc raw) {i : Nat} {x : Str} (hv : okV N sc i x = true) : JF X W (.Name x pos) (mTake i) := by
  obtain ⟨hN, hv, hd, hcd⟩ := V.v hv
  refine ⟨⟨_, pe_var hN hv hd hcd, fun ps σ Hf H env S Q h => ?_⟩⟩
  unfold mTake at h
  split at h
  · rename_i l q
    obtain ⟨p, o, hp, nf, hh, ⟨vs, rfl, r⟩, hk⟩ := S.own q
    refine ⟨.ref p, hp, h Hf H p vs (Ex.refl _) (S.forget i) hh nf ?_ r fun j k l2 q1 q2 => ?_⟩
    · cases w : ps.g p with
      | none => rfl
      | some u => exact ((S.fg p u w).2.2 i _ _ q hp).elim
    · have hl : i < env.length := (List.getElem?_eq_some_iff.mp q).1
      by_cases hj : i = j
      · subst hj; rw [List.getElem?_set_self hl] at q1; cases q1
      · rw [List.getElem?_set_ne hj] at q1
        exact S.ap i j _ _ _ _ p hj q q1 hp q2
  · exact h.elim
end
/-- as spP: what comes back is a new list, the caller's own -/
def spO (K : PySem.W.Frag) (mg : MG) (n : Nat) (F : List D → Rs) : Sp := fun vs H Q E => vs.length = n ∧ ∃ Hf ds, Ex Hf H ∧ Rps K mg Hf vs ds ∧ match F ds with
  | .ok (.lst l) => ∀ p us Hf' H', Ex Hf Hf' → Ex Hf' H' → (∀ a o, H a = some o → Hf a = none → H' a = some o ∧ Hf' a = none) → H p = none → H' p = some (.lst us) → Hf' p = none → Rps K mg Hf' us l → Q (.ref p) H'
  | .exc x p => ∀ cls dd Hf' H', Ex Hf Hf' → Ex Hf' H' → (∀ a o, H a = some o → Hf a = none → H' a = some o ∧ Hf' a = none) → IsExc K mg Hf' x p cls dd → E cls dd H'
  | _ => False
def runO (n : Nat) (f : M Fl) (ds : List D) : Rs := match f (envOf n ds) with
  | .ok (.ro l) _ => .ok (.lst l)
  | .exc x p _ => .exc x p
  | _ => .stuck
theorem runF_runO {n : Nat} {f : M Fl} {ds : List D} {d : D} (h : runO n f ds = .ok d) : runF n f ds = .ok d := by
  unfold runO at h
  unfold runF
  cases q : f (envOf n ds) with
  | ok fl e =>
    rw [q] at h
    cases fl with
    | ro l => exact h
    | nx => cases h
    | rt d => cases h
    | bk => cases h
    | ct => cases h
  | exc x p e => rw [q] at h; cases h
  | stuck => rw [q] at h; cases h
section
variable {P : Program} {w : World} {K : PySem.W.Frag} {mg : MG} {base : Heap}
theorem fn_okO {x qual : Str} {st : Stmt} {f : Addr} {fd : FuncData} {N ps : List Str} {k : Nat} {g : M Fl} (F : Fun K x qual st f fd) (S : FnScope N ps (defScope st))
    (hbody : ∀ (X : Cx) (W : WX), X.prog = P → X.w = w → X.K = K → X.mg = mg → X.base = base → Room k X.A → CtxOk X W → Nm X N (defScope st) (defScope st) → Df X → JSs X W (defBody st) g) (hle : ps.length ≤ N.length := by decide) :
    FnOk P w K mg base (L2N.CX P w) (k + 1) f fd ps (spO K mg ps.length (runO N.length g)) := by
  refine okN F S (fun vs H Q E h => h.1) (fun cdv A outer s H vs Q E hr h => ?_)
  obtain ⟨hl, Hf, ds, x, r, hF⟩ := h
  obtain ⟨t, p, ht⟩ := (hbody (cxOf (L2N.CX P w) P w K mg base N qual (defScope st) f cdv A outer s H E) (fun cls d _ H => E cls d H) rfl rfl rfl rfl rfl hr ⟨rfl, hr.units, passes_of rfl, L2N.takes_of rfl rfl rfl rfl⟩ ⟨rfl, rfl, S.nd, S.kind, fun _ _ => rfl⟩ ⟨rfl, rfl⟩).ex
  refine ⟨t, p, ht _ _ Hf H _ (sr_start x r (by omega)) _ ?_⟩
  unfold runO at hF
  cases q : g (envOf N.length ds) with
  | ok fl e' =>
    rw [q] at hF
    cases fl with
    | ro l => exact fun σ' Hf' H' x' S' p us hp nf ng rv => hF p us Hf' H' x' S'.ex (fg_back S') (ro_new (fresh_back x' nf) ng) hp nf rv
    | nx => exact hF.elim
    | rt d => exact hF.elim
    | bk => exact hF.elim
    | ct => exact hF.elim
  | exc y p e' => rw [q] at hF; exact fun cls dd σ' Hf' H' x' S' z => hF cls dd Hf' H' x' S'.ex (fg_back S') z
  | stuck => rw [q] at hF; exact hF.elim
end
structure CalO (X : Cx) (x : Str) (n : Nat) (F : List D → Rs) : Prop where
  ex : ∃ k f fd ps, FnOk X.prog X.w X.K X.mg X.base (L2N.CX X.prog X.w) k f fd ps (spO X.K X.mg n F) ∧ Room k X.A ∧ X.mg x = some (.ref f) ∧ PySem.W.keepIn X.K (.ref f) = true ∧ Binds X.K fd ps []
structure CalleeO (P : Program) (w : World) (K : PySem.W.Frag) (mg : MG) (base : Heap) (x : Str) (k n : Nat) (F : List D → Rs) : Prop where
  ex : ∃ f fd ps, FnOk P w K mg base (L2N.CX P w) k f fd ps (spO K mg n F) ∧ mg x = some (.ref f) ∧ PySem.W.keepIn K (.ref f) = true ∧ Binds K fd ps []
theorem CalleeO.calO {X : Cx} {x : Str} {k k' n : Nat} {F : List D → Rs} (c : CalleeO X.prog X.w X.K X.mg X.base x k n F) (hr : Room k' X.A) (h : k ≤ k' := by decide) : CalO X x n F := by
  obtain ⟨f, fd, ps, G, hm, hk, hb⟩ := c.ex
  exact ⟨⟨k, f, fd, ps, G, hr.mono h, hm, hk, hb⟩⟩
theorem calleeO_of {P : Program} {w : World} {K : PySem.W.Frag} {mg : MG} {base : Heap} {x : Str} {f : Addr} {fd : FuncData} {ps : List Str} {k n : Nat} {F : List D → Rs} (G : FnOk P w K mg base (L2N.CX P w) k f fd ps (spO K mg n F)) (hm : mg x = some (.ref f)) (hk : PySem.W.keepIn K (.ref f) = true) (hb : Binds K fd ps []) : CalleeO P w K mg base x k n F := ⟨⟨f, fd, ps, G, hm, hk, hb⟩⟩
theorem Bl.calO {X X' : Cx} (B : Bl X X') {x : Str} {n : Nat} {F : List D → Rs} (c : CalO X x n F) : CalO X' x n F := by
  obtain ⟨k, f, fd, ps, h⟩ := c.ex
  refine ⟨⟨k, f, fd, ps, ?_⟩⟩
  rw [B.prog, B.w, B.K, B.mg, B.base, B.A]
  exact h
def mCallO (f : M (List D)) (F : List D → Rs) : M (List D) := bnd f fun ds env => match F ds with
  | .ok (.lst l) => .ok l env | .exc x p => .exc x p env | _ => .stuck
section
variable {X : Cx} {W : WX} {a b c e : Expr} {es : List Expr} {fa fb fc : M D} {pos : Pos} {f : M (List D)} {N : List Str} {sc raw : Scope}
theorem jf_call {x : Str} {p : Pos} {n : Nat} {F : List D → Rs} (C : CtxOk X W) (V : Nm X N sc raw) (hG : okG sc x = true) (c : CalO X x n F) (ja : JA X W (e :: es) f) (hn : ∀ env ds env', f env = .ok ds env' → ds.length = n)
    (he : starEach (e :: es) X.env = (false, eval e X.env) :: starEach es X.env := by rfl) (hpl : (backTo pos (starEach es X.env)).any (·.1) = false := by rfl) :
    JF X W (.Call (.Name x p) (e :: es) [] pos) (mCallO f F) := by
  obtain ⟨hg, hdb, _⟩ := V.g hG
  obtain ⟨k, fa, fd, ps', G, hr, hm, hk, hb⟩ := c.ex
  obtain ⟨t, q, h⟩ := ja.ex
  refine ⟨⟨_, pe_callS G hr hg hm hk hb (fun σ => L2N.passAt C.tk σ) q hdb he hpl, fun ps σ Hf H env S Q z => ?_⟩⟩
  unfold mCallO bnd at z
  refine h ps σ Hf H env S _ ?_
  cases w : f env with
  | ok ds e1 =>
    rw [w] at z
    intro Hf1 H1 x1 S1 vs r
    refine ⟨by rw [r.length]; exact hn _ _ _ w, Hf1, ds, S1.ex, r, ?_⟩
    have z := FGd.mono x1 z
    cases q : F ds with
    | ok d =>
      simp only [q] at z
      cases d with
      | lst l =>
        intro p us Hf' H' x y fr np hp nf rv
        refine z Hf' H' p us x (S1.after x y fr) hp nf ?_ rv fun i k2 od q1 q2 => ?_
        · cases w2 : ps.g p with
          | none => rfl
          | some u => have := (S1.fg p u w2).1; rw [np] at this; cases this
        · obtain ⟨p', o, a1, _, a3, _⟩ := S1.own q1
          rw [q2] at a1; cases a1
          rw [np] at a3; cases a3
      | _ => exact z.elim
    | exc c p => simp only [q] at z; exact fun cls dd Hf' H' x y fr ie => z cls dd Hf' H' x (S1.after x y fr) ie
    | stuck => simp only [q] at z; exact z.elim
  | exc y p e1 => rw [w] at z; exact z
  | stuck => rw [w] at z; exact z
end
/-! ### own lists lent -/
def shw1 : Sl → Sl
  | .own _ (.lst l) => .val (.lst l)
  | .own _ _ => .no
  | s => s
def shw (e : DEnv) : DEnv := e.map shw1
def D.plain : D → Bool
  | .non => true | .bl _ => true | .int _ => true | .str _ => true | _ => false
theorem Rp.plain {K : PySem.W.Frag} {mg : MG} {H H' : Hp} {v : V} {d : D} (r : Rp K mg H v d) (h : d.plain = true) : Rp K mg H' v d := by
  cases r with
  | non => exact .non
  | bl b => exact .bl b
  | int i => exact .int i
  | str x => exact .str x
  | _ => cases h
theorem Rps.plain {K : PySem.W.Frag} {mg : MG} {H H' : Hp} : ∀ {vs : List V} {ds : List D}, Rps K mg H vs ds → ds.all D.plain = true → Rps K mg H' vs ds
  | _, _, .nil, _ => .nil
  | _, _, .cons r rr, h => by
    rw [List.all_cons, Bool.and_eq_true] at h
    exact .cons (r.plain h.1) (Rps.plain rr h.2)
/-- the addresses of the own lists -/
def OwnL (e : DEnv) (σ : L2.St) (a : Addr) : Prop := ∃ (i : Nat) (k : Option Nat) (l : List D), e[i]? = some (Sl.own k (OD.lst l)) ∧ σ[i]? = some (some (L2.V.ref a))
section
variable {K : PySem.W.Frag} {mg : MG} {ps : Fg} {Hf H Hf' H' : Hp} {σ : L2.St} {env : DEnv}
open Classical in
noncomputable def lentH (env : DEnv) (σ : L2.St) (Hf H : Hp) : Hp := fun a => if OwnL env σ a then H a else Hf a
open Classical in
noncomputable def backH (env : DEnv) (σ : L2.St) (Hf : Hp) : Hp := fun a => if OwnL env σ a then none else Hf a
def lentG (Hf1 H : Hp) (ps : Fg) : Fg := ⟨ps.ps, fun a => if (Hf1 a).isSome then none else H a⟩
theorem SR.ownL (S : SR K mg ps Hf H σ env) {a : Addr} (h : OwnL env σ a) : Hf a = none ∧ ∃ vs, H a = some (.lst vs) := by
  obtain ⟨i, k, l, h1, h2⟩ := h
  obtain ⟨p, o, hp, nf, hh, ⟨vs, rfl, r⟩, hk⟩ := S.own h1
  rw [h2] at hp; cases hp
  exact ⟨nf, vs, hh⟩
theorem SR.lent_ex (S : SR K mg ps Hf H σ env) : Ex Hf (lentH env σ Hf H) := fun a u h => by
  unfold lentH
  split
  · exact S.ex a u h
  · exact h
theorem SR.lent (S : SR K mg ps Hf H σ env) : SR K mg (lentG (lentH env σ Hf H) H ps) (lentH env σ Hf H) H σ (shw env) := by
  have no : ∀ {i : Nat} {k : Option Nat} {l : OD}, (shw env)[i]? = some (.own k l) → False := fun {i k l} h => by
    unfold shw at h
    rw [List.getElem?_map] at h
    cases q : env[i]? with
    | none => rw [q] at h; cases h
    | some s =>
      rw [q] at h
      cases s with
      | no => cases h
      | val d => cases h
      | own k2 od => cases od <;> cases h
  refine ⟨fun a u h => ?_, by unfold shw; rw [List.length_map, S.len], fun i s h => ?_, fun i j k k' l l' p hij h1 => (no h1).elim, fun a o h => ?_⟩
  · unfold lentH at h
    split at h
    · exact h
    · exact S.ex a u h
  · unfold shw at h
    rw [List.getElem?_map] at h
    cases q : env[i]? with
    | none => rw [q] at h; cases h
    | some s0 =>
      rw [q] at h
      obtain ⟨x, hx, r⟩ := S.sl i s0 q
      refine ⟨x, hx, ?_⟩
      cases s0 with
      | no => cases h; trivial
      | val d => cases h; obtain ⟨v, a1, b1⟩ := r; exact ⟨v, a1, b1.mono S.lent_ex⟩
      | own k od =>
        obtain ⟨p, o, rfl, nf, hh, hr, hk⟩ := r
        cases od with
        | lst l =>
          cases h
          obtain ⟨vs, rfl, rr⟩ := hr
          refine ⟨.ref p, rfl, .lst (.inl (.inl ?_)) (rr.mono S.lent_ex)⟩
          unfold lentH
          rw [if_pos ⟨i, k, l, q, hx⟩]
          exact hh
        | dK ks l => cases h; trivial
        | dT ks l => cases h; trivial
  · unfold lentG at h
    dsimp only at h
    split at h
    · cases h
    · rename_i hn
      refine ⟨h, ?_, fun i k l q => (no q).elim⟩
      cases q : lentH env σ Hf H a with
      | none => rfl
      | some u => rw [q] at hn; exact absurd rfl hn
theorem SR.unlent (S : SR K mg ps Hf H σ env) {env' : DEnv} (x : Ex (lentH env σ Hf H) Hf') (S' : SR K mg (lentG (lentH env σ Hf H) H ps) Hf' H' σ env') : Ex Hf (backH env σ Hf') ∧ SR K mg ps (backH env σ Hf') H' σ env := by
  have x1 : Ex Hf (backH env σ Hf') := fun a u h => by
    unfold backH
    split
    · rename_i ho; rw [(S.ownL ho).1] at h; cases h
    · exact x a u (S.lent_ex a u h)
  have keep : ∀ {a : Addr} {o : HO}, H a = some o → Hf a = none → ¬ OwnL env σ a → H' a = some o ∧ Hf' a = none := fun {a o} h n ho => by
    have hl : lentH env σ Hf H a = none := by unfold lentH; rw [if_neg ho]; exact n
    obtain ⟨h1, h2, _⟩ := S'.fg a o (by unfold lentG; dsimp only; rw [hl]; exact h)
    exact ⟨h1, h2⟩
  have bo : ∀ {a : Addr}, OwnL env σ a → backH env σ Hf' a = none := fun {a} ho => by unfold backH; rw [if_pos ho]
  have bn : ∀ {a : Addr}, Hf' a = none → backH env σ Hf' a = none := fun {a} ho => by
    unfold backH
    split
    · rfl
    · exact ho
  refine ⟨x1, fun a u h => ?_, S.len, fun i s q => ?_, S.ap, fun a o h => ?_⟩
  · unfold backH at h
    split at h
    · cases h
    · exact S'.ex a u h
  · obtain ⟨v, hv, r⟩ := S.sl i s q
    refine ⟨v, hv, ?_⟩
    cases s with
    | no => trivial
    | val d => obtain ⟨u, a1, b1⟩ := r; exact ⟨u, a1, b1.mono x1⟩
    | own k od =>
      obtain ⟨p, o, rfl, nf, hh, hr, hk⟩ := r
      by_cases ho : OwnL env σ p
      · refine ⟨p, o, rfl, bo ho, ?_, hr.mono x1, hk⟩
        refine S'.ex p o (x p o ?_)
        unfold lentH; rw [if_pos ho]; exact hh
      · obtain ⟨h1, h2⟩ := keep hh nf ho
        exact ⟨p, o, rfl, bn h2, h1, hr.mono x1, hk⟩
  · obtain ⟨h1, h2, h3⟩ := S.fg a o h
    have ho : ¬ OwnL env σ a := fun ⟨i, k, l, q1, q2⟩ => h3 i k _ q1 q2
    obtain ⟨g1, g2⟩ := keep h1 h2 ho
    exact ⟨g1, bn g2, h3⟩
end
def mLend (f : M D) : M D := fun env => match f (shw env) with
  | .ok d _ => if d.plain then .ok d env else .stuck
  | .exc x none _ => .exc x none env
  | _ => .stuck
def mLendF (f : M (List D)) : M (List D) := fun env => match f (shw env) with
  | .ok d _ => if d.all D.plain then .ok d env else .stuck
  | .exc x none _ => .exc x none env
  | _ => .stuck
section
variable {X : Cx} {W : WX} {a b c e : Expr} {es : List Expr} {fa fb fc : M D} {pos : Pos} {f : M (List D)} {N : List Str} {sc raw : Scope}
theorem je_lend (j : JE X W e fa) : JE X W e (mLend fa) := by
  obtain ⟨t, p, h⟩ := j.ex
  refine ⟨⟨t, p, fun ps σ Hf H env S Q z => ?_⟩⟩
  refine h _ σ _ H (shw env) S.lent Q ?_
  unfold mLend at z
  cases q : fa (shw env) with
  | ok d e' =>
    rw [q] at z
    dsimp only at z
    intro Hf' H' x S' v rv
    by_cases hp : d.plain = true
    · rw [if_pos hp] at z
      obtain ⟨x1, S1⟩ := S.unlent x S'
      exact z _ H' x1 S1 v (rv.plain hp)
    · rw [if_neg hp] at z; exact z.elim
  | exc y p e' =>
    rw [q] at z
    cases p with
    | none =>
      intro cls dd Hf' H' x S' ie
      obtain ⟨x1, S1⟩ := S.unlent x S'
      exact z cls dd _ H' x1 S1 ie
    | some d => exact z.elim
  | stuck => rw [q] at z; exact z.elim
theorem jf_lend (j : JF X W e f) : JF X W e (mLendF f) := by
  obtain ⟨t, p, h⟩ := j.ex
  refine ⟨⟨t, p, fun ps σ Hf H env S Q z => ?_⟩⟩
  refine h _ σ _ H (shw env) S.lent Q ?_
  unfold mLendF at z
  cases q : f (shw env) with
  | ok d e' =>
    rw [q] at z
    dsimp only at z
    intro Hf' H' p vs x S' hp nf ng rv no
    by_cases hpl : d.all D.plain = true
    · rw [if_pos hpl] at z
      obtain ⟨x1, S1⟩ := S.unlent x S'
      have nl : lentH env σ Hf H p = none := fresh_back x nf
      have nH : H p = none := ro_new nl ng
      refine z _ H' p vs x1 S1 hp ?_ ?_ (rv.plain hpl) fun i k l q1 q2 => ?_
      · unfold backH; split
        · rfl
        · exact nf
      · cases w : ps.g p with
        | none => rfl
        | some u => have := (S.fg p u w).1; rw [nH] at this; cases this
      · obtain ⟨p', o, a1, _, a3, _⟩ := S.own q1
        rw [q2] at a1; cases a1
        rw [nH] at a3; cases a3
    · rw [if_neg hpl] at z; exact z.elim
  | exc y p e' =>
    rw [q] at z
    cases p with
    | none =>
      intro cls dd Hf' H' x S' ie
      obtain ⟨x1, S1⟩ := S.unlent x S'
      exact z cls dd _ H' x1 S1 ie
    | some d => exact z.elim
  | stuck => rw [q] at z; exact z.elim
def mClr (i : Nat) : M Fl := fun env => match ownAt env i with
  | some (k, _) => .ok .nx (env.set i (.own k (.lst [])))
  | none => .stuck
theorem js_clear {x : Str} {i : Nat} {p1 p2 p3 pos2 : Pos} (V : Nm X N sc raw) (hv : okV N sc i x = true)
    (hbase : attributeBase (.Name x p1) "clear" X.env (eval (.Name x p1) X.env) = eval (.Name x p1) X.env := by rfl)
    (hline : (p2.endLine == p3.line) = true := by rfl)
    (hsw : swapsWith (.Call (.Attribute (.Name x p1) "clear" p2) [] [] p3) none pos2.line X.env = pure false := by rfl) :
    JS X W (.Expr (.Call (.Attribute (.Name x p1) "clear" p2) [] [] p3) pos2) (mClr i) := by
  obtain ⟨hN, hvi, hd, hcd⟩ := V.v hv
  refine ⟨⟨_, ps_expr (pe_bm0 PySem.F.plainAttrs_list PySem.F.slot_list_clear PySem.F.type_list_clear mt_clear (pe_var hN hvi hd hcd) hbase hline) hsw, fun ps σ Hf H env S De z => ?_⟩⟩
  unfold mClr at z
  cases w : ownAt env i with
  | none => rw [w] at z; exact z.elim
  | some kl =>
    obtain ⟨k, l⟩ := kl
    rw [w] at z
    obtain ⟨pa, o, hp, nf, ho, ⟨vs, e1, r⟩, hk⟩ := S.own (ownAt_eq w)
    subst e1
    exact ⟨.ref pa, hp, .inl ⟨rfl, vs, .inl (.inl ho)⟩, pa, vs, rfl, rfl, ho, z σ Hf _ (Ex.refl _) (S.turn (ownAt_eq w) hp ⟨[], rfl, .nil⟩)⟩
end
end DL

/-! DLp: a def that calls itself begins; a fresh list(x); what the rules of DLn, DLo are worth at an environment. -/
namespace DL
open PySem PySem.Spec PyProof.Rows L2 Evl
theorem fn_stuck {P : Program} {w : World} {K : PySem.W.Frag} {mg : MG} {base : Heap} {f : Addr} {fd : FuncData} {ps : List Str} {k n : Nat} : FnOk P w K mg base (L2N.CX P w) k f fd ps (spP K mg n fun _ => .stuck) :=
  ⟨fun vs H Q E h => by obtain ⟨_, _, _, _, _, h⟩ := h; exact False.elim h, fun A outer s H args us vs Q E hr he hb hv h => by obtain ⟨_, _, _, _, _, h⟩ := h; exact False.elim h⟩
section
variable {X : Cx} {W : WX} {a b c e : Expr} {es : List Expr} {fa fb fc : M D} {pos : Pos} {f : M (List D)} {N : List Str} {sc raw : Scope}
theorem jf_listC {p : Pos} (V : Nm X N sc raw) (hG : okG sc "list" = true) (hm : X.mg "list" = none) (ja : JA X W [a] f) (he : starEach [a] X.env = (false, eval a X.env) :: starEach [] X.env := by rfl) (hpl : (backTo pos (starEach [] X.env)).any (·.1) = false := by rfl) : JF X W (.Call (.Name "list" p) [a] [] pos) (bnd f cListF) := by
  obtain ⟨hg, hdb, hn⟩ := V.g hG
  obtain ⟨t, q, h⟩ := ja.ex
  refine ⟨⟨_, pe_callTy call_list_of hg hm (by decide +kernel) q hn hdb he hpl, fun ps σ Hf H env S Q z => ?_⟩⟩
  refine h ps σ Hf H env S _ (fg_bnd z fun ds e1 Hf1 H1 x1 S1 h1 vs r => ?_)
  unfold cListF at h1
  split at h1
  · cases r with
    | cons r1 r2 => cases r2; cases r1 with
      | lst hq r => exact ⟨_, _, rfl, .inl (ex_l S1.ex hq), lay_new S1 r h1⟩
  · cases r with
    | cons r1 r2 => cases r2; cases r1 with
      | tup hq r => exact ⟨_, _, rfl, .inr (ex_t S1.ex hq), lay_new S1 r h1⟩
  · exact h1.elim
end
section
variable {e e' : DEnv} {n : Nat} {l : List D} {fa : M D} {h : M (List D)} {d : D} {x : Str} {o : Option Nat} {p : Option D} {T : Str} {tab : ETab}
theorem a_retF : mRetF h e = rB (h e) (fun l => DL.ret (.ro l)) := rfl
def oT (o : Option Sl) (n : Nat) (e : DEnv) : Res (List D) := match o with | some (.own none (.lst l)) => .ok l (e.set n .no) | _ => .stuck
theorem a_take : mTake n e = oT e[n]? n e := rfl
theorem a_oT : oT (some (.own none (.lst l))) n e = .ok l (e.set n .no) := rfl
def rsO (r : Rs) (e : DEnv) : Res (List D) := match r with | .ok (.lst l) => .ok l e | .exc x p => .exc x p e | _ => .stuck
theorem a_callO {F : List D → Rs} : mCallO h F e = rB (h e) (fun ds e' => rsO (F ds) e') := by
  unfold mCallO; rw [a_bnd]; congr
theorem a_rsOok : rsO (.ok (.lst l)) e = .ok l e := rfl
theorem a_rsOexc : rsO (.exc x p) e = .exc x p e := rfl
def rO (r : Res Fl) : Rs := match r with | .ok (.ro l) _ => .ok (.lst l) | .exc x p _ => .exc x p | _ => .stuck
theorem a_runO {f : M Fl} {ds : List D} : runO n f ds = rO (f (DL.envOf n ds)) := rfl
theorem a_rOro : rO (.ok (.ro l) e) = .ok (.lst l) := rfl
theorem a_rOexc : rO (.exc x p e) = .exc x p := rfl
def lD (r : Res D) (e : DEnv) : Res D := match r with | .ok d _ => if d.plain then .ok d e else .stuck | .exc x none _ => .exc x none e | _ => .stuck
theorem a_lend : mLend fa e = lD (fa (shw e)) e := rfl
theorem a_lDi {i : Int} : lD (.ok (.int i) e') e = .ok (.int i) e := rfl
theorem a_lDb {b : Bool} : lD (.ok (.bl b) e') e = .ok (.bl b) e := rfl
theorem a_lDn : lD (.ok .non e') e = .ok .non e := rfl
theorem a_lDx : lD (.exc x none e') e = .exc x none e := rfl
theorem a_shn : shw [] = [] := rfl
theorem a_shc {s : Sl} {r : DEnv} : shw (s :: r) = shw1 s :: shw r := rfl
theorem a_sh1v : shw1 (.val d) = .val d := rfl
theorem a_sh1n : shw1 .no = .no := rfl
theorem a_sh1o : shw1 (.own o (.lst l)) = .val (.lst l) := rfl
def cM (q : Option (Option Nat × List D)) (n : Nat) (e : DEnv) : Res Fl := match q with | some (k, _) => .ok .nx (e.set n (.own k (.lst []))) | none => .stuck
theorem a_clr : mClr n e = cM (ownAt e n) n e := rfl
theorem a_cM : cM (some (o, l)) n e = .ok .nx (e.set n (.own o (.lst []))) := rfl
theorem a_enu : mEnu h e = rB (h e) (fun ds => match ds with | [x] => enO (itemsD x) | _ => stk) := rfl
theorem a_enO : enO (some l) e = .ok (enD l) e := rfl
theorem a_zipM : mZipM h e = rB (h e) (fun ds => match ds with | [x, y] => zip2 (itemsD x) (itemsD y) | _ => stk) := rfl
theorem a_itL : itemsD (.lst l) = some l := rfl
theorem a_itT : itemsD (.tup l) = some l := rfl
theorem a_zip2 {l' : List D} : zip2 (some l) (some l') e = .ok (zipD l l') e := rfl
theorem a_cListFl : cListF [.lst l] e = .ok l e := rfl
theorem a_cListFt : cListF [.tup l] e = .ok l e := rfl
def tR1 (tab : ETab) (T : Str) (fs : Str → M Fl) (r : Res Fl) : Res Fl := match r with
  | .exc x none e' => (match tabAt tab x T with
    | some true => unT (fs x e')
    | some false => .exc x none e'
    | none => .stuck)
  | .exc _ (some _) _ => .stuck
  | r => r
def cT1 (o : Option Bool) (x : Str) (fs : Str → M Fl) (e : DEnv) : Res Fl := match o with
    | some true => unT (fs x e)
    | some false => .exc x none e
    | none => .stuck
theorem a_try1 {s : M Fl} {fs : Str → M Fl} : mTry1 tab T s fs e = tR1 tab T fs (s e) := rfl
theorem a_tok1 {fs : Str → M Fl} {fl : Fl} : tR1 tab T fs (.ok fl e) = .ok fl e := rfl
theorem a_texc1 {fs : Str → M Fl} : tR1 tab T fs (.exc x none e) = cT1 (tabAt tab x T) x fs e := rfl
theorem a_cT1 {fs : Str → M Fl} : cT1 (some true) x fs e = unT (fs x e) := rfl
theorem a_cF1 {fs : Str → M Fl} : cT1 (some false) x fs e = .exc x none e := rfl
theorem a_unTok {fl : Fl} : unT (.ok fl e) = .ok fl e := rfl
end
end DL

/-! DLl: x.partition(y), x.startswith(y), int(text). -/
namespace DL
open PySem PySem.Spec PyProof.Rows L2 Evl
section
variable {X : Cx} {W : WX} {a b c e : Expr} {es : List Expr} {fa fb fc : M D} {pos : Pos} {f : M (List D)} {N : List Str} {sc raw : Scope}
def dPart (a : Str) (y : D) : M D := match y with
  | .str b => if (b.length == 0) = false ∧ a.length ≤ sizeLine then ret (.tup [.str (Txt.partition a b).1, .str (Txt.partition a b).2.1, .str (Txt.partition a b).2.2]) else stk
  | _ => stk
theorem je_partition {apos : Pos} (ja : JE X W a fa) (jb : JE X W b fb) (hs : starEach [b] X.env = [(false, eval b X.env)] := by rfl) (hbase : attributeBase a "partition" X.env (eval a X.env) = eval a X.env := by rfl) (hline : (apos.endLine == pos.line) = true := by rfl) :
    JE X W (.Call (.Attribute a "partition" apos) [b] [] pos) (bnd fa (xStr fun s => bnd fb (dPart s))) := by
  obtain ⟨t, p, h⟩ := ja.ex
  obtain ⟨tb, pb, hb⟩ := jb.ex
  refine ⟨⟨_, pe_partition p pb hs hbase hline, fun ps σ Hf H env S Q z => ?_⟩⟩
  refine h ps σ Hf H env S _ (EG.bnd z fun x e1 Hf1 H1 x1 S1 z1 v rv => ?_)
  unfold xStr at z1
  split at z1
  · rename_i sa
    rw [rv.str_inv]
    refine ⟨⟨sa, rfl⟩, ?_⟩
    refine hb ps σ Hf1 H1 e1 S1 _ (EG.bnd z1 fun y e2 Hf2 H2 x2 S2 z2 u ru => ?_)
    cases y with
    | str b' =>
      have z2 : EG X.K X.mg ps W Hf2 σ (Pd X.K X.mg Q) ((if (b'.length == 0) = false ∧ sa.length ≤ sizeLine then ret (D.tup [.str (Txt.partition sa b').1, .str (Txt.partition sa b').2.1, .str (Txt.partition sa b').2.2]) else stk) e2) := z2
      split at z2
      · rename_i hc
        rw [ru.str_inv]
        exact ⟨sa, b', rfl, rfl, hc.1, hc.2, new_tup S2 (.cons (.str _) (.cons (.str _) (.cons (.str _) .nil))) z2⟩
      · exact z2.elim
    | _ => exact z2.elim
  · exact z1.elim
def dStart (a : Str) (y : D) : M D := match y with
  | .str b => ret (.bl (Txt.startswith a b))
  | _ => stk
theorem je_startswith {apos : Pos} (ja : JE X W a fa) (jb : JE X W b fb) (hs : starEach [b] X.env = [(false, eval b X.env)] := by rfl) (hbase : attributeBase a "startswith" X.env (eval a X.env) = eval a X.env := by rfl) (hline : (apos.endLine == pos.line) = true := by rfl) :
    JE X W (.Call (.Attribute a "startswith" apos) [b] [] pos) (bnd fa (xStr fun s => bnd fb (dStart s))) := by
  obtain ⟨t, p, h⟩ := ja.ex
  obtain ⟨tb, pb, hb⟩ := jb.ex
  refine ⟨⟨_, pe_m1 F.slot_str_startswith F.type_str_startswith mt_startswith p pb hs hbase hline, fun ps σ Hf H env S Q z => ?_⟩⟩
  refine h ps σ Hf H env S _ (EG.bnd z fun x e1 Hf1 H1 x1 S1 z1 v rv => ?_)
  unfold xStr at z1
  split at z1
  · rename_i sa
    rw [rv.str_inv]
    refine ⟨⟨sa, rfl⟩, ?_⟩
    refine hb ps σ Hf1 H1 e1 S1 _ (EG.bnd z1 fun y e2 Hf2 H2 x2 S2 z2 u ru => ?_)
    cases y with
    | str b' => rw [ru.str_inv]; exact ⟨sa, b', rfl, rfl, z2.ret S2 _ (.bl _)⟩
    | _ => exact z2.elim
  · exact z1.elim
def oIn (o : Option Int) (a : Str) : M D := match o with | some n => if a.length ≤ 640 then ret (.int n) else stk | none => stk
def cIntS : List D → M D := fun ds => match ds with | [.str a] => oIn (intText? a) a | _ => stk
theorem je_intS {p : Pos} (V : Nm X N sc raw) (hG : okG sc "int" = true) (hm : X.mg "int" = none) (ja : JA X W [a] f) (he : starEach [a] X.env = (false, eval a X.env) :: starEach [] X.env := by rfl) : JE X W (.Call (.Name "int" p) [a] [] pos) (bnd f cIntS) := by
  refine je_callTy call_int_str (fun ps σ Hf H env xs ds Q S rx q => ?_) V hG hm ja (by decide +kernel) he
  unfold cIntS at q
  split at q
  · rename_i s
    cases w : intText? s with
    | none => rw [w] at q; exact q.elim
    | some n =>
      rw [w] at q
      have q : EG X.K X.mg ps W Hf σ (Pd X.K X.mg Q) ((if s.length ≤ 640 then ret (.int n) else stk) env) := q
      split at q
      · rename_i hl
        cases rx with
        | cons r1 r2 => cases r2; rw [r1.str_inv]; exact ⟨s, n, rfl, w, hl, q.ret S _ (.int _)⟩
      · exact q.elim
  · exact q.elim
end
section
variable {e : DEnv} {s z : Str} {n : Int}
theorem a_dPart : dPart s (.str z) e = if (z.length == 0) = false ∧ s.length ≤ sizeLine then .ok (.tup [.str (Txt.partition s z).1, .str (Txt.partition s z).2.1, .str (Txt.partition s z).2.2]) e else .stuck := by
  show (if (z.length == 0) = false ∧ s.length ≤ sizeLine then DL.ret (D.tup [.str (Txt.partition s z).1, .str (Txt.partition s z).2.1, .str (Txt.partition s z).2.2]) else stk) e = _
  split <;> rfl
theorem a_dStart : dStart s (.str z) e = .ok (.bl (Txt.startswith s z)) e := rfl
theorem a_cIntS : cIntS [.str s] e = oIn (intText? s) s e := rfl
theorem a_oIn : oIn (some n) s e = if s.length ≤ 640 then .ok (.int n) e else .stuck := by
  show (if s.length ≤ 640 then DL.ret (D.int n) else stk) e = _
  split <;> rfl
end
end DL

/-! DLr: rows of whole numbers of any size, as lists or tuples; one times the other. -/
namespace DL
open PySem PySem.Spec PyProof.Rows L2 Evl
abbrev Mt := List (List Int)
theorem mi {a b : Int} {m n : Nat} (ha : ib a ≤ m) (hb : ib b ≤ n) (h : m + n ≤ 100000 := by decide) : IntMulOk a b := IntMulOk.of_le ha hb (Nat.le_trans h (by decide))
def mkD (k : Bool) (l : List D) : D := match k with | true => .lst l | false => .tup l
abbrev rowD (k : Bool) (r : List Int) : D := mkD k (r.map .int)
abbrev rowsD (k j : Bool) (X : Mt) : D := mkD k (X.map (rowD j))
section
variable {k : Bool} {l : List D} {e : DEnv} {i : Int}
theorem a_itK : itemsD (mkD k l) = some l := by cases k <;> rfl
theorem a_dIxK : dIx (mkD k l) i e = oM (atI l i) e := by cases k <;> rfl
theorem a_lenK : cLen [mkD k l] e = .ok (.int l.length) e := by cases k <;> rfl
theorem a_tupleK : cTuple [mkD k l] e = .ok (.tup l) e := by cases k <;> rfl
theorem a_listK : cList [mkD k l] e = .ok (.lst l) e := by cases k <;> rfl
def sqD (d : D) : M (List D) := match d with | .lst l => ret l | .tup l => ret l | .str z => ret (signsD z) | _ => stk
theorem a_seqN {f : M D} : mSeq f e = rB (f e) sqD := rfl
theorem a_sqL : sqD (.lst l) e = .ok l e := rfl
theorem a_sqT : sqD (.tup l) e = .ok l e := rfl
theorem a_sqS {z : Str} : sqD (.str z) e = .ok (signsD z) e := rfl
theorem a_sqK : sqD (mkD k l) e = .ok l e := by cases k <;> rfl
theorem mSeq_K {f : M D} {e e' : DEnv} (h : f e = .ok (mkD k l) e') : mSeq f e = .ok l e' := by
  unfold mSeq; rw [bnd_ok h]; cases k <;> rfl
end
theorem zipD_map {α β : Type} (f : α → D) (g : β → D) (xs : List α) (ys : List β) : zipD (xs.map f) (ys.map g) = (xs.zip ys).map fun p => .tup [f p.1, g p.2] := by
  unfold zipD
  rw [List.zip_map, List.map_map]
  rfl
theorem enD_map {α : Type} (f : α → D) (xs : List α) : enD (xs.map f) = (List.range xs.length).map fun k => .tup [.int (k : Nat), (xs.map f).getD k .non] := by
  unfold enD
  rw [List.length_map]
/-- every number within B bits -/
def Bd (B : Nat) (X : Mt) : Prop := ∀ r ∈ X, ∀ x ∈ r, ib x ≤ B
def Wd (n : Nat) (X : Mt) : Prop := ∀ r ∈ X, r.length = n
theorem getD_mem {α : Type} {l : List α} {k : Nat} {d : α} (h : k < l.length) : l.getD k d ∈ l := by
  rw [List.getD_eq_getElem?_getD, List.getElem?_eq_getElem h]; exact List.getElem_mem h
/-- row r times column c of Y -/
def dt (r : List Int) (Y : Mt) (c : Nat) : Int := ((r.zip Y).map fun p => p.1 * p.2.getD c 0).sum
def pmt (X Y : Mt) : Mt := X.map fun r => (List.range (Y.headD []).length).map fun c => dt r Y c
theorem pmt_len {X Y : Mt} : (pmt X Y).length = X.length := List.length_map _
theorem pmt_wd {X Y : Mt} : Wd (Y.headD []).length (pmt X Y) := fun r h => by
  obtain ⟨x, _, rfl⟩ := List.mem_map.mp h
  rw [List.length_map, List.length_range]
theorem getD_range {α : Type} {f : Nat → α} {n k : Nat} {d : α} (h : k < n) : ((List.range n).map f).getD k d = f k := by
  rw [List.getD_eq_getElem?_getD, List.getElem?_map, List.getElem?_range h]; rfl
theorem pmt_at {X Y : Mt} {i c : Nat} (hi : i < X.length) (hc : c < (Y.headD []).length) : ((pmt X Y).getD i []).getD c 0 = dt (X.getD i []) Y c := by
  have h1 : (pmt X Y).getD i [] = (List.range (Y.headD []).length).map fun c => dt (X.getD i []) Y c := by
    unfold pmt
    rw [List.getD_eq_getElem?_getD, List.getElem?_map, List.getD_eq_getElem?_getD, List.getElem?_eq_getElem hi]
    rfl
  rw [h1, getD_range hc]
theorem zip_sum (f : Int → List Int → Int) : ∀ (r : List Int) (Y : Mt), r.length = Y.length → ((r.zip Y).map fun p => f p.1 p.2).sum = ((List.range Y.length).map fun j => f (r.getD j 0) (Y.getD j [])).sum
  | [], [], _ => rfl
  | [], _ :: _, h => by simp at h
  | _ :: _, [], h => by simp at h
  | x :: r, y :: Y, h => by
    rw [List.length_cons, List.range_succ_eq_map, List.map_cons, List.map_map, List.sum_cons, List.zip_cons_cons, List.map_cons, List.sum_cons, zip_sum f r Y (by simpa using h)]
    rfl
theorem dt_eq {r : List Int} {Y : Mt} {c : Nat} (h : r.length = Y.length) : dt r Y c = ((List.range Y.length).map fun j => r.getD j 0 * (Y.getD j []).getD c 0).sum := zip_sum (fun x y => x * y.getD c 0) r Y h
theorem getD_ib {r : List Int} {B c : Nat} (h : ∀ x ∈ r, ib x ≤ B) : ib (r.getD c 0) ≤ B := by
  by_cases hc : c < r.length
  · exact h _ (getD_mem hc)
  · rw [List.getD_eq_getElem?_getD, List.getElem?_eq_none (by omega)]; exact Nat.le_trans (by decide : ib 0 ≤ 0) (Nat.zero_le _)
theorem dt_bits {r : List Int} {Y : Mt} {c B B' : Nat} (hr : ∀ x ∈ r, ib x ≤ B) (hY : Bd B' Y) : ib (dt r Y c) ≤ B + B' + Y.length := by
  unfold dt
  refine Nat.le_trans (sum_bits (m := B + B') _ fun x hx => ?_) ?_
  · obtain ⟨p, hp, rfl⟩ := List.mem_map.mp hx
    obtain ⟨h1, h2⟩ := List.of_mem_zip (a := p.1) (b := p.2) hp
    exact intBits_mul_le (hr _ h1) (getD_ib (hY _ h2))
  · rw [List.length_map, List.length_zip]; omega
theorem pmt_bits {X Y : Mt} {B B' : Nat} (hX : Bd B X) (hY : Bd B' Y) : Bd (B + B' + Y.length) (pmt X Y) := fun r h x hx => by
  obtain ⟨r0, h0, rfl⟩ := List.mem_map.mp h
  obtain ⟨c, _, rfl⟩ := List.mem_map.mp hx
  exact dt_bits (hX _ h0) hY
theorem pl_mk {n : Nat} {k : Bool} {l : List D} (h : ∀ d ∈ l, D.pl n d = true) : D.pl (n + 1) (mkD k l) = true := by
  cases k <;> exact List.all_eq_true.mpr h
theorem pl_row {n : Nat} {k : Bool} {r : List Int} : D.pl (n + 1) (rowD k r) = true := pl_mk (pl_ints r)
theorem pl_rows {n : Nat} {k j : Bool} {X : Mt} : D.pl (n + 2) (rowsD k j X) = true := pl_mk fun d h => by
  obtain ⟨r, _, rfl⟩ := List.mem_map.mp h
  exact pl_row
end DL

/-! DT: numbers and fractions as texts (plain mathematics over lists of signs). -/
namespace DL
open PySem PySem.Spec PyProof.Rows L2 Evl TL
def dgt (c : Nat) : Bool := decide (48 ≤ c) && decide (c ≤ 57)
theorem dgt_iff {l : List Nat} : l.all dgt = true ↔ NumText.AllDigits l := by
  unfold NumText.AllDigits dgt
  rw [List.all_eq_true]
  simp only [Bool.and_eq_true, decide_eq_true_eq]
theorem dv_snoc (l : List Nat) (c : Nat) : NumText.digitsVal (l ++ [c]) = NumText.digitsVal l * 10 + (c - 48) := by
  unfold NumText.digitsVal
  rw [List.foldl_append]; rfl
theorem dv_back : ∀ (n : Nat) (l : List Nat), l.length = n → l ≠ [] → l.head? ≠ some 48 → NumText.AllDigits l → 1 ≤ NumText.digitsVal l ∧ numL (NumText.digitsVal l) = l
  | 0, l, hl, hn, _, _ => absurd (List.length_eq_zero_iff.mp hl) hn
  | n + 1, l, hl, hn, h0, hd => by
    obtain ⟨m, c, rfl⟩ : ∃ m c, l = m ++ [c] := ⟨l.dropLast, l.getLast hn, (List.dropLast_concat_getLast hn).symm⟩
    have hc := hd c (List.mem_append_right _ (List.mem_singleton.mpr rfl))
    rw [dv_snoc]
    by_cases hm : m = []
    · subst hm
      have h48 : c ≠ 48 := fun z => h0 (by rw [z]; rfl)
      have e : NumText.digitsVal [] = 0 := rfl
      rw [e]
      refine ⟨by omega, ?_⟩
      rw [numL_lt (by omega)]
      show [48 + (0 * 10 + (c - 48))] = [c]
      rw [show 48 + (0 * 10 + (c - 48)) = c by omega]
    · have lm : m.length = n := by
        have := hl
        rw [List.length_append] at this
        exact Nat.succ.inj this
      obtain ⟨i1, i2⟩ := dv_back n m lm hm (by
        cases m with
        | nil => exact absurd rfl hm
        | cons a r => exact h0) fun x hx => hd x (List.mem_append_left _ hx)
      refine ⟨by omega, ?_⟩
      rw [numL_step (by omega), show (NumText.digitsVal m * 10 + (c - 48)) / 10 = NumText.digitsVal m by omega, i2, show 48 + (NumText.digitsVal m * 10 + (c - 48)) % 10 = c by omega]
/-- a whole number from 1 on of at most a hundred figures -/
def nmL (l : List Nat) : Option Nat := if l ≠ [] ∧ l.length ≤ 100 ∧ l.head? ≠ some 48 ∧ l.all dgt = true then some (NumText.digitsVal l) else none
theorem dv_lt : ∀ (n : Nat) (l : List Nat), l.length = n → NumText.AllDigits l → NumText.digitsVal l < 10 ^ n
  | 0, l, hl, _ => by rw [List.length_eq_zero_iff.mp hl]; exact (by decide : (0 : Nat) < 1)
  | n + 1, l, hl, hd => by
    have hn : l ≠ [] := fun z => by rw [z] at hl; cases hl
    obtain ⟨m, c, rfl⟩ : ∃ m c, l = m ++ [c] := ⟨l.dropLast, l.getLast hn, (List.dropLast_concat_getLast hn).symm⟩
    have hc := hd c (List.mem_append_right _ (List.mem_singleton.mpr rfl))
    have lm : m.length = n := by
      have := hl
      rw [List.length_append] at this
      exact Nat.succ.inj this
    have i := dv_lt n m lm fun x hx => hd x (List.mem_append_left _ hx)
    rw [dv_snoc, Nat.pow_succ]
    omega
theorem nmL_some {l : List Nat} {n : Nat} (h : nmL l = some n) : 1 ≤ n ∧ n < 10 ^ 100 ∧ numL n = l := by
  unfold nmL at h
  split at h
  · rename_i c
    cases h
    obtain ⟨a, b⟩ := dv_back l.length l rfl c.1 c.2.2.1 (dgt_iff.mp c.2.2.2)
    exact ⟨a, Nat.lt_of_lt_of_le (dv_lt _ l rfl (dgt_iff.mp c.2.2.2)) (Nat.pow_le_pow_right (by decide) c.2.1), b⟩
  · cases h
theorem numL_head {n : Nat} (h : 1 ≤ n) : (numL n).head? ≠ some 48 := by
  induction n using Nat.strongRecOn with
  | _ n ih =>
    by_cases h1 : n < 10
    · rw [numL_lt h1]
      show some (48 + n) ≠ some 48
      intro z
      have := Option.some.inj z
      omega
    · rw [numL_step (by omega)]
      have i := ih (n / 10) (by omega) (by omega)
      cases e : numL (n / 10) with
      | nil => exact absurd e (numL_ne _)
      | cons a r => rw [e] at i; exact i
theorem nmL_num {n : Nat} (h : 1 ≤ n) (h2 : n < 10 ^ 100) : nmL (numL n) = some n := by
  unfold nmL
  rw [if_pos ⟨numL_ne n, numL_len (by decide) h2, numL_head h, dgt_iff.mpr (numL_digits n)⟩, numL_val]
/-- a number above 0: figures, or figures, a slash and figures -/
def shL (l : List Nat) : Option (Nat × Nat) := match spl [47] 0 [] l with
  | [a] => (match nmL a with | some n => some (n, 1) | none => none)
  | [a, b] => (match nmL a, nmL b with | some n, some m => if 2 ≤ m ∧ Nat.gcd n m = 1 then some (n, m) else none | _, _ => none)
  | _ => none
def wdN (n m : Nat) : List Nat := if 1 < m then numL n ++ 47 :: numL m else numL n
theorem spl_no {l : List Nat} {c : Nat} (h : c ∉ l) : spl [c] 0 [] l = [l] := by
  have := spl_last1 (s := c) (S := []) (acc := []) h
  rwa [List.nil_append] at this
theorem spl_at1 {p q : List Nat} {c : Nat} (h : c ∉ p) : spl [c] 0 [] (p ++ c :: q) = p :: spl [c] 0 [] q := by
  have := spl_part1 (s := c) (S := []) (acc := []) (p := p) (rest := q) h
  rwa [List.nil_append] at this
theorem par_at1 {p q : List Nat} {c : Nat} (h : c ∉ p) : par [c] [] (p ++ c :: q) = some (p, q) := by
  have := par_part1 (s := c) (S := []) (acc := []) (p := p) (rest := q) h
  rwa [List.nil_append] at this
/-- a text has the sign nowhere, once, or more often -/
theorem cut_at (c : Nat) (l : List Nat) : c ∉ l ∨ ∃ p q, l = p ++ c :: q ∧ c ∉ p := by
  by_cases h : c ∈ l
  · right
    induction l with
    | nil => cases h
    | cons a r ih =>
      by_cases e : a = c
      · exact ⟨[], r, by rw [e]; rfl, fun z => by cases z⟩
      · obtain ⟨p, q, e1, e2⟩ := ih ((List.mem_cons.mp h).resolve_left fun z => e z.symm)
        exact ⟨a :: p, q, by rw [e1]; rfl, fun z => (List.mem_cons.mp z).elim (fun z => e z.symm) e2⟩
  · exact .inl h
theorem spl_ne (c : Nat) (l : List Nat) : spl [c] 0 [] l ≠ [] := by
  rcases cut_at c l with h | ⟨p, q, rfl, h⟩
  · rw [spl_no h]; exact List.cons_ne_nil _ _
  · rw [spl_at1 h]; exact List.cons_ne_nil _ _
theorem shL_one {l : List Nat} (h : 47 ∉ l) : shL l = match nmL l with | some n => some (n, 1) | none => none := by
  unfold shL; rw [spl_no h]
theorem nmL_slash {l : List Nat} (h : 47 ∈ l) : nmL l = none := by
  unfold nmL
  rw [if_neg]
  intro c
  have := List.all_eq_true.mp c.2.2.2 47 h
  exact absurd this (by decide)
theorem shL_two {p q : List Nat} (h : 47 ∉ p) : shL (p ++ 47 :: q) = match nmL p, nmL q with | some n, some m => if 2 ≤ m ∧ Nat.gcd n m = 1 then some (n, m) else none | _, _ => none := by
  unfold shL
  rw [spl_at1 h]
  rcases cut_at 47 q with k | ⟨p2, q2, rfl, k⟩
  · rw [spl_no k]
  · rw [spl_at1 k, nmL_slash (l := p2 ++ 47 :: q2) (List.mem_append_right _ List.mem_cons_self)]
    have e := spl_ne 47 q2
    cases e2 : spl [47] 0 [] q2 with
    | nil => exact absurd e2 e
    | cons a r => cases nmL p <;> rfl
theorem shL_some {l : List Nat} {n m : Nat} (h : shL l = some (n, m)) : 1 ≤ n ∧ n < 10 ^ 100 ∧ 1 ≤ m ∧ m < 10 ^ 100 ∧ Nat.gcd n m = 1 ∧ wdN n m = l := by
  rcases cut_at 47 l with k | ⟨p, q, rfl, k⟩
  · rw [shL_one k] at h
    cases e : nmL l with
    | none => rw [e] at h; cases h
    | some t =>
      rw [e] at h
      cases h
      obtain ⟨a, b, c⟩ := nmL_some e
      exact ⟨a, b, Nat.le_refl _, by decide, Nat.gcd_one_right _, by unfold wdN; rw [if_neg (by decide), c]⟩
  · rw [shL_two k] at h
    cases e : nmL p with
    | none => rw [e] at h; cases h
    | some t =>
      cases e2 : nmL q with
      | none => rw [e, e2] at h; cases h
      | some u =>
        rw [e, e2] at h
        have h : (if 2 ≤ u ∧ Nat.gcd t u = 1 then some (t, u) else none) = some (n, m) := h
        split at h
        · rename_i g
          cases h
          obtain ⟨a, b, c⟩ := nmL_some e
          obtain ⟨a2, b2, c2⟩ := nmL_some e2
          exact ⟨a, b, a2, b2, g.2, by unfold wdN; rw [if_pos (by omega), c, c2]⟩
        · cases h
theorem shL_wd {n m : Nat} (h1 : 1 ≤ n) (h2 : n < 10 ^ 100) (h3 : 1 ≤ m) (h4 : m < 10 ^ 100) (h5 : Nat.gcd n m = 1) : shL (wdN n m) = some (n, m) := by
  unfold wdN
  split
  · rw [shL_two (numL_free (by decide)), nmL_num h1 h2, nmL_num h3 h4]
    exact if_pos ⟨by omega, h5⟩
  · rw [shL_one (numL_free (by decide)), nmL_num h1 h2]
    have : m = 1 := by omega
    rw [this]
theorem wdN_head (n m : Nat) : (wdN n m).head? ≠ some 45 ∧ wdN n m ≠ [] := by
  have h : (numL n).head? ≠ some 45 := fun z => by
    have := numL_digits n 45 (List.mem_of_mem_head? z)
    omega
  have h2 := numL_ne n
  unfold wdN
  split
  · cases e : numL n with
    | nil => exact absurd e h2
    | cons a r => rw [e] at h; exact ⟨h, List.cons_ne_nil _ _⟩
  · exact ⟨h, h2⟩
abbrev Shr := Int × Int
def ShOk (p : Shr) : Prop := p.1.natAbs < 10 ^ 100 ∧ 1 ≤ p.2 ∧ p.2.natAbs < 10 ^ 100 ∧ Nat.gcd p.1.natAbs p.2.natAbs = 1
/-- a number with its sign, as law and program read it -/
def rdL (l : List Nat) : Option Shr := if l = [48] then some (0, 1) else if l.head? = some 45 then (match shL l.tail with | some p => some (-(p.1 : Int), (p.2 : Int)) | none => none) else (match shL l with | some p => some ((p.1 : Int), (p.2 : Int)) | none => none)
def wdL (p : Shr) : List Nat := if p.1 < 0 then 45 :: wdN p.1.natAbs p.2.natAbs else wdN p.1.natAbs p.2.natAbs
theorem rdL_some {l : List Nat} {p : Shr} (h : rdL l = some p) : ShOk p ∧ wdL p = l := by
  unfold rdL at h
  split at h
  · rename_i e
    cases h
    refine ⟨⟨by decide, by decide, by decide, by decide⟩, ?_⟩
    rw [e]; unfold wdL wdN
    rw [if_neg (by decide), if_neg (by decide)]
    exact numL_lt (by decide)
  · split at h
    · rename_i e
      cases k : shL l.tail with
      | none => rw [k] at h; cases h
      | some q =>
        rw [k] at h
        cases h
        obtain ⟨a, b, c, d, g, w⟩ := shL_some k
        refine ⟨⟨by show (-(q.1 : Int)).natAbs < _; omega, by show (1 : Int) ≤ q.2; omega, by show ((q.2 : Int)).natAbs < _; omega, by show Nat.gcd (-(q.1 : Int)).natAbs ((q.2 : Int)).natAbs = 1; rw [Int.natAbs_neg]; exact g⟩, ?_⟩
        unfold wdL
        rw [if_pos (by show -(q.1 : Int) < 0; omega)]
        show 45 :: wdN (-(q.1 : Int)).natAbs ((q.2 : Int)).natAbs = l
        rw [Int.natAbs_neg]
        show 45 :: wdN q.1 q.2 = l
        rw [w]
        cases l with
        | nil => cases e
        | cons x r => cases e; rfl
    · cases k : shL l with
      | none => rw [k] at h; cases h
      | some q =>
        rw [k] at h
        cases h
        obtain ⟨a, b, c, d, g, w⟩ := shL_some k
        refine ⟨⟨by show ((q.1 : Int)).natAbs < _; omega, by show (1 : Int) ≤ q.2; omega, by show ((q.2 : Int)).natAbs < _; omega, g⟩, ?_⟩
        unfold wdL
        rw [if_neg (by show ¬ (q.1 : Int) < 0; omega)]
        exact w
theorem rdL_wd {p : Shr} (h : ShOk p) : rdL (wdL p) = some p := by
  obtain ⟨t, u⟩ := p
  obtain ⟨h1, h2, h3, h4⟩ := h
  have h1 : t.natAbs < 10 ^ 100 := h1
  have h2 : 1 ≤ u := h2
  have h3 : u.natAbs < 10 ^ 100 := h3
  have h4 : Nat.gcd t.natAbs u.natAbs = 1 := h4
  unfold wdL
  by_cases tn : t < 0
  · rw [if_pos tn]
    unfold rdL
    rw [if_neg (by simp), if_pos (show (45 :: wdN (t, u).fst.natAbs (t, u).snd.natAbs).head? = some 45 from rfl)]
    show (match shL (wdN t.natAbs u.natAbs) with | some p => some (-(p.1 : Int), (p.2 : Int)) | none => none) = some (t, u)
    rw [shL_wd (by omega) h1 (by omega) h3 h4]
    show some (-((t.natAbs : Nat) : Int), ((u.natAbs : Nat) : Int)) = some (t, u)
    rw [show -((t.natAbs : Nat) : Int) = t by omega, show ((u.natAbs : Nat) : Int) = u by omega]
  · rw [if_neg tn]
    by_cases t0 : t = 0
    · subst t0
      have hu : u = 1 := by
        rw [show (0 : Int).natAbs = 0 from rfl, Nat.gcd_zero_left] at h4
        omega
      subst hu
      unfold rdL
      rw [if_pos]
      show wdN 0 1 = [48]
      unfold wdN
      rw [if_neg (by decide)]
      exact numL_lt (by decide)
    · unfold rdL
      have hh := (wdN_head t.natAbs u.natAbs).1
      have h48 : wdN t.natAbs u.natAbs ≠ [48] := fun z => by
        have e := shL_wd (n := t.natAbs) (m := u.natAbs) (by omega) h1 (by omega) h3 h4
        rw [z] at e
        exact absurd e (by
          have : shL [48] = none := by
            rw [shL_one (by decide)]; decide
          rw [this]; exact fun z => by cases z)
      show (if wdN t.natAbs u.natAbs = [48] then _ else if (wdN t.natAbs u.natAbs).head? = some 45 then _ else _) = _
      rw [if_neg h48, if_neg hh, shL_wd (by omega) h1 (by omega) h3 h4]
      show some (((t.natAbs : Nat) : Int), ((u.natAbs : Nat) : Int)) = some (t, u)
      rw [show ((t.natAbs : Nat) : Int) = t by omega, show ((u.natAbs : Nat) : Int) = u by omega]
theorem wdL_free {p : Shr} : 44 ∉ wdL p := by
  have n : ∀ k, 44 ∉ numL k := fun k => numL_free (by decide)
  unfold wdL wdN
  split <;> split <;> simp [n]
/-- all of a list's words -/
def rdA : List (List Nat) → Option (List Shr)
  | [] => some []
  | l :: r => match rdL l, rdA r with | some p, some ps => some (p :: ps) | _, _ => none
theorem rdA_some : ∀ {ls : List (List Nat)} {ps : List Shr}, rdA ls = some ps → (∀ p ∈ ps, ShOk p) ∧ ps.map wdL = ls
  | [], ps, h => by cases h; exact ⟨fun _ m => (by cases m), rfl⟩
  | l :: r, ps, h => by
    unfold rdA at h
    cases e : rdL l with
    | none => rw [e] at h; cases h
    | some p =>
      cases e2 : rdA r with
      | none => rw [e, e2] at h; cases h
      | some qs =>
        rw [e, e2] at h
        cases h
        obtain ⟨a, b⟩ := rdA_some e2
        obtain ⟨c, d⟩ := rdL_some e
        exact ⟨fun q m => (List.mem_cons.mp m).elim (fun z => z ▸ c) (a q), by rw [List.map_cons, d, b]⟩
theorem rdA_wd : ∀ {ps : List Shr}, (∀ p ∈ ps, ShOk p) → rdA (ps.map wdL) = some ps
  | [], _ => rfl
  | p :: r, h => by
    rw [List.map_cons]
    unfold rdA
    rw [rdL_wd (h p List.mem_cons_self), rdA_wd fun q m => h q (List.mem_cons_of_mem _ m)]
/-- the place of shares -/
def lcS (l : Int) (p : Shr) : Int := (l * p.2).fdiv (gd l p.2)
def uS (ps : List Shr) : Int := ps.foldl lcS 1
def tS (ps : List Shr) : List Int := ps.map fun p => p.1 * (uS ps).fdiv p.2
theorem lcS_lcm {l : Int} {p : Shr} (hl : 0 < l) (hu : 0 < p.2) : lcS l p = (Nat.lcm l.natAbs p.2.natAbs : Nat) := by
  obtain ⟨a, rfl⟩ : ∃ a : Nat, l = a := ⟨l.toNat, by omega⟩
  obtain ⟨t, u⟩ := p
  dsimp only at hu ⊢
  obtain ⟨b, rfl⟩ : ∃ b : Nat, u = b := ⟨u.toNat, by omega⟩
  unfold lcS gd
  dsimp only
  rw [Int.natAbs_natCast, Int.natAbs_natCast, Int.fdiv_eq_ediv_of_nonneg _ (by omega)]
  unfold Nat.lcm
  rw [← Int.natCast_mul, Int.natCast_ediv]
theorem lcS_pos {l : Int} {p : Shr} (hl : 0 < l) (hu : 0 < p.2) : 0 < lcS l p := by
  rw [lcS_lcm hl hu]
  have := Nat.lcm_pos (m := l.natAbs) (n := p.2.natAbs) (by omega) (by omega)
  omega
theorem uS_spec : ∀ (vs : List Shr) (l : Int), 0 < l → (∀ p ∈ vs, 0 < p.2) → 0 < vs.foldl lcS l ∧ l ∣ vs.foldl lcS l ∧ (∀ p ∈ vs, p.2 ∣ vs.foldl lcS l) ∧ ∀ N : Int, l ∣ N → (∀ p ∈ vs, p.2 ∣ N) → vs.foldl lcS l ∣ N
  | [], l, hl, _ => ⟨hl, Int.dvd_refl _, fun _ h => (by cases h), fun N h _ => h⟩
  | p :: vs, l, hl, hp => by
    have p0 := hp p List.mem_cons_self
    have e := lcS_lcm hl p0
    obtain ⟨h1, h2, h3, h4⟩ := uS_spec vs (lcS l p) (lcS_pos hl p0) fun q hq => hp q (List.mem_cons_of_mem _ hq)
    have d1 : l ∣ lcS l p := by rw [e]; exact Int.natAbs_dvd_natAbs.mp (by rw [Int.natAbs_natCast]; exact Nat.dvd_lcm_left _ _)
    have d2 : p.2 ∣ lcS l p := by rw [e]; exact Int.natAbs_dvd_natAbs.mp (by rw [Int.natAbs_natCast]; exact Nat.dvd_lcm_right _ _)
    refine ⟨h1, Int.dvd_trans d1 h2, fun q hq => ?_, fun N hN hq => h4 N ?_ fun q h => hq q (List.mem_cons_of_mem _ h)⟩
    · rcases List.mem_cons.mp hq with rfl | hq
      · exact Int.dvd_trans d2 h2
      · exact h3 q hq
    · rw [e]
      exact Int.natAbs_dvd_natAbs.mp (by rw [Int.natAbs_natCast]; exact Nat.lcm_dvd (Int.natAbs_dvd_natAbs.mpr hN) (Int.natAbs_dvd_natAbs.mpr (hq p List.mem_cons_self)))
theorem uS_W {vs : List Shr} (h : ∀ p ∈ vs, ShOk p) : 0 < uS vs ∧ (∀ p ∈ vs, p.2 ∣ uS vs) ∧ ∀ N : Int, (∀ p ∈ vs, p.2 ∣ N) → uS vs ∣ N := by
  obtain ⟨h1, _, h3, h4⟩ := uS_spec vs 1 (by decide) fun p m => by have := (h p m).2.1; omega
  exact ⟨h1, h3, fun N k => h4 N (Int.one_dvd _) k⟩
/-- the under shared by all: U = b * (U / b), the top is t * (U / b) -/
theorem tS_gd {U t b : Int} (hb : 1 ≤ b) (hU : 0 < U) (hd : b ∣ U) (hg : Nat.gcd t.natAbs b.natAbs = 1) : gd (t * U.fdiv b) U = U.fdiv b ∧ 0 < U.fdiv b ∧ U = b * U.fdiv b := by
  have e : b * U.fdiv b = U := mul_div_of (by omega) hd
  have kp : 0 < U.fdiv b := by
    rcases Int.lt_trichotomy (U.fdiv b) 0 with h | h | h
    · have := Int.mul_neg_of_pos_of_neg (show 0 < b by omega) h
      omega
    · rw [h, Int.mul_zero] at e; omega
    · exact h
  refine ⟨?_, kp, e.symm⟩
  unfold gd
  have h1 : U.natAbs = b.natAbs * (U.fdiv b).natAbs := by rw [← Int.natAbs_mul, e]
  rw [h1, Int.natAbs_mul, Nat.gcd_mul_right, hg, Nat.one_mul]
  omega
theorem low_S {ps : List Shr} (h : ∀ p ∈ ps, ShOk p) : low (uS ps) (tS ps) := by
  obtain ⟨u0, u1, u2⟩ := uS_W h
  refine low_of u0 fun c hc cu ct => ?_
  have hc0 : c ≠ 0 := fun z => by rw [z] at cu; have := Int.zero_dvd.mp cu; omega
  obtain ⟨k, hk⟩ := cu
  have : uS ps ∣ k := by
    refine u2 k fun p m => ?_
    obtain ⟨g1, g2, g3⟩ := tS_gd (t := p.1) (h p m).2.1 u0 (u1 p m) (h p m).2.2.2
    have d1 : c ∣ p.1 * (uS ps).fdiv p.2 := ct _ (List.mem_map.mpr ⟨p, m, rfl⟩)
    have d2 : c ∣ uS ps := ⟨k, hk⟩
    have d3 := gd_dvd d1 d2
    rw [g1] at d3
    obtain ⟨j, hj⟩ := d3
    have : c * k = c * (p.2 * j) := by rw [← hk, Int.mul_left_comm, ← hj, ← g3]
    exact ⟨j, Int.eq_of_mul_eq_mul_left hc0 this⟩
  obtain ⟨j, hj⟩ := this
  have e : uS ps * (c * j) = uS ps * 1 := by
    rw [Int.mul_one, Int.mul_left_comm, ← hj]; exact hk.symm
  have e1 : c * j = 1 := Int.eq_of_mul_eq_mul_left (by omega) e
  exact Int.eq_one_of_mul_eq_one_right hc e1
end DL

namespace G_crystalwords_k19_places_written
open PySem PySem.Spec PyProof.Rows L2 DL
/-! the text -/
def topS (i : Nat) : Stmt := PySem.Challenge.pw_crystalwords_k19_places_written.main.body.getD i (.Pass ⟨0, 0, 0, 0⟩)
def tab : ETab := ("NoPlace", "NoDeed", false) :: ("NoPlace", "NoNumber", false) :: ("NoPlace", "NoPlace", true) :: ("NoPlace", "NoText", false) :: ("NoPlace", "TooMany", false) :: ("NoPlace", "ValueError", true) :: ("NoText", "NoDeed", false) :: ("NoText", "NoNumber", false) :: ("NoText", "NoPlace", false) :: ("NoText", "NoText", true) :: ("NoText", "TooMany", false) :: ("NoText", "ValueError", true) :: []
theorem t_NoPlace_NoDeed : tabAt tab "NoPlace" "NoDeed" = some false := by decide +kernel
theorem t_NoPlace_NoNumber : tabAt tab "NoPlace" "NoNumber" = some false := by decide +kernel
theorem t_NoPlace_NoPlace : tabAt tab "NoPlace" "NoPlace" = some true := by decide +kernel
theorem t_NoPlace_NoText : tabAt tab "NoPlace" "NoText" = some false := by decide +kernel
theorem t_NoPlace_TooMany : tabAt tab "NoPlace" "TooMany" = some false := by decide +kernel
theorem t_NoPlace_ValueError : tabAt tab "NoPlace" "ValueError" = some true := by decide +kernel
theorem t_NoText_NoDeed : tabAt tab "NoText" "NoDeed" = some false := by decide +kernel
theorem t_NoText_NoNumber : tabAt tab "NoText" "NoNumber" = some false := by decide +kernel
theorem t_NoText_NoPlace : tabAt tab "NoText" "NoPlace" = some false := by decide +kernel
theorem t_NoText_NoText : tabAt tab "NoText" "NoText" = some true := by decide +kernel
theorem t_NoText_TooMany : tabAt tab "NoText" "TooMany" = some false := by decide +kernel
theorem t_NoText_ValueError : tabAt tab "NoText" "ValueError" = some true := by decide +kernel
def cat : ETab := [("NoPlace", "CrystalError", true), ("NoText", "CrystalError", true)]
theorem t_NoPlace_CrystalError_c : tabAt cat "NoPlace" "CrystalError" = some true := by decide +kernel
theorem t_NoText_CrystalError_c : tabAt cat "NoText" "CrystalError" = some true := by decide +kernel
theorem dv_4 : DivOk 4 = True := eq_true (divOk_of (m := 3) (by decide) (by decide) (by decide))
theorem dv_8 : DivOk 8 = True := eq_true (divOk_of (m := 4) (by decide) (by decide) (by decide))
theorem dv_16 : DivOk 16 = True := eq_true (divOk_of (m := 5) (by decide) (by decide) (by decide))
theorem nz_2 : ((2 : Int) = 0) = False := eq_false (by decide)
theorem nz_4 : ((4 : Int) = 0) = False := eq_false (by decide)
theorem nz_8 : ((8 : Int) = 0) = False := eq_false (by decide)
theorem nz_19 : ((19 : Int) = 0) = False := eq_false (by decide)
theorem nz_22 : ((22 : Int) = 0) = False := eq_false (by decide)
theorem nz_24 : ((24 : Int) = 0) = False := eq_false (by decide)
theorem nz_31 : ((31 : Int) = 0) = False := eq_false (by decide)
theorem pw_10_50 : PowOk 10 50 = True := eq_true (by decide)
theorem pw_13_60 : PowOk 13 60 = True := eq_true (by decide)
theorem pw_17_26 : PowOk 17 26 = True := eq_true (by decide)
def kFIGURES : D := .str "0123456789"
def kMOST_FIGURES : D := .int (100)

abbrev s_divisor : Stmt := topS 8
theorem sc_divisor : FnScope ["one", "other"] ["one", "other"] (defScope s_divisor) := ⟨rfl, rfl, rfl, by decide +kernel, rfl, by decide +kernel, by decide +kernel⟩
noncomputable def b_divisor : M Fl :=
  (sq (mAsg 0 (bnd (aCons (mVar 0) aNil) (c1i fun i => ret (.int (iAbs i)))))
  (sq (mAsg 1 (bnd (aCons (mVar 1) aNil) (c1i fun i => ret (.int (iAbs i)))))
  (sq (mWh (bnd (m2 (mVar 1) (ret (.int 0)) (g2i (iCmp fun i j => decide (j < i)))) mB) (mPar 0 1 (aCons (mVar 1) (aCons (m2 (mVar 0) (mVar 1) (g2i iMod)) aNil))))
  (mRet (mVar 0)))))
noncomputable def F_divisor : List D → Rs := runF 2 b_divisor
abbrev N_divisor : List Str := ["one", "other"]
abbrev sk_divisor : Scope := defScope s_divisor
theorem v_divisor_0 : okV N_divisor sk_divisor 0 "one" = true := by decide +kernel
theorem v_divisor_1 : okV N_divisor sk_divisor 1 "other" = true := by decide +kernel
theorem w_divisor_0 : okS N_divisor sk_divisor sk_divisor 0 "one" = true := by decide +kernel
theorem w_divisor_1 : okS N_divisor sk_divisor sk_divisor 1 "other" = true := by decide +kernel
theorem g_divisor_abs : okG sk_divisor "abs" = true := by decide +kernel
set_option maxHeartbeats 4000000 in
theorem j_divisor {X : Cx} {W : WX} (C : CtxOk X W) (V : Nm X N_divisor sk_divisor sk_divisor) (Y : Df X) (z_abs : X.mg "abs" = none) : JSs X W (defBody s_divisor) b_divisor :=
  (jss_cons (js_asg V w_divisor_0 (je_abs V g_divisor_abs z_abs (ja_cons (je_var V v_divisor_0) ja_nil)))
    (jss_cons (js_asg V w_divisor_1 (je_abs V g_divisor_abs z_abs (ja_cons (je_var V v_divisor_1) ja_nil)))
    (jss_cons (js_while C (jt_gt (je_var V v_divisor_1) je_int) (jss_one (js_par C V w_divisor_0 w_divisor_1 (by decide +kernel) (ja_cons (je_var V v_divisor_1) (ja_cons (je_mod (je_var V v_divisor_0) (je_var V v_divisor_1)) ja_nil)))))
    (jss_one (js_ret (je_var V v_divisor_0))))))
theorem ok_divisor {P : Program} {w : World} {K : PySem.W.Frag} {mg : MG} {base : Heap} {f : Addr} {fd : FuncData} (F : Fun K "divisor" "divisor" s_divisor f fd) (gm : mg "divisor" = some (.ref f)) (z_abs : mg "abs" = none) :
    FnOk P w K mg base (L2N.CX P w) 1 f fd ["one", "other"] (spP K mg 2 F_divisor) ∧ Callee P w K mg base "divisor" 1 2 F_divisor := by
  have G : FnOk P w K mg base (L2N.CX P w) 1 f fd ["one", "other"] (spP K mg 2 F_divisor) := by
    have G0 := fn_ok (P := P) (w := w) (K := K) (mg := mg) (base := base) (N := N_divisor) (ps := ["one", "other"]) (k := 0) (g := b_divisor) F sc_divisor (fun X W hP hw hK hmg hb hr C V Y => by subst hP hw hK hmg hb; exact j_divisor C V Y z_abs)
    exact G0
  exact ⟨G, callee_of G gm F.kp (F.binds (ps := ["one", "other"]) fun _ _ _ _ _ _ us hl => match us, hl with | [_, _], _ => rfl)⟩

abbrev s_place : Stmt := topS 10
theorem sc_place : FnScope ["tops", "under", "by", "top"] ["tops", "under"] (defScope s_place) := ⟨rfl, rfl, rfl, by decide +kernel, rfl, by decide +kernel, by decide +kernel⟩
noncomputable def b_place : M Fl :=
  (sq (mIf (bOr (bnd (m2 (mVar 1) (ret (.int 0)) mEq) mB) (bnd (m2 (has 0 (onSl 0 fun d => cLen [d])) (ret (.int 0)) mEq) mB)) (mRaise "NoPlace") nx)
  (sq (mAsg 2 (bnd (aCons (mVar 1) aNil) (c1i fun i => ret (.int (iAbs i)))))
  (sq (bnd (mSeq (mVar 0)) (forL (gN 3) (mAsg 2 (mCall (aCons (mVar 2) (aCons (mVar 3) aNil)) F_divisor))))
  (sq (mIf (bnd (m2 (mVar 1) (ret (.int 0)) (g2i (iCmp fun i j => decide (i < j)))) mB) (mAsg 2 (bnd (mVar 2) (u1i fun i => ret (.int (-i))))) nx)
  (mRet (mTup (aCons (bnd (aCons (mLc [3] (mSeq (mVar 0)) (gN 3) (ret true) (m2 (mVar 3) (mVar 2) (g2i iDiv))) aNil) cTuple) (aCons (m2 (mVar 1) (mVar 2) (g2i iDiv)) aNil))))))))
noncomputable def F_place : List D → Rs := runF 4 b_place
abbrev N_place : List Str := ["tops", "under", "by", "top"]
abbrev sk_place : Scope := defScope s_place
theorem v_place_0 : okV N_place sk_place 0 "tops" = true := by decide +kernel
theorem v_place_1 : okV N_place sk_place 1 "under" = true := by decide +kernel
theorem v_place_2 : okV N_place sk_place 2 "by" = true := by decide +kernel
theorem v_place_3 : okV N_place sk_place 3 "top" = true := by decide +kernel
theorem w_place_2 : okS N_place sk_place sk_place 2 "by" = true := by decide +kernel
theorem w_place_3 : okS N_place sk_place sk_place 3 "top" = true := by decide +kernel
theorem g_place_NoPlace : okG sk_place "NoPlace" = true := by decide +kernel
theorem g_place_abs : okG sk_place "abs" = true := by decide +kernel
theorem g_place_divisor : okG sk_place "divisor" = true := by decide +kernel
theorem g_place_len : okG sk_place "len" = true := by decide +kernel
theorem g_place_tuple : okG sk_place "tuple" = true := by decide +kernel
set_option maxHeartbeats 4000000 in
theorem j_place {X : Cx} {W : WX} (C : CtxOk X W) (V : Nm X N_place sk_place sk_place) (Y : Df X) (c_divisor : Cal X "divisor" 2 F_divisor) (z_abs : X.mg "abs" = none) (z_len : X.mg "len" = none) (z_tuple : X.mg "tuple" = none) {C_NoPlace : Addr} (x_NoPlace : ExcR X.K X.mg "NoPlace" C_NoPlace) : JSs X W (defBody s_place) b_place :=
  (jss_cons (js_if (JW.jt (jw_or (jt_eq C (je_var V v_place_1) je_int) (jw_or1 (jt_eq C (je_lenN V v_place_0 g_place_len z_len) je_int)))) (jss_one (js_raise C V g_place_NoPlace x_NoPlace)) jss_nil)
    (jss_cons (js_asg V w_place_2 (je_abs V g_place_abs z_abs (ja_cons (je_var V v_place_1) ja_nil)))
    (jss_cons (js_for C (ji_seq (je_var V v_place_0)) (jg_name V w_place_3) (jss_one (js_asg V w_place_2 (je_call C V g_place_divisor c_divisor (ja_cons (je_var V v_place_2) (ja_cons (je_var V v_place_3) ja_nil)) (alen_cons (alen_cons alen_nil))))))
    (jss_cons (js_if (jt_lt (je_var V v_place_1) je_int) (jss_one (js_asg V w_place_2 (je_neg (je_var V v_place_2)))) jss_nil)
    (jss_one (js_ret (je_tup (ja_cons (je_tuple V g_place_tuple z_tuple (ja_cons (je_lc (own := [("top", 3)]) C V (by decide +kernel) rfl (ji_seq (je_var V v_place_0)) (fun X1 V1 C1 B1 => (jgv_name V1 (by decide +kernel) (by decide))) (fun X1 V1 C1 B1 => jts_nil) (fun X1 V1 C1 B1 => (je_fdiv (je_var V1 (by decide +kernel)) (je_var V1 (by decide +kernel))))) ja_nil)) (ja_cons (je_fdiv (je_var V v_place_1) (je_var V v_place_2)) ja_nil)))))))))
theorem ok_place {P : Program} {w : World} {K : PySem.W.Frag} {mg : MG} {base : Heap} {f : Addr} {fd : FuncData} (F : Fun K "place" "place" s_place f fd) (gm : mg "place" = some (.ref f)) (c_divisor : Callee P w K mg base "divisor" 1 2 F_divisor) (z_abs : mg "abs" = none) (z_len : mg "len" = none) (z_tuple : mg "tuple" = none) {C_NoPlace : Addr} (x_NoPlace : ExcR K mg "NoPlace" C_NoPlace) :
    FnOk P w K mg base (L2N.CX P w) 2 f fd ["tops", "under"] (spP K mg 2 F_place) ∧ Callee P w K mg base "place" 2 2 F_place := by
  have G : FnOk P w K mg base (L2N.CX P w) 2 f fd ["tops", "under"] (spP K mg 2 F_place) := by
    have G0 := fn_ok (P := P) (w := w) (K := K) (mg := mg) (base := base) (N := N_place) (ps := ["tops", "under"]) (k := 1) (g := b_place) F sc_place (fun X W hP hw hK hmg hb hr C V Y => by subst hP hw hK hmg hb; exact j_place C V Y (c_divisor.cal hr) z_abs z_len z_tuple x_NoPlace)
    exact G0
  exact ⟨G, callee_of G gm F.kp (F.binds (ps := ["tops", "under"]) fun _ _ _ _ _ _ us hl => match us, hl with | [_, _], _ => rfl)⟩

abbrev s_number_of : Stmt := topS 14
theorem sc_number_of : FnScope ["word", "sign"] ["word"] (defScope s_number_of) := ⟨rfl, rfl, rfl, by decide +kernel, rfl, by decide +kernel, by decide +kernel⟩
noncomputable def b_number_of : M Fl :=
  (sq (mIf (bOr (bnd (m2 (has 0 (onSl 0 fun d => cLen [d])) (ret (.int 1)) (g2i (iCmp fun i j => decide (i < j)))) mB) (bOr (bnd (m2 (has 0 (onSl 0 fun d => cLen [d])) (ret kMOST_FIGURES) (g2i (iCmp fun i j => decide (j < i)))) mB) (bnd (m2 (mIxN 0 (ret (.int 0))) (ret (.str "0")) mEq) mB))) (mRaise "NoText") nx)
  (sq (bnd (mSeq (mVar 0)) (forL (gN 1) (mIf (bnd (m2 (mVar 1) (ret kFIGURES) (dIn true)) mB) (mRaise "NoText") nx)))
  (mRet (bnd (aCons (mVar 0) aNil) cIntS))))
noncomputable def F_number_of : List D → Rs := runF 2 b_number_of
abbrev N_number_of : List Str := ["word", "sign"]
abbrev sk_number_of : Scope := defScope s_number_of
theorem v_number_of_0 : okV N_number_of sk_number_of 0 "word" = true := by decide +kernel
theorem v_number_of_1 : okV N_number_of sk_number_of 1 "sign" = true := by decide +kernel
theorem w_number_of_1 : okS N_number_of sk_number_of sk_number_of 1 "sign" = true := by decide +kernel
theorem g_number_of_FIGURES : okG sk_number_of "FIGURES" = true := by decide +kernel
theorem g_number_of_MOST_FIGURES : okG sk_number_of "MOST_FIGURES" = true := by decide +kernel
theorem g_number_of_NoText : okG sk_number_of "NoText" = true := by decide +kernel
theorem g_number_of_int : okG sk_number_of "int" = true := by decide +kernel
theorem g_number_of_len : okG sk_number_of "len" = true := by decide +kernel
set_option maxHeartbeats 4000000 in
theorem j_number_of {X : Cx} {W : WX} (C : CtxOk X W) (V : Nm X N_number_of sk_number_of sk_number_of) (Y : Df X) (z_int : X.mg "int" = none) (z_len : X.mg "len" = none) {C_NoText : Addr} (x_NoText : ExcR X.K X.mg "NoText" C_NoText) (k_FIGURES : Kst X.mg "FIGURES" kFIGURES) (k_MOST_FIGURES : Kst X.mg "MOST_FIGURES" kMOST_FIGURES) : JSs X W (defBody s_number_of) b_number_of :=
  (jss_cons (js_if (JW.jt (jw_or (jt_lt (je_lenN V v_number_of_0 g_number_of_len z_len) je_int) (jw_or (jt_gt (je_lenN V v_number_of_0 g_number_of_len z_len) (je_const V g_number_of_MOST_FIGURES k_MOST_FIGURES)) (jw_or1 (jt_eq C (je_ixN V v_number_of_0 je_int) je_str))))) (jss_one (js_raise C V g_number_of_NoText x_NoText)) jss_nil)
    (jss_cons (js_for C (ji_seq (je_var V v_number_of_0)) (jg_name V w_number_of_1) (jss_one (js_if (jt_nin (je_var V v_number_of_1) (je_const V g_number_of_FIGURES k_FIGURES)) (jss_one (js_raise C V g_number_of_NoText x_NoText)) jss_nil)))
    (jss_one (js_ret (je_intS V g_number_of_int z_int (ja_cons (je_var V v_number_of_0) ja_nil))))))
theorem ok_number_of {P : Program} {w : World} {K : PySem.W.Frag} {mg : MG} {base : Heap} {f : Addr} {fd : FuncData} (F : Fun K "number_of" "number_of" s_number_of f fd) (gm : mg "number_of" = some (.ref f)) (z_int : mg "int" = none) (z_len : mg "len" = none) {C_NoText : Addr} (x_NoText : ExcR K mg "NoText" C_NoText) (k_FIGURES : Kst mg "FIGURES" kFIGURES) (k_MOST_FIGURES : Kst mg "MOST_FIGURES" kMOST_FIGURES) :
    FnOk P w K mg base (L2N.CX P w) 1 f fd ["word"] (spP K mg 1 F_number_of) ∧ Callee P w K mg base "number_of" 1 1 F_number_of := by
  have G : FnOk P w K mg base (L2N.CX P w) 1 f fd ["word"] (spP K mg 1 F_number_of) := by
    have G0 := fn_ok (P := P) (w := w) (K := K) (mg := mg) (base := base) (N := N_number_of) (ps := ["word"]) (k := 0) (g := b_number_of) F sc_number_of (fun X W hP hw hK hmg hb hr C V Y => by subst hP hw hK hmg hb; exact j_number_of C V Y z_int z_len x_NoText k_FIGURES k_MOST_FIGURES)
    exact G0
  exact ⟨G, callee_of G gm F.kp (F.binds (ps := ["word"]) fun _ _ _ _ _ _ us hl => match us, hl with | [_], _ => rfl)⟩

abbrev s_share_of : Stmt := topS 15
theorem sc_share_of : FnScope ["word", "top", "slash", "bottom", "found"] ["word"] (defScope s_share_of) := ⟨rfl, rfl, rfl, by decide +kernel, rfl, by decide +kernel, by decide +kernel⟩
noncomputable def b_share_of : M Fl :=
  (sq (mAsgT (bnd (mVar 0) (xStr fun s => bnd (ret (.str "/")) (dPart s))) (gTp 3 (gsCons (gN 1) (gsCons (gN 2) (gsCons (gN 3) gsNil)))))
  (sq (mIf (bnd (m2 (mVar 2) (ret (.str "")) mEq) mB) (mRet (mTup (aCons (mCall (aCons (mVar 1) aNil) F_number_of) (aCons (ret (.int 1)) aNil)))) nx)
  (sq (mAsg 4 (mTup (aCons (mCall (aCons (mVar 1) aNil) F_number_of) (aCons (mCall (aCons (mVar 3) aNil) F_number_of) aNil))))
  (sq (mIf (bOr (bnd (m2 (mIxN 4 (ret (.int 1))) (ret (.int 2)) (g2i (iCmp fun i j => decide (i < j)))) mB) (bnd (m2 (mCall (aCons (mIxN 4 (ret (.int 0))) (aCons (mIxN 4 (ret (.int 1))) aNil)) F_divisor) (ret (.int 1)) (g2i (iCmp fun i j => decide (j < i)))) mB)) (mRaise "NoText") nx)
  (mRet (mVar 4))))))
noncomputable def F_share_of : List D → Rs := runF 5 b_share_of
abbrev N_share_of : List Str := ["word", "top", "slash", "bottom", "found"]
abbrev sk_share_of : Scope := defScope s_share_of
theorem v_share_of_0 : okV N_share_of sk_share_of 0 "word" = true := by decide +kernel
theorem v_share_of_1 : okV N_share_of sk_share_of 1 "top" = true := by decide +kernel
theorem v_share_of_2 : okV N_share_of sk_share_of 2 "slash" = true := by decide +kernel
theorem v_share_of_3 : okV N_share_of sk_share_of 3 "bottom" = true := by decide +kernel
theorem v_share_of_4 : okV N_share_of sk_share_of 4 "found" = true := by decide +kernel
theorem w_share_of_1 : okS N_share_of sk_share_of sk_share_of 1 "top" = true := by decide +kernel
theorem w_share_of_2 : okS N_share_of sk_share_of sk_share_of 2 "slash" = true := by decide +kernel
theorem w_share_of_3 : okS N_share_of sk_share_of sk_share_of 3 "bottom" = true := by decide +kernel
theorem w_share_of_4 : okS N_share_of sk_share_of sk_share_of 4 "found" = true := by decide +kernel
theorem g_share_of_NoText : okG sk_share_of "NoText" = true := by decide +kernel
theorem g_share_of_divisor : okG sk_share_of "divisor" = true := by decide +kernel
theorem g_share_of_number_of : okG sk_share_of "number_of" = true := by decide +kernel
set_option maxHeartbeats 4000000 in
theorem j_share_of {X : Cx} {W : WX} (C : CtxOk X W) (V : Nm X N_share_of sk_share_of sk_share_of) (Y : Df X) (c_number_of : Cal X "number_of" 1 F_number_of) (c_divisor : Cal X "divisor" 2 F_divisor) {C_NoText : Addr} (x_NoText : ExcR X.K X.mg "NoText" C_NoText) : JSs X W (defBody s_share_of) b_share_of :=
  (jss_cons (js_asgT (je_partition (je_var V v_share_of_0) je_str) (jg_tup (n := 3) C (jgs_cons (jg_name V w_share_of_1) (jgs_cons (jg_name V w_share_of_2) (jgs_cons (jg_name V w_share_of_3) jgs_nil)))))
    (jss_cons (js_if (jt_eq C (je_var V v_share_of_2) je_str) (jss_one (js_ret (je_tup (ja_cons (je_call C V g_share_of_number_of c_number_of (ja_cons (je_var V v_share_of_1) ja_nil) (alen_cons alen_nil)) (ja_cons je_int ja_nil))))) jss_nil)
    (jss_cons (js_asg V w_share_of_4 (je_tup (ja_cons (je_call C V g_share_of_number_of c_number_of (ja_cons (je_var V v_share_of_1) ja_nil) (alen_cons alen_nil)) (ja_cons (je_call C V g_share_of_number_of c_number_of (ja_cons (je_var V v_share_of_3) ja_nil) (alen_cons alen_nil)) ja_nil))))
    (jss_cons (js_if (JW.jt (jw_or (jt_lt (je_ixN V v_share_of_4 je_int) je_int) (jw_or1 (jt_gt (je_call C V g_share_of_divisor c_divisor (ja_cons (je_ixN V v_share_of_4 je_int) (ja_cons (je_ixN V v_share_of_4 je_int) ja_nil)) (alen_cons (alen_cons alen_nil))) je_int)))) (jss_one (js_raise C V g_share_of_NoText x_NoText)) jss_nil)
    (jss_one (js_ret (je_var V v_share_of_4)))))))
theorem ok_share_of {P : Program} {w : World} {K : PySem.W.Frag} {mg : MG} {base : Heap} {f : Addr} {fd : FuncData} (F : Fun K "share_of" "share_of" s_share_of f fd) (gm : mg "share_of" = some (.ref f)) (c_number_of : Callee P w K mg base "number_of" 1 1 F_number_of) (c_divisor : Callee P w K mg base "divisor" 1 2 F_divisor) {C_NoText : Addr} (x_NoText : ExcR K mg "NoText" C_NoText) :
    FnOk P w K mg base (L2N.CX P w) 2 f fd ["word"] (spP K mg 1 F_share_of) ∧ Callee P w K mg base "share_of" 2 1 F_share_of := by
  have G : FnOk P w K mg base (L2N.CX P w) 2 f fd ["word"] (spP K mg 1 F_share_of) := by
    have G0 := fn_ok (P := P) (w := w) (K := K) (mg := mg) (base := base) (N := N_share_of) (ps := ["word"]) (k := 1) (g := b_share_of) F sc_share_of (fun X W hP hw hK hmg hb hr C V Y => by subst hP hw hK hmg hb; exact j_share_of C V Y (c_number_of.cal hr) (c_divisor.cal hr) x_NoText)
    exact G0
  exact ⟨G, callee_of G gm F.kp (F.binds (ps := ["word"]) fun _ _ _ _ _ _ us hl => match us, hl with | [_], _ => rfl)⟩

abbrev s_one_under : Stmt := topS 16
theorem sc_one_under : FnScope ["shares", "under", "top", "bottom"] ["shares"] (defScope s_one_under) := ⟨rfl, rfl, rfl, by decide +kernel, rfl, by decide +kernel, by decide +kernel⟩
noncomputable def b_one_under : M Fl :=
  (sq (mAsg 1 (ret (.int 1)))
  (sq (bnd (mSeq (mVar 0)) (forL (gTp 2 (gsCons (gN 2) (gsCons (gN 3) gsNil))) (mAsg 1 (m2 (m2 (mVar 1) (mVar 3) (g2i iMul)) (mCall (aCons (mVar 1) (aCons (mVar 3) aNil)) F_divisor) (g2i iDiv)))))
  (mRet (mCall (aCons (mLc [2, 3] (mSeq (mVar 0)) (gTp 2 (gsCons (gN 2) (gsCons (gN 3) gsNil))) (ret true) (m2 (mVar 2) (m2 (mVar 1) (mVar 3) (g2i iDiv)) (g2i iMul))) (aCons (mVar 1) aNil)) F_place))))
noncomputable def F_one_under : List D → Rs := runF 4 b_one_under
abbrev N_one_under : List Str := ["shares", "under", "top", "bottom"]
abbrev sk_one_under : Scope := defScope s_one_under
theorem v_one_under_0 : okV N_one_under sk_one_under 0 "shares" = true := by decide +kernel
theorem v_one_under_1 : okV N_one_under sk_one_under 1 "under" = true := by decide +kernel
theorem v_one_under_3 : okV N_one_under sk_one_under 3 "bottom" = true := by decide +kernel
theorem w_one_under_1 : okS N_one_under sk_one_under sk_one_under 1 "under" = true := by decide +kernel
theorem w_one_under_2 : okS N_one_under sk_one_under sk_one_under 2 "top" = true := by decide +kernel
theorem w_one_under_3 : okS N_one_under sk_one_under sk_one_under 3 "bottom" = true := by decide +kernel
theorem g_one_under_divisor : okG sk_one_under "divisor" = true := by decide +kernel
theorem g_one_under_place : okG sk_one_under "place" = true := by decide +kernel
set_option maxHeartbeats 4000000 in
theorem j_one_under {X : Cx} {W : WX} (C : CtxOk X W) (V : Nm X N_one_under sk_one_under sk_one_under) (Y : Df X) (c_divisor : Cal X "divisor" 2 F_divisor) (c_place : Cal X "place" 2 F_place) : JSs X W (defBody s_one_under) b_one_under :=
  (jss_cons (js_asg V w_one_under_1 je_int)
    (jss_cons (js_for C (ji_seq (je_var V v_one_under_0)) (jg_tup (n := 2) C (jgs_cons (jg_name V w_one_under_2) (jgs_cons (jg_name V w_one_under_3) jgs_nil))) (jss_one (js_asg V w_one_under_1 (je_fdiv (je_mul (je_var V v_one_under_1) (je_var V v_one_under_3)) (je_call C V g_one_under_divisor c_divisor (ja_cons (je_var V v_one_under_1) (ja_cons (je_var V v_one_under_3) ja_nil)) (alen_cons (alen_cons alen_nil)))))))
    (jss_one (js_ret (je_call C V g_one_under_place c_place (ja_cons (je_lc (own := [("top", 2), ("bottom", 3)]) C V (by decide +kernel) rfl (ji_seq (je_var V v_one_under_0)) (fun X1 V1 C1 B1 => (jgv_tup (n := 2) C1.calm (jgvs_cons (jgv_name V1 (by decide +kernel) (by decide)) (jgvs_cons (jgv_name V1 (by decide +kernel) (by decide)) jgvs_nil)))) (fun X1 V1 C1 B1 => jts_nil) (fun X1 V1 C1 B1 => (je_mul (je_var V1 (by decide +kernel)) (je_fdiv (je_var V1 (by decide +kernel)) (je_var V1 (by decide +kernel)))))) (ja_cons (je_var V v_one_under_1) ja_nil)) (alen_cons (alen_cons alen_nil)))))))
theorem ok_one_under {P : Program} {w : World} {K : PySem.W.Frag} {mg : MG} {base : Heap} {f : Addr} {fd : FuncData} (F : Fun K "one_under" "one_under" s_one_under f fd) (gm : mg "one_under" = some (.ref f)) (c_divisor : Callee P w K mg base "divisor" 1 2 F_divisor) (c_place : Callee P w K mg base "place" 2 2 F_place) :
    FnOk P w K mg base (L2N.CX P w) 3 f fd ["shares"] (spP K mg 1 F_one_under) ∧ Callee P w K mg base "one_under" 3 1 F_one_under := by
  have G : FnOk P w K mg base (L2N.CX P w) 3 f fd ["shares"] (spP K mg 1 F_one_under) := by
    have G0 := fn_ok (P := P) (w := w) (K := K) (mg := mg) (base := base) (N := N_one_under) (ps := ["shares"]) (k := 2) (g := b_one_under) F sc_one_under (fun X W hP hw hK hmg hb hr C V Y => by subst hP hw hK hmg hb; exact j_one_under C V Y (c_divisor.cal hr) (c_place.cal hr))
    exact G0
  exact ⟨G, callee_of G gm F.kp (F.binds (ps := ["shares"]) fun _ _ _ _ _ _ us hl => match us, hl with | [_], _ => rfl)⟩

abbrev s_share_text : Stmt := topS 17
theorem sc_share_text : FnScope ["top", "under", "by"] ["top", "under"] (defScope s_share_text) := ⟨rfl, rfl, rfl, by decide +kernel, rfl, by decide +kernel, by decide +kernel⟩
noncomputable def b_share_text : M Fl :=
  (sq (mAsg 2 (mCall (aCons (mVar 0) (aCons (mVar 1) aNil)) F_divisor))
  (sq (mIf (bnd (m2 (mVar 1) (mVar 2) mEq) mB) (mRet (bnd (aCons (m2 (bnd (aCons (mVar 0) aNil) (c1i fun i => ret (.int (iAbs i)))) (mVar 2) (g2i iDiv)) aNil) cStr)) nx)
  (mRet (m2 (m2 (bnd (aCons (m2 (bnd (aCons (mVar 0) aNil) (c1i fun i => ret (.int (iAbs i)))) (mVar 2) (g2i iDiv)) aNil) cStr) (ret (.str "/")) mAdd) (bnd (aCons (m2 (mVar 1) (mVar 2) (g2i iDiv)) aNil) cStr) mAdd))))
noncomputable def F_share_text : List D → Rs := runF 3 b_share_text
abbrev N_share_text : List Str := ["top", "under", "by"]
abbrev sk_share_text : Scope := defScope s_share_text
theorem v_share_text_0 : okV N_share_text sk_share_text 0 "top" = true := by decide +kernel
theorem v_share_text_1 : okV N_share_text sk_share_text 1 "under" = true := by decide +kernel
theorem v_share_text_2 : okV N_share_text sk_share_text 2 "by" = true := by decide +kernel
theorem w_share_text_2 : okS N_share_text sk_share_text sk_share_text 2 "by" = true := by decide +kernel
theorem g_share_text_abs : okG sk_share_text "abs" = true := by decide +kernel
theorem g_share_text_divisor : okG sk_share_text "divisor" = true := by decide +kernel
theorem g_share_text_str : okG sk_share_text "str" = true := by decide +kernel
set_option maxHeartbeats 4000000 in
theorem j_share_text {X : Cx} {W : WX} (C : CtxOk X W) (V : Nm X N_share_text sk_share_text sk_share_text) (Y : Df X) (c_divisor : Cal X "divisor" 2 F_divisor) (z_abs : X.mg "abs" = none) (z_str : X.mg "str" = none) : JSs X W (defBody s_share_text) b_share_text :=
  (jss_cons (js_asg V w_share_text_2 (je_call C V g_share_text_divisor c_divisor (ja_cons (je_var V v_share_text_0) (ja_cons (je_var V v_share_text_1) ja_nil)) (alen_cons (alen_cons alen_nil))))
    (jss_cons (js_if (jt_eq C (je_var V v_share_text_1) (je_var V v_share_text_2)) (jss_one (js_ret (je_strC V g_share_text_str z_str (ja_cons (je_fdiv (je_abs V g_share_text_abs z_abs (ja_cons (je_var V v_share_text_0) ja_nil)) (je_var V v_share_text_2)) ja_nil)))) jss_nil)
    (jss_one (js_ret (je_add (je_add (je_strC V g_share_text_str z_str (ja_cons (je_fdiv (je_abs V g_share_text_abs z_abs (ja_cons (je_var V v_share_text_0) ja_nil)) (je_var V v_share_text_2)) ja_nil)) je_str) (je_strC V g_share_text_str z_str (ja_cons (je_fdiv (je_var V v_share_text_1) (je_var V v_share_text_2)) ja_nil)))))))
theorem ok_share_text {P : Program} {w : World} {K : PySem.W.Frag} {mg : MG} {base : Heap} {f : Addr} {fd : FuncData} (F : Fun K "share_text" "share_text" s_share_text f fd) (gm : mg "share_text" = some (.ref f)) (c_divisor : Callee P w K mg base "divisor" 1 2 F_divisor) (z_abs : mg "abs" = none) (z_str : mg "str" = none) :
    FnOk P w K mg base (L2N.CX P w) 2 f fd ["top", "under"] (spP K mg 2 F_share_text) ∧ Callee P w K mg base "share_text" 2 2 F_share_text := by
  have G : FnOk P w K mg base (L2N.CX P w) 2 f fd ["top", "under"] (spP K mg 2 F_share_text) := by
    have G0 := fn_ok (P := P) (w := w) (K := K) (mg := mg) (base := base) (N := N_share_text) (ps := ["top", "under"]) (k := 1) (g := b_share_text) F sc_share_text (fun X W hP hw hK hmg hb hr C V Y => by subst hP hw hK hmg hb; exact j_share_text C V Y (c_divisor.cal hr) z_abs z_str)
    exact G0
  exact ⟨G, callee_of G gm F.kp (F.binds (ps := ["top", "under"]) fun _ _ _ _ _ _ us hl => match us, hl with | [_, _], _ => rfl)⟩

abbrev s_with_sign : Stmt := topS 18
theorem sc_with_sign : FnScope ["part", "number", "word"] ["part", "number", "word"] (defScope s_with_sign) := ⟨rfl, rfl, rfl, by decide +kernel, rfl, by decide +kernel, by decide +kernel⟩
noncomputable def b_with_sign : M Fl :=
  (sq (mIf (bnd (m2 (mVar 1) (ret (.int 0)) (g2i (iCmp fun i j => decide (i < j)))) mB) (mRet (m2 (m2 (mVar 0) (ret (.str "-")) mAdd) (mVar 2) mAdd)) nx)
  (sq (mIf (bnd (m2 (mVar 0) (ret (.str "")) mEq) mB) (mRet (mVar 2)) nx)
  (mRet (m2 (m2 (mVar 0) (ret (.str "+")) mAdd) (mVar 2) mAdd))))
noncomputable def F_with_sign : List D → Rs := runF 3 b_with_sign
abbrev N_with_sign : List Str := ["part", "number", "word"]
abbrev sk_with_sign : Scope := defScope s_with_sign
theorem v_with_sign_0 : okV N_with_sign sk_with_sign 0 "part" = true := by decide +kernel
theorem v_with_sign_1 : okV N_with_sign sk_with_sign 1 "number" = true := by decide +kernel
theorem v_with_sign_2 : okV N_with_sign sk_with_sign 2 "word" = true := by decide +kernel
set_option maxHeartbeats 4000000 in
theorem j_with_sign {X : Cx} {W : WX} (C : CtxOk X W) (V : Nm X N_with_sign sk_with_sign sk_with_sign) (Y : Df X) : JSs X W (defBody s_with_sign) b_with_sign :=
  (jss_cons (js_if (jt_lt (je_var V v_with_sign_1) je_int) (jss_one (js_ret (je_add (je_add (je_var V v_with_sign_0) je_str) (je_var V v_with_sign_2)))) jss_nil)
    (jss_cons (js_if (jt_eq C (je_var V v_with_sign_0) je_str) (jss_one (js_ret (je_var V v_with_sign_2))) jss_nil)
    (jss_one (js_ret (je_add (je_add (je_var V v_with_sign_0) je_str) (je_var V v_with_sign_2))))))
theorem ok_with_sign {P : Program} {w : World} {K : PySem.W.Frag} {mg : MG} {base : Heap} {f : Addr} {fd : FuncData} (F : Fun K "with_sign" "with_sign" s_with_sign f fd) (gm : mg "with_sign" = some (.ref f)) :
    FnOk P w K mg base (L2N.CX P w) 1 f fd ["part", "number", "word"] (spP K mg 3 F_with_sign) ∧ Callee P w K mg base "with_sign" 1 3 F_with_sign := by
  have G : FnOk P w K mg base (L2N.CX P w) 1 f fd ["part", "number", "word"] (spP K mg 3 F_with_sign) := by
    have G0 := fn_ok (P := P) (w := w) (K := K) (mg := mg) (base := base) (N := N_with_sign) (ps := ["part", "number", "word"]) (k := 0) (g := b_with_sign) F sc_with_sign (fun X W hP hw hK hmg hb hr C V Y => by subst hP hw hK hmg hb; exact j_with_sign C V Y )
    exact G0
  exact ⟨G, callee_of G gm F.kp (F.binds (ps := ["part", "number", "word"]) fun _ _ _ _ _ _ us hl => match us, hl with | [_, _, _], _ => rfl)⟩

abbrev s_read_place : Stmt := topS 19
theorem sc_read_place : FnScope ["text", "words", "shares", "word", "top", "bottom"] ["text"] (defScope s_read_place) := ⟨rfl, rfl, rfl, by decide +kernel, rfl, by decide +kernel, by decide +kernel⟩
noncomputable def b_read_place : M Fl :=
  (sq (mAsg 1 (bnd (mVar 0) (xStr fun s => bnd (ret (.str ",")) (dSplit s))))
  (sq (mIf (bAnd (bnd (m2 (has 1 (onSl 1 fun d => cLen [d])) (ret (.int 2)) mNe) mB) (bnd (m2 (has 1 (onSl 1 fun d => cLen [d])) (ret (.int 3)) mNe) mB)) (mRaise "NoText") nx)
  (sq (mOwn 2 (mFl aNil))
  (sq (bnd (mSeq (mVar 1)) (forL (gN 3) (mIf (bnd (m2 (mVar 3) (ret (.str "0")) mEq) mB) (mApp 2 (mTup (aCons (ret (.int 0)) (aCons (ret (.int 1)) aNil)))) (mIf (bnd (bnd (mVar 3) (xStr fun s => bnd (ret (.str "-")) (dStart s))) mTru) (sq (mAsgT (mCall (aCons (mSlice (mVar 3) (oSome (ret (.int 1))) oNone) aNil) F_share_of) (gTp 2 (gsCons (gN 4) (gsCons (gN 5) gsNil))))
  (mApp 2 (mTup (aCons (bnd (mVar 4) (u1i fun i => ret (.int (-i)))) (aCons (mVar 5) aNil))))) (mApp 2 (mCall (aCons (mVar 3) aNil) F_share_of))))))
  (mRet (mCall (aCons (mVar 2) aNil) F_one_under))))))
noncomputable def F_read_place : List D → Rs := runF 6 b_read_place
abbrev N_read_place : List Str := ["text", "words", "shares", "word", "top", "bottom"]
abbrev sk_read_place : Scope := defScope s_read_place
theorem v_read_place_0 : okV N_read_place sk_read_place 0 "text" = true := by decide +kernel
theorem v_read_place_1 : okV N_read_place sk_read_place 1 "words" = true := by decide +kernel
theorem v_read_place_2 : okV N_read_place sk_read_place 2 "shares" = true := by decide +kernel
theorem v_read_place_3 : okV N_read_place sk_read_place 3 "word" = true := by decide +kernel
theorem v_read_place_4 : okV N_read_place sk_read_place 4 "top" = true := by decide +kernel
theorem v_read_place_5 : okV N_read_place sk_read_place 5 "bottom" = true := by decide +kernel
theorem w_read_place_1 : okS N_read_place sk_read_place sk_read_place 1 "words" = true := by decide +kernel
theorem w_read_place_2 : okS N_read_place sk_read_place sk_read_place 2 "shares" = true := by decide +kernel
theorem w_read_place_3 : okS N_read_place sk_read_place sk_read_place 3 "word" = true := by decide +kernel
theorem w_read_place_4 : okS N_read_place sk_read_place sk_read_place 4 "top" = true := by decide +kernel
theorem w_read_place_5 : okS N_read_place sk_read_place sk_read_place 5 "bottom" = true := by decide +kernel
theorem g_read_place_NoText : okG sk_read_place "NoText" = true := by decide +kernel
theorem g_read_place_len : okG sk_read_place "len" = true := by decide +kernel
theorem g_read_place_one_under : okG sk_read_place "one_under" = true := by decide +kernel
theorem g_read_place_share_of : okG sk_read_place "share_of" = true := by decide +kernel
set_option maxHeartbeats 4000000 in
theorem j_read_place {X : Cx} {W : WX} (C : CtxOk X W) (V : Nm X N_read_place sk_read_place sk_read_place) (Y : Df X) (c_share_of : Cal X "share_of" 1 F_share_of) (c_one_under : Cal X "one_under" 1 F_one_under) (z_len : X.mg "len" = none) {C_NoText : Addr} (x_NoText : ExcR X.K X.mg "NoText" C_NoText) : JSs X W (defBody s_read_place) b_read_place :=
  (jss_cons (js_asg V w_read_place_1 (je_split (je_var V v_read_place_0) je_str))
    (jss_cons (js_if (JW.jt (jw_and (jt_ne C (je_lenN V v_read_place_1 g_read_place_len z_len) je_int) (jw_and1 (jt_ne C (je_lenN V v_read_place_1 g_read_place_len z_len) je_int)))) (jss_one (js_raise C V g_read_place_NoText x_NoText)) jss_nil)
    (jss_cons (js_own V w_read_place_2 (jf_lst ja_nil))
    (jss_cons (js_for C (ji_seq (je_var V v_read_place_1)) (jg_name V w_read_place_3) (jss_one (js_if (jt_eq C (je_var V v_read_place_3) je_str) (jss_one (js_app V v_read_place_2 (je_tup (ja_cons je_int (ja_cons je_int ja_nil))))) (jss_one (js_if (jt_tru (je_startswith (je_var V v_read_place_3) je_str)) (jss_cons (js_asgT (je_call C V g_read_place_share_of c_share_of (ja_cons (je_slice (je_var V v_read_place_3) (jo_some je_int) jo_none) ja_nil) (alen_cons alen_nil)) (jg_tup (n := 2) C (jgs_cons (jg_name V w_read_place_4) (jgs_cons (jg_name V w_read_place_5) jgs_nil))))
    (jss_one (js_app V v_read_place_2 (je_tup (ja_cons (je_neg (je_var V v_read_place_4)) (ja_cons (je_var V v_read_place_5) ja_nil)))))) (jss_one (js_app V v_read_place_2 (je_call C V g_read_place_share_of c_share_of (ja_cons (je_var V v_read_place_3) ja_nil) (alen_cons alen_nil)))))))))
    (jss_one (js_ret (je_call C V g_read_place_one_under c_one_under (ja_cons (je_var V v_read_place_2) ja_nil) (alen_cons alen_nil))))))))
theorem ok_read_place {P : Program} {w : World} {K : PySem.W.Frag} {mg : MG} {base : Heap} {f : Addr} {fd : FuncData} (F : Fun K "read_place" "read_place" s_read_place f fd) (gm : mg "read_place" = some (.ref f)) (c_share_of : Callee P w K mg base "share_of" 2 1 F_share_of) (c_one_under : Callee P w K mg base "one_under" 3 1 F_one_under) (z_len : mg "len" = none) {C_NoText : Addr} (x_NoText : ExcR K mg "NoText" C_NoText) :
    FnOk P w K mg base (L2N.CX P w) 4 f fd ["text"] (spP K mg 1 F_read_place) ∧ Callee P w K mg base "read_place" 4 1 F_read_place := by
  have G : FnOk P w K mg base (L2N.CX P w) 4 f fd ["text"] (spP K mg 1 F_read_place) := by
    have G0 := fn_ok (P := P) (w := w) (K := K) (mg := mg) (base := base) (N := N_read_place) (ps := ["text"]) (k := 3) (g := b_read_place) F sc_read_place (fun X W hP hw hK hmg hb hr C V Y => by subst hP hw hK hmg hb; exact j_read_place C V Y (c_share_of.cal hr) (c_one_under.cal hr) z_len x_NoText)
    exact G0
  exact ⟨G, callee_of G gm F.kp (F.binds (ps := ["text"]) fun _ _ _ _ _ _ us hl => match us, hl with | [_], _ => rfl)⟩

abbrev s_show_place : Stmt := topS 20
theorem sc_show_place : FnScope ["one", "top"] ["one"] (defScope s_show_place) := ⟨rfl, rfl, rfl, by decide +kernel, rfl, by decide +kernel, by decide +kernel⟩
noncomputable def b_show_place : M Fl :=
  (mRet (bnd (ret (.str ",")) (xStr fun s => bnd (mLc [1] (mSeq (mIxN 0 (ret (.int 0)))) (gN 1) (ret true) (mCall (aCons (ret (.str "")) (aCons (mVar 1) (aCons (mCall (aCons (mVar 1) (aCons (mIxN 0 (ret (.int 1))) aNil)) F_share_text) aNil))) F_with_sign)) (dJoin s))))
noncomputable def F_show_place : List D → Rs := runF 2 b_show_place
abbrev N_show_place : List Str := ["one", "top"]
abbrev sk_show_place : Scope := defScope s_show_place
theorem v_show_place_0 : okV N_show_place sk_show_place 0 "one" = true := by decide +kernel
set_option maxHeartbeats 4000000 in
theorem j_show_place {X : Cx} {W : WX} (C : CtxOk X W) (V : Nm X N_show_place sk_show_place sk_show_place) (Y : Df X) (c_with_sign : Cal X "with_sign" 3 F_with_sign) (c_share_text : Cal X "share_text" 2 F_share_text) : JSs X W (defBody s_show_place) b_show_place :=
  (jss_one (js_ret (je_join je_str (je_lc (own := [("top", 1)]) C V (by decide +kernel) rfl (ji_seq (je_ixN V v_show_place_0 je_int)) (fun X1 V1 C1 B1 => (jgv_name V1 (by decide +kernel) (by decide))) (fun X1 V1 C1 B1 => jts_nil) (fun X1 V1 C1 B1 => (je_call C1 V1 (by decide +kernel) (B1.cal c_with_sign) (ja_cons je_str (ja_cons (je_var V1 (by decide +kernel)) (ja_cons (je_call C1 V1 (by decide +kernel) (B1.cal c_share_text) (ja_cons (je_var V1 (by decide +kernel)) (ja_cons (je_ixN V1 (by decide +kernel) je_int) ja_nil)) (alen_cons (alen_cons alen_nil))) ja_nil))) (alen_cons (alen_cons (alen_cons alen_nil)))))))))
theorem ok_show_place {P : Program} {w : World} {K : PySem.W.Frag} {mg : MG} {base : Heap} {f : Addr} {fd : FuncData} (F : Fun K "show_place" "show_place" s_show_place f fd) (gm : mg "show_place" = some (.ref f)) (c_with_sign : Callee P w K mg base "with_sign" 1 3 F_with_sign) (c_share_text : Callee P w K mg base "share_text" 2 2 F_share_text) :
    FnOk P w K mg base (L2N.CX P w) 3 f fd ["one"] (spP K mg 1 F_show_place) ∧ Callee P w K mg base "show_place" 3 1 F_show_place := by
  have G : FnOk P w K mg base (L2N.CX P w) 3 f fd ["one"] (spP K mg 1 F_show_place) := by
    have G0 := fn_ok (P := P) (w := w) (K := K) (mg := mg) (base := base) (N := N_show_place) (ps := ["one"]) (k := 2) (g := b_show_place) F sc_show_place (fun X W hP hw hK hmg hb hr C V Y => by subst hP hw hK hmg hb; exact j_show_place C V Y (c_with_sign.cal hr) (c_share_text.cal hr))
    exact G0
  exact ⟨G, callee_of G gm F.kp (F.binds (ps := ["one"]) fun _ _ _ _ _ _ us hl => match us, hl with | [_], _ => rfl)⟩

abbrev s_law_cell_at : Stmt := topS 22
theorem sc_law_cell_at : FnScope ["_law_script", "_law_k"] ["_law_script", "_law_k"] (defScope s_law_cell_at) := ⟨rfl, rfl, rfl, by decide +kernel, rfl, by decide +kernel, by decide +kernel⟩
noncomputable def b_law_cell_at : M Fl :=
  (sq (mIf (bnd (m2 (mVar 1) (has 0 (onSl 0 fun d => cLen [d])) (g2i (iCmp fun i j => decide (i < j)))) mB) (mRet (mIxN 0 (mVar 1))) nx)
  (mRet (ret (.int 0))))
noncomputable def F_law_cell_at : List D → Rs := runF 2 b_law_cell_at
abbrev N_law_cell_at : List Str := ["_law_script", "_law_k"]
abbrev sk_law_cell_at : Scope := defScope s_law_cell_at
theorem v_law_cell_at_0 : okV N_law_cell_at sk_law_cell_at 0 "_law_script" = true := by decide +kernel
theorem v_law_cell_at_1 : okV N_law_cell_at sk_law_cell_at 1 "_law_k" = true := by decide +kernel
theorem g_law_cell_at_len : okG sk_law_cell_at "len" = true := by decide +kernel
set_option maxHeartbeats 4000000 in
theorem j_law_cell_at {X : Cx} {W : WX} (C : CtxOk X W) (V : Nm X N_law_cell_at sk_law_cell_at sk_law_cell_at) (Y : Df X) (z_len : X.mg "len" = none) : JSs X W (defBody s_law_cell_at) b_law_cell_at :=
  (jss_cons (js_if (jt_lt (je_var V v_law_cell_at_1) (je_lenN V v_law_cell_at_0 g_law_cell_at_len z_len)) (jss_one (js_ret (je_ixN V v_law_cell_at_0 (je_var V v_law_cell_at_1)))) jss_nil)
    (jss_one (js_ret je_int)))
theorem ok_law_cell_at {P : Program} {w : World} {K : PySem.W.Frag} {mg : MG} {base : Heap} {f : Addr} {fd : FuncData} (F : Fun K "_law_cell_at" "_law_cell_at" s_law_cell_at f fd) (gm : mg "_law_cell_at" = some (.ref f)) (z_len : mg "len" = none) :
    FnOk P w K mg base (L2N.CX P w) 1 f fd ["_law_script", "_law_k"] (spP K mg 2 F_law_cell_at) ∧ Callee P w K mg base "_law_cell_at" 1 2 F_law_cell_at := by
  have G : FnOk P w K mg base (L2N.CX P w) 1 f fd ["_law_script", "_law_k"] (spP K mg 2 F_law_cell_at) := by
    have G0 := fn_ok (P := P) (w := w) (K := K) (mg := mg) (base := base) (N := N_law_cell_at) (ps := ["_law_script", "_law_k"]) (k := 0) (g := b_law_cell_at) F sc_law_cell_at (fun X W hP hw hK hmg hb hr C V Y => by subst hP hw hK hmg hb; exact j_law_cell_at C V Y z_len)
    exact G0
  exact ⟨G, callee_of G gm F.kp (F.binds (ps := ["_law_script", "_law_k"]) fun _ _ _ _ _ _ us hl => match us, hl with | [_, _], _ => rfl)⟩

abbrev s_law_whole : Stmt := topS 23
theorem sc_law_whole : FnScope ["_law_found"] ["_law_found"] (defScope s_law_whole) := ⟨rfl, rfl, rfl, by decide +kernel, rfl, by decide +kernel, by decide +kernel⟩
noncomputable def b_law_whole : M Fl :=
  (mRet (vAnd (bnd (mVar 0) fun d => cIsi "int" [d]) (vNot (bnd (mVar 0) fun d => cIsi "bool" [d]))))
noncomputable def F_law_whole : List D → Rs := runF 1 b_law_whole
abbrev N_law_whole : List Str := ["_law_found"]
abbrev sk_law_whole : Scope := defScope s_law_whole
theorem v_law_whole_0 : okV N_law_whole sk_law_whole 0 "_law_found" = true := by decide +kernel
theorem g_law_whole_bool : okG sk_law_whole "bool" = true := by decide +kernel
theorem g_law_whole_int : okG sk_law_whole "int" = true := by decide +kernel
theorem g_law_whole_isinstance : okG sk_law_whole "isinstance" = true := by decide +kernel
set_option maxHeartbeats 4000000 in
theorem j_law_whole {X : Cx} {W : WX} (C : CtxOk X W) (V : Nm X N_law_whole sk_law_whole sk_law_whole) (Y : Df X) (z_bool : X.mg "bool" = none) (z_int : X.mg "int" = none) (z_isinstance : X.mg "isinstance" = none) : JSs X W (defBody s_law_whole) b_law_whole :=
  (jss_one (js_ret (je_and (je_isi (T := "int") V g_law_whole_isinstance g_law_whole_int z_isinstance z_int (by decide +kernel) (je_var V v_law_whole_0)) (je_one (je_not (je_isi (T := "bool") V g_law_whole_isinstance g_law_whole_bool z_isinstance z_bool (by decide +kernel) (je_var V v_law_whole_0)))))))
theorem ok_law_whole {P : Program} {w : World} {K : PySem.W.Frag} {mg : MG} {base : Heap} {f : Addr} {fd : FuncData} (F : Fun K "_law_whole" "_law_whole" s_law_whole f fd) (gm : mg "_law_whole" = some (.ref f)) (z_bool : mg "bool" = none) (z_int : mg "int" = none) (z_isinstance : mg "isinstance" = none) :
    FnOk P w K mg base (L2N.CX P w) 1 f fd ["_law_found"] (spP K mg 1 F_law_whole) ∧ Callee P w K mg base "_law_whole" 1 1 F_law_whole := by
  have G : FnOk P w K mg base (L2N.CX P w) 1 f fd ["_law_found"] (spP K mg 1 F_law_whole) := by
    have G0 := fn_ok (P := P) (w := w) (K := K) (mg := mg) (base := base) (N := N_law_whole) (ps := ["_law_found"]) (k := 0) (g := b_law_whole) F sc_law_whole (fun X W hP hw hK hmg hb hr C V Y => by subst hP hw hK hmg hb; exact j_law_whole C V Y z_bool z_int z_isinstance)
    exact G0
  exact ⟨G, callee_of G gm F.kp (F.binds (ps := ["_law_found"]) fun _ _ _ _ _ _ us hl => match us, hl with | [_], _ => rfl)⟩

abbrev s_law_common : Stmt := topS 24
theorem sc_law_common : FnScope ["_law_one", "_law_other_here"] ["_law_one", "_law_other_here"] (defScope s_law_common) := ⟨rfl, rfl, rfl, by decide +kernel, rfl, by decide +kernel, by decide +kernel⟩
noncomputable def b_law_common : M Fl :=
  (sq (mAsg 0 (bnd (aCons (mVar 0) aNil) (c1i fun i => ret (.int (iAbs i)))))
  (sq (mAsg 1 (bnd (aCons (mVar 1) aNil) (c1i fun i => ret (.int (iAbs i)))))
  (sq (mWh (bnd (m2 (mVar 1) (ret (.int 0)) (g2i (iCmp fun i j => decide (j < i)))) mB) (mPar 0 1 (aCons (mVar 1) (aCons (m2 (mVar 0) (mVar 1) (g2i iMod)) aNil))))
  (mRet (mVar 0)))))
noncomputable def F_law_common : List D → Rs := runF 2 b_law_common
abbrev N_law_common : List Str := ["_law_one", "_law_other_here"]
abbrev sk_law_common : Scope := defScope s_law_common
theorem v_law_common_0 : okV N_law_common sk_law_common 0 "_law_one" = true := by decide +kernel
theorem v_law_common_1 : okV N_law_common sk_law_common 1 "_law_other_here" = true := by decide +kernel
theorem w_law_common_0 : okS N_law_common sk_law_common sk_law_common 0 "_law_one" = true := by decide +kernel
theorem w_law_common_1 : okS N_law_common sk_law_common sk_law_common 1 "_law_other_here" = true := by decide +kernel
theorem g_law_common_abs : okG sk_law_common "abs" = true := by decide +kernel
set_option maxHeartbeats 4000000 in
theorem j_law_common {X : Cx} {W : WX} (C : CtxOk X W) (V : Nm X N_law_common sk_law_common sk_law_common) (Y : Df X) (z_abs : X.mg "abs" = none) : JSs X W (defBody s_law_common) b_law_common :=
  (jss_cons (js_asg V w_law_common_0 (je_abs V g_law_common_abs z_abs (ja_cons (je_var V v_law_common_0) ja_nil)))
    (jss_cons (js_asg V w_law_common_1 (je_abs V g_law_common_abs z_abs (ja_cons (je_var V v_law_common_1) ja_nil)))
    (jss_cons (js_while C (jt_gt (je_var V v_law_common_1) je_int) (jss_one (js_par C V w_law_common_0 w_law_common_1 (by decide +kernel) (ja_cons (je_var V v_law_common_1) (ja_cons (je_mod (je_var V v_law_common_0) (je_var V v_law_common_1)) ja_nil)))))
    (jss_one (js_ret (je_var V v_law_common_0))))))
theorem ok_law_common {P : Program} {w : World} {K : PySem.W.Frag} {mg : MG} {base : Heap} {f : Addr} {fd : FuncData} (F : Fun K "_law_common" "_law_common" s_law_common f fd) (gm : mg "_law_common" = some (.ref f)) (z_abs : mg "abs" = none) :
    FnOk P w K mg base (L2N.CX P w) 1 f fd ["_law_one", "_law_other_here"] (spP K mg 2 F_law_common) ∧ Callee P w K mg base "_law_common" 1 2 F_law_common := by
  have G : FnOk P w K mg base (L2N.CX P w) 1 f fd ["_law_one", "_law_other_here"] (spP K mg 2 F_law_common) := by
    have G0 := fn_ok (P := P) (w := w) (K := K) (mg := mg) (base := base) (N := N_law_common) (ps := ["_law_one", "_law_other_here"]) (k := 0) (g := b_law_common) F sc_law_common (fun X W hP hw hK hmg hb hr C V Y => by subst hP hw hK hmg hb; exact j_law_common C V Y z_abs)
    exact G0
  exact ⟨G, callee_of G gm F.kp (F.binds (ps := ["_law_one", "_law_other_here"]) fun _ _ _ _ _ _ us hl => match us, hl with | [_, _], _ => rfl)⟩

abbrev s_law_great : Stmt := topS 25
theorem sc_law_great : FnScope ["_law_cell"] ["_law_cell"] (defScope s_law_great) := ⟨rfl, rfl, rfl, by decide +kernel, rfl, by decide +kernel, by decide +kernel⟩
noncomputable def b_law_great : M Fl :=
  (mRet (m2 (ret (.int 1)) (m2 (m2 (m2 (mVar 0) (m2 (ret (.int 13)) (ret (.int 60)) (g2i iPow)) (g2i iMul)) (m2 (ret (.int 17)) (ret (.int 26)) (g2i iPow)) (g2i iMul)) (m2 (m2 (m2 (ret (.int 10)) (ret (.int 50)) (g2i iPow)) (m2 (ret (.int 10)) (ret (.int 50)) (g2i iPow)) (g2i iMul)) (ret (.int 1)) (g2i iSub)) (g2i iMod)) mAdd))
noncomputable def F_law_great : List D → Rs := runF 1 b_law_great
abbrev N_law_great : List Str := ["_law_cell"]
abbrev sk_law_great : Scope := defScope s_law_great
theorem v_law_great_0 : okV N_law_great sk_law_great 0 "_law_cell" = true := by decide +kernel
set_option maxHeartbeats 4000000 in
theorem j_law_great {X : Cx} {W : WX} (C : CtxOk X W) (V : Nm X N_law_great sk_law_great sk_law_great) (Y : Df X) : JSs X W (defBody s_law_great) b_law_great :=
  (jss_one (js_ret (je_add je_int (je_mod (je_mul (je_mul (je_var V v_law_great_0) (je_pow je_int je_int)) (je_pow je_int je_int)) (je_sub (je_mul (je_pow je_int je_int) (je_pow je_int je_int)) je_int)))))
theorem ok_law_great {P : Program} {w : World} {K : PySem.W.Frag} {mg : MG} {base : Heap} {f : Addr} {fd : FuncData} (F : Fun K "_law_great" "_law_great" s_law_great f fd) (gm : mg "_law_great" = some (.ref f)) :
    FnOk P w K mg base (L2N.CX P w) 1 f fd ["_law_cell"] (spP K mg 1 F_law_great) ∧ Callee P w K mg base "_law_great" 1 1 F_law_great := by
  have G : FnOk P w K mg base (L2N.CX P w) 1 f fd ["_law_cell"] (spP K mg 1 F_law_great) := by
    have G0 := fn_ok (P := P) (w := w) (K := K) (mg := mg) (base := base) (N := N_law_great) (ps := ["_law_cell"]) (k := 0) (g := b_law_great) F sc_law_great (fun X W hP hw hK hmg hb hr C V Y => by subst hP hw hK hmg hb; exact j_law_great C V Y )
    exact G0
  exact ⟨G, callee_of G gm F.kp (F.binds (ps := ["_law_cell"]) fun _ _ _ _ _ _ us hl => match us, hl with | [_], _ => rfl)⟩

abbrev s_law_share : Stmt := topS 26
theorem sc_law_share : FnScope ["_law_cell", "_law_other_here", "_law_way", "_law_top", "_law_bottom", "_law_by"] ["_law_cell", "_law_other_here"] (defScope s_law_share) := ⟨rfl, rfl, rfl, by decide +kernel, rfl, by decide +kernel, by decide +kernel⟩
noncomputable def b_law_share : M Fl :=
  (sq (mAsg 2 (m2 (mVar 0) (ret (.int 8)) (g2i iMod)))
  (sq (mAsg 3 (m2 (m2 (m2 (m2 (mVar 0) (ret (.int 8)) (g2i iDiv)) (ret (.int 15)) mAdd) (ret (.int 31)) (g2i iMod)) (ret (.int 15)) (g2i iSub)))
  (sq (mAsg 4 (ret (.int 1)))
  (sq (mIf (bOr (bnd (m2 (mVar 2) (ret (.int 1)) mEq) mB) (bnd (m2 (mVar 2) (ret (.int 5)) mEq) mB)) (mAsg 3 (m2 (m2 (ret (.int 1)) (m2 (ret (.int 2)) (m2 (m2 (mVar 0) (ret (.int 8)) (g2i iDiv)) (ret (.int 2)) (g2i iMod)) (g2i iMul)) (g2i iSub)) (mCall (aCons (m2 (mVar 0) (ret (.int 16)) (g2i iDiv)) aNil) F_law_great) (g2i iMul))) nx)
  (sq (mIf (bOr (bnd (m2 (mVar 2) (ret (.int 2)) mEq) mB) (bOr (bnd (m2 (mVar 2) (ret (.int 3)) mEq) mB) (bnd (m2 (mVar 2) (ret (.int 4)) mEq) mB))) (mAsg 4 (m2 (ret (.int 1)) (m2 (mVar 1) (ret (.int 24)) (g2i iMod)) mAdd)) nx)
  (sq (mIf (bOr (bnd (m2 (mVar 2) (ret (.int 5)) mEq) mB) (bnd (m2 (mVar 2) (ret (.int 7)) mEq) mB)) (mAsg 4 (mCall (aCons (mVar 1) aNil) F_law_great)) nx)
  (sq (mAsg 5 (mCall (aCons (mVar 3) (aCons (mVar 4) aNil)) F_law_common))
  (mRet (mTup (aCons (m2 (mVar 3) (mVar 5) (g2i iDiv)) (aCons (m2 (mVar 4) (mVar 5) (g2i iDiv)) aNil)))))))))))
noncomputable def F_law_share : List D → Rs := runF 6 b_law_share
abbrev N_law_share : List Str := ["_law_cell", "_law_other_here", "_law_way", "_law_top", "_law_bottom", "_law_by"]
abbrev sk_law_share : Scope := defScope s_law_share
theorem v_law_share_0 : okV N_law_share sk_law_share 0 "_law_cell" = true := by decide +kernel
theorem v_law_share_1 : okV N_law_share sk_law_share 1 "_law_other_here" = true := by decide +kernel
theorem v_law_share_2 : okV N_law_share sk_law_share 2 "_law_way" = true := by decide +kernel
theorem v_law_share_3 : okV N_law_share sk_law_share 3 "_law_top" = true := by decide +kernel
theorem v_law_share_4 : okV N_law_share sk_law_share 4 "_law_bottom" = true := by decide +kernel
theorem v_law_share_5 : okV N_law_share sk_law_share 5 "_law_by" = true := by decide +kernel
theorem w_law_share_2 : okS N_law_share sk_law_share sk_law_share 2 "_law_way" = true := by decide +kernel
theorem w_law_share_3 : okS N_law_share sk_law_share sk_law_share 3 "_law_top" = true := by decide +kernel
theorem w_law_share_4 : okS N_law_share sk_law_share sk_law_share 4 "_law_bottom" = true := by decide +kernel
theorem w_law_share_5 : okS N_law_share sk_law_share sk_law_share 5 "_law_by" = true := by decide +kernel
theorem g_law_share_law_common : okG sk_law_share "_law_common" = true := by decide +kernel
theorem g_law_share_law_great : okG sk_law_share "_law_great" = true := by decide +kernel
set_option maxHeartbeats 4000000 in
theorem j_law_share {X : Cx} {W : WX} (C : CtxOk X W) (V : Nm X N_law_share sk_law_share sk_law_share) (Y : Df X) (c_law_great : Cal X "_law_great" 1 F_law_great) (c_law_common : Cal X "_law_common" 2 F_law_common) : JSs X W (defBody s_law_share) b_law_share :=
  (jss_cons (js_asg V w_law_share_2 (je_mod (je_var V v_law_share_0) je_int))
    (jss_cons (js_asg V w_law_share_3 (je_sub (je_mod (je_add (je_fdiv (je_var V v_law_share_0) je_int) je_int) je_int) je_int))
    (jss_cons (js_asg V w_law_share_4 je_int)
    (jss_cons (js_if (JW.jt (jw_or (jt_eq C (je_var V v_law_share_2) je_int) (jw_or1 (jt_eq C (je_var V v_law_share_2) je_int)))) (jss_one (js_asg V w_law_share_3 (je_mul (je_sub je_int (je_mul je_int (je_mod (je_fdiv (je_var V v_law_share_0) je_int) je_int))) (je_call C V g_law_share_law_great c_law_great (ja_cons (je_fdiv (je_var V v_law_share_0) je_int) ja_nil) (alen_cons alen_nil))))) jss_nil)
    (jss_cons (js_if (JW.jt (jw_or (jt_eq C (je_var V v_law_share_2) je_int) (jw_or (jt_eq C (je_var V v_law_share_2) je_int) (jw_or1 (jt_eq C (je_var V v_law_share_2) je_int))))) (jss_one (js_asg V w_law_share_4 (je_add je_int (je_mod (je_var V v_law_share_1) je_int)))) jss_nil)
    (jss_cons (js_if (JW.jt (jw_or (jt_eq C (je_var V v_law_share_2) je_int) (jw_or1 (jt_eq C (je_var V v_law_share_2) je_int)))) (jss_one (js_asg V w_law_share_4 (je_call C V g_law_share_law_great c_law_great (ja_cons (je_var V v_law_share_1) ja_nil) (alen_cons alen_nil)))) jss_nil)
    (jss_cons (js_asg V w_law_share_5 (je_call C V g_law_share_law_common c_law_common (ja_cons (je_var V v_law_share_3) (ja_cons (je_var V v_law_share_4) ja_nil)) (alen_cons (alen_cons alen_nil))))
    (jss_one (js_ret (je_tup (ja_cons (je_fdiv (je_var V v_law_share_3) (je_var V v_law_share_5)) (ja_cons (je_fdiv (je_var V v_law_share_4) (je_var V v_law_share_5)) ja_nil))))))))))))
theorem ok_law_share {P : Program} {w : World} {K : PySem.W.Frag} {mg : MG} {base : Heap} {f : Addr} {fd : FuncData} (F : Fun K "_law_share" "_law_share" s_law_share f fd) (gm : mg "_law_share" = some (.ref f)) (c_law_great : Callee P w K mg base "_law_great" 1 1 F_law_great) (c_law_common : Callee P w K mg base "_law_common" 1 2 F_law_common) :
    FnOk P w K mg base (L2N.CX P w) 2 f fd ["_law_cell", "_law_other_here"] (spP K mg 2 F_law_share) ∧ Callee P w K mg base "_law_share" 2 2 F_law_share := by
  have G : FnOk P w K mg base (L2N.CX P w) 2 f fd ["_law_cell", "_law_other_here"] (spP K mg 2 F_law_share) := by
    have G0 := fn_ok (P := P) (w := w) (K := K) (mg := mg) (base := base) (N := N_law_share) (ps := ["_law_cell", "_law_other_here"]) (k := 1) (g := b_law_share) F sc_law_share (fun X W hP hw hK hmg hb hr C V Y => by subst hP hw hK hmg hb; exact j_law_share C V Y (c_law_great.cal hr) (c_law_common.cal hr))
    exact G0
  exact ⟨G, callee_of G gm F.kp (F.binds (ps := ["_law_cell", "_law_other_here"]) fun _ _ _ _ _ _ us hl => match us, hl with | [_, _], _ => rfl)⟩

abbrev s_law_word : Stmt := topS 27
theorem sc_law_word : FnScope ["_law_share_here", "_law_word_here"] ["_law_share_here"] (defScope s_law_word) := ⟨rfl, rfl, rfl, by decide +kernel, rfl, by decide +kernel, by decide +kernel⟩
noncomputable def b_law_word : M Fl :=
  (sq (mAsg 1 (bnd (aCons (bnd (aCons (mIxN 0 (ret (.int 0))) aNil) (c1i fun i => ret (.int (iAbs i)))) aNil) cStr))
  (sq (mIf (bnd (m2 (mIxN 0 (ret (.int 1))) (ret (.int 1)) (g2i (iCmp fun i j => decide (j < i)))) mB) (mAsg 1 (m2 (m2 (mVar 1) (ret (.str "/")) mAdd) (bnd (aCons (mIxN 0 (ret (.int 1))) aNil) cStr) mAdd)) nx)
  (sq (mIf (bnd (m2 (mIxN 0 (ret (.int 0))) (ret (.int 0)) (g2i (iCmp fun i j => decide (i < j)))) mB) (mRet (m2 (ret (.str "-")) (mVar 1) mAdd)) nx)
  (mRet (mVar 1)))))
noncomputable def F_law_word : List D → Rs := runF 2 b_law_word
abbrev N_law_word : List Str := ["_law_share_here", "_law_word_here"]
abbrev sk_law_word : Scope := defScope s_law_word
theorem v_law_word_0 : okV N_law_word sk_law_word 0 "_law_share_here" = true := by decide +kernel
theorem v_law_word_1 : okV N_law_word sk_law_word 1 "_law_word_here" = true := by decide +kernel
theorem w_law_word_1 : okS N_law_word sk_law_word sk_law_word 1 "_law_word_here" = true := by decide +kernel
theorem g_law_word_abs : okG sk_law_word "abs" = true := by decide +kernel
theorem g_law_word_str : okG sk_law_word "str" = true := by decide +kernel
set_option maxHeartbeats 4000000 in
theorem j_law_word {X : Cx} {W : WX} (C : CtxOk X W) (V : Nm X N_law_word sk_law_word sk_law_word) (Y : Df X) (z_abs : X.mg "abs" = none) (z_str : X.mg "str" = none) : JSs X W (defBody s_law_word) b_law_word :=
  (jss_cons (js_asg V w_law_word_1 (je_strC V g_law_word_str z_str (ja_cons (je_abs V g_law_word_abs z_abs (ja_cons (je_ixN V v_law_word_0 je_int) ja_nil)) ja_nil)))
    (jss_cons (js_if (jt_gt (je_ixN V v_law_word_0 je_int) je_int) (jss_one (js_asg V w_law_word_1 (je_add (je_add (je_var V v_law_word_1) je_str) (je_strC V g_law_word_str z_str (ja_cons (je_ixN V v_law_word_0 je_int) ja_nil))))) jss_nil)
    (jss_cons (js_if (jt_lt (je_ixN V v_law_word_0 je_int) je_int) (jss_one (js_ret (je_add je_str (je_var V v_law_word_1)))) jss_nil)
    (jss_one (js_ret (je_var V v_law_word_1))))))
theorem ok_law_word {P : Program} {w : World} {K : PySem.W.Frag} {mg : MG} {base : Heap} {f : Addr} {fd : FuncData} (F : Fun K "_law_word" "_law_word" s_law_word f fd) (gm : mg "_law_word" = some (.ref f)) (z_abs : mg "abs" = none) (z_str : mg "str" = none) :
    FnOk P w K mg base (L2N.CX P w) 1 f fd ["_law_share_here"] (spP K mg 1 F_law_word) ∧ Callee P w K mg base "_law_word" 1 1 F_law_word := by
  have G : FnOk P w K mg base (L2N.CX P w) 1 f fd ["_law_share_here"] (spP K mg 1 F_law_word) := by
    have G0 := fn_ok (P := P) (w := w) (K := K) (mg := mg) (base := base) (N := N_law_word) (ps := ["_law_share_here"]) (k := 0) (g := b_law_word) F sc_law_word (fun X W hP hw hK hmg hb hr C V Y => by subst hP hw hK hmg hb; exact j_law_word C V Y z_abs z_str)
    exact G0
  exact ⟨G, callee_of G gm F.kp (F.binds (ps := ["_law_share_here"]) fun _ _ _ _ _ _ us hl => match us, hl with | [_], _ => rfl)⟩

abbrev s_law_place : Stmt := topS 28
theorem sc_law_place : FnScope ["_law_worths", "_law_under", "_law_top", "_law_bottom"] ["_law_worths"] (defScope s_law_place) := ⟨rfl, rfl, rfl, by decide +kernel, rfl, by decide +kernel, by decide +kernel⟩
noncomputable def b_law_place : M Fl :=
  (sq (mAsg 1 (ret (.int 1)))
  (sq (bnd (mSeq (mVar 0)) (forL (gTp 2 (gsCons (gN 2) (gsCons (gN 3) gsNil))) (mAsg 1 (m2 (m2 (mVar 1) (mVar 3) (g2i iMul)) (mCall (aCons (mVar 1) (aCons (mVar 3) aNil)) F_law_common) (g2i iDiv)))))
  (mRet (mTup (aCons (bnd (aCons (mLc [2, 3] (mSeq (mVar 0)) (gTp 2 (gsCons (gN 2) (gsCons (gN 3) gsNil))) (ret true) (m2 (mVar 2) (m2 (mVar 1) (mVar 3) (g2i iDiv)) (g2i iMul))) aNil) cTuple) (aCons (mVar 1) aNil))))))
noncomputable def F_law_place : List D → Rs := runF 4 b_law_place
abbrev N_law_place : List Str := ["_law_worths", "_law_under", "_law_top", "_law_bottom"]
abbrev sk_law_place : Scope := defScope s_law_place
theorem v_law_place_0 : okV N_law_place sk_law_place 0 "_law_worths" = true := by decide +kernel
theorem v_law_place_1 : okV N_law_place sk_law_place 1 "_law_under" = true := by decide +kernel
theorem v_law_place_3 : okV N_law_place sk_law_place 3 "_law_bottom" = true := by decide +kernel
theorem w_law_place_1 : okS N_law_place sk_law_place sk_law_place 1 "_law_under" = true := by decide +kernel
theorem w_law_place_2 : okS N_law_place sk_law_place sk_law_place 2 "_law_top" = true := by decide +kernel
theorem w_law_place_3 : okS N_law_place sk_law_place sk_law_place 3 "_law_bottom" = true := by decide +kernel
theorem g_law_place_law_common : okG sk_law_place "_law_common" = true := by decide +kernel
theorem g_law_place_tuple : okG sk_law_place "tuple" = true := by decide +kernel
set_option maxHeartbeats 4000000 in
theorem j_law_place {X : Cx} {W : WX} (C : CtxOk X W) (V : Nm X N_law_place sk_law_place sk_law_place) (Y : Df X) (c_law_common : Cal X "_law_common" 2 F_law_common) (z_tuple : X.mg "tuple" = none) : JSs X W (defBody s_law_place) b_law_place :=
  (jss_cons (js_asg V w_law_place_1 je_int)
    (jss_cons (js_for C (ji_seq (je_var V v_law_place_0)) (jg_tup (n := 2) C (jgs_cons (jg_name V w_law_place_2) (jgs_cons (jg_name V w_law_place_3) jgs_nil))) (jss_one (js_asg V w_law_place_1 (je_fdiv (je_mul (je_var V v_law_place_1) (je_var V v_law_place_3)) (je_call C V g_law_place_law_common c_law_common (ja_cons (je_var V v_law_place_1) (ja_cons (je_var V v_law_place_3) ja_nil)) (alen_cons (alen_cons alen_nil)))))))
    (jss_one (js_ret (je_tup (ja_cons (je_tuple V g_law_place_tuple z_tuple (ja_cons (je_lc (own := [("_law_top", 2), ("_law_bottom", 3)]) C V (by decide +kernel) rfl (ji_seq (je_var V v_law_place_0)) (fun X1 V1 C1 B1 => (jgv_tup (n := 2) C1.calm (jgvs_cons (jgv_name V1 (by decide +kernel) (by decide)) (jgvs_cons (jgv_name V1 (by decide +kernel) (by decide)) jgvs_nil)))) (fun X1 V1 C1 B1 => jts_nil) (fun X1 V1 C1 B1 => (je_mul (je_var V1 (by decide +kernel)) (je_fdiv (je_var V1 (by decide +kernel)) (je_var V1 (by decide +kernel)))))) ja_nil)) (ja_cons (je_var V v_law_place_1) ja_nil)))))))
theorem ok_law_place {P : Program} {w : World} {K : PySem.W.Frag} {mg : MG} {base : Heap} {f : Addr} {fd : FuncData} (F : Fun K "_law_place" "_law_place" s_law_place f fd) (gm : mg "_law_place" = some (.ref f)) (c_law_common : Callee P w K mg base "_law_common" 1 2 F_law_common) (z_tuple : mg "tuple" = none) :
    FnOk P w K mg base (L2N.CX P w) 2 f fd ["_law_worths"] (spP K mg 1 F_law_place) ∧ Callee P w K mg base "_law_place" 2 1 F_law_place := by
  have G : FnOk P w K mg base (L2N.CX P w) 2 f fd ["_law_worths"] (spP K mg 1 F_law_place) := by
    have G0 := fn_ok (P := P) (w := w) (K := K) (mg := mg) (base := base) (N := N_law_place) (ps := ["_law_worths"]) (k := 1) (g := b_law_place) F sc_law_place (fun X W hP hw hK hmg hb hr C V Y => by subst hP hw hK hmg hb; exact j_law_place C V Y (c_law_common.cal hr) z_tuple)
    exact G0
  exact ⟨G, callee_of G gm F.kp (F.binds (ps := ["_law_worths"]) fun _ _ _ _ _ _ us hl => match us, hl with | [_], _ => rfl)⟩

abbrev s_law_number : Stmt := topS 29
theorem sc_law_number : FnScope ["_law_word_here", "_law_sign"] ["_law_word_here"] (defScope s_law_number) := ⟨rfl, rfl, rfl, by decide +kernel, rfl, by decide +kernel, by decide +kernel⟩
noncomputable def b_law_number : M Fl :=
  (sq (mIf (bOr (bnd (m2 (has 0 (onSl 0 fun d => cLen [d])) (ret (.int 100)) (g2i (iCmp fun i j => decide (j < i)))) mB) (bOr (bnd (m2 (mVar 0) (ret (.str "")) mEq) mB) (bnd (m2 (mIxN 0 (ret (.int 0))) (ret (.str "0")) mEq) mB))) (mRet (ret (.int 0))) nx)
  (sq (bnd (mSeq (mVar 0)) (forL (gN 1) (mIf (bnd (m2 (mVar 1) (ret (.str "0123456789")) (dIn true)) mB) (mRet (ret (.int 0))) nx)))
  (mRet (bnd (aCons (mVar 0) aNil) cIntS))))
noncomputable def F_law_number : List D → Rs := runF 2 b_law_number
abbrev N_law_number : List Str := ["_law_word_here", "_law_sign"]
abbrev sk_law_number : Scope := defScope s_law_number
theorem v_law_number_0 : okV N_law_number sk_law_number 0 "_law_word_here" = true := by decide +kernel
theorem v_law_number_1 : okV N_law_number sk_law_number 1 "_law_sign" = true := by decide +kernel
theorem w_law_number_1 : okS N_law_number sk_law_number sk_law_number 1 "_law_sign" = true := by decide +kernel
theorem g_law_number_int : okG sk_law_number "int" = true := by decide +kernel
theorem g_law_number_len : okG sk_law_number "len" = true := by decide +kernel
set_option maxHeartbeats 4000000 in
theorem j_law_number {X : Cx} {W : WX} (C : CtxOk X W) (V : Nm X N_law_number sk_law_number sk_law_number) (Y : Df X) (z_int : X.mg "int" = none) (z_len : X.mg "len" = none) : JSs X W (defBody s_law_number) b_law_number :=
  (jss_cons (js_if (JW.jt (jw_or (jt_gt (je_lenN V v_law_number_0 g_law_number_len z_len) je_int) (jw_or (jt_eq C (je_var V v_law_number_0) je_str) (jw_or1 (jt_eq C (je_ixN V v_law_number_0 je_int) je_str))))) (jss_one (js_ret je_int)) jss_nil)
    (jss_cons (js_for C (ji_seq (je_var V v_law_number_0)) (jg_name V w_law_number_1) (jss_one (js_if (jt_nin (je_var V v_law_number_1) je_str) (jss_one (js_ret je_int)) jss_nil)))
    (jss_one (js_ret (je_intS V g_law_number_int z_int (ja_cons (je_var V v_law_number_0) ja_nil))))))
theorem ok_law_number {P : Program} {w : World} {K : PySem.W.Frag} {mg : MG} {base : Heap} {f : Addr} {fd : FuncData} (F : Fun K "_law_number" "_law_number" s_law_number f fd) (gm : mg "_law_number" = some (.ref f)) (z_int : mg "int" = none) (z_len : mg "len" = none) :
    FnOk P w K mg base (L2N.CX P w) 1 f fd ["_law_word_here"] (spP K mg 1 F_law_number) ∧ Callee P w K mg base "_law_number" 1 1 F_law_number := by
  have G : FnOk P w K mg base (L2N.CX P w) 1 f fd ["_law_word_here"] (spP K mg 1 F_law_number) := by
    have G0 := fn_ok (P := P) (w := w) (K := K) (mg := mg) (base := base) (N := N_law_number) (ps := ["_law_word_here"]) (k := 0) (g := b_law_number) F sc_law_number (fun X W hP hw hK hmg hb hr C V Y => by subst hP hw hK hmg hb; exact j_law_number C V Y z_int z_len)
    exact G0
  exact ⟨G, callee_of G gm F.kp (F.binds (ps := ["_law_word_here"]) fun _ _ _ _ _ _ us hl => match us, hl with | [_], _ => rfl)⟩

abbrev s_law_read : Stmt := topS 30
theorem sc_law_read : FnScope ["_law_word_here", "_law_by", "_law_words", "_law_top", "_law_bottom"] ["_law_word_here"] (defScope s_law_read) := ⟨rfl, rfl, rfl, by decide +kernel, rfl, by decide +kernel, by decide +kernel⟩
noncomputable def b_law_read : M Fl :=
  (sq (mAsg 1 (ret (.int 1)))
  (sq (mIf (bnd (m2 (mVar 0) (ret (.str "0")) mEq) mB) (mRet (mTup (aCons (ret (.int 0)) (aCons (ret (.int 1)) aNil)))) nx)
  (sq (mIf (bnd (m2 (mSlice (mVar 0) oNone (oSome (ret (.int 1)))) (ret (.str "-")) mEq) mB) (sq (mAsg 1 (bnd (ret (.int 1)) (u1i fun i => ret (.int (-i)))))
  (mAsg 0 (mSlice (mVar 0) (oSome (ret (.int 1))) oNone))) nx)
  (sq (mAsg 2 (bnd (mVar 0) (xStr fun s => bnd (ret (.str "/")) (dSplit s))))
  (sq (mAsg 3 (mCall (aCons (mIxN 2 (ret (.int 0))) aNil) F_law_number))
  (sq (mAsg 4 (ret (.int 1)))
  (sq (mIf (bnd (m2 (has 2 (onSl 2 fun d => cLen [d])) (ret (.int 2)) mEq) mB) (sq (mAsg 4 (mCall (aCons (mIxN 2 (ret (.int 1))) aNil) F_law_number))
  (mIf (bOr (bnd (m2 (mVar 4) (ret (.int 2)) (g2i (iCmp fun i j => decide (i < j)))) mB) (bnd (m2 (mCall (aCons (mVar 3) (aCons (mVar 4) aNil)) F_law_common) (ret (.int 1)) mNe) mB)) (mRet (ret .non)) nx)) nx)
  (sq (mIf (bOr (bnd (m2 (has 2 (onSl 2 fun d => cLen [d])) (ret (.int 2)) (g2i (iCmp fun i j => decide (j < i)))) mB) (bnd (m2 (mVar 3) (ret (.int 0)) mEq) mB)) (mRet (ret .non)) nx)
  (mRet (mTup (aCons (m2 (mVar 1) (mVar 3) (g2i iMul)) (aCons (mVar 4) aNil))))))))))))
noncomputable def F_law_read : List D → Rs := runF 5 b_law_read
abbrev N_law_read : List Str := ["_law_word_here", "_law_by", "_law_words", "_law_top", "_law_bottom"]
abbrev sk_law_read : Scope := defScope s_law_read
theorem v_law_read_0 : okV N_law_read sk_law_read 0 "_law_word_here" = true := by decide +kernel
theorem v_law_read_1 : okV N_law_read sk_law_read 1 "_law_by" = true := by decide +kernel
theorem v_law_read_2 : okV N_law_read sk_law_read 2 "_law_words" = true := by decide +kernel
theorem v_law_read_3 : okV N_law_read sk_law_read 3 "_law_top" = true := by decide +kernel
theorem v_law_read_4 : okV N_law_read sk_law_read 4 "_law_bottom" = true := by decide +kernel
theorem w_law_read_0 : okS N_law_read sk_law_read sk_law_read 0 "_law_word_here" = true := by decide +kernel
theorem w_law_read_1 : okS N_law_read sk_law_read sk_law_read 1 "_law_by" = true := by decide +kernel
theorem w_law_read_2 : okS N_law_read sk_law_read sk_law_read 2 "_law_words" = true := by decide +kernel
theorem w_law_read_3 : okS N_law_read sk_law_read sk_law_read 3 "_law_top" = true := by decide +kernel
theorem w_law_read_4 : okS N_law_read sk_law_read sk_law_read 4 "_law_bottom" = true := by decide +kernel
theorem g_law_read_law_common : okG sk_law_read "_law_common" = true := by decide +kernel
theorem g_law_read_law_number : okG sk_law_read "_law_number" = true := by decide +kernel
theorem g_law_read_len : okG sk_law_read "len" = true := by decide +kernel
set_option maxHeartbeats 4000000 in
theorem j_law_read {X : Cx} {W : WX} (C : CtxOk X W) (V : Nm X N_law_read sk_law_read sk_law_read) (Y : Df X) (c_law_number : Cal X "_law_number" 1 F_law_number) (c_law_common : Cal X "_law_common" 2 F_law_common) (z_len : X.mg "len" = none) : JSs X W (defBody s_law_read) b_law_read :=
  (jss_cons (js_asg V w_law_read_1 je_int)
    (jss_cons (js_if (jt_eq C (je_var V v_law_read_0) je_str) (jss_one (js_ret (je_tup (ja_cons je_int (ja_cons je_int ja_nil))))) jss_nil)
    (jss_cons (js_if (jt_eq C (je_slice (je_var V v_law_read_0) jo_none (jo_some je_int)) je_str) (jss_cons (js_asg V w_law_read_1 (je_neg je_int))
    (jss_one (js_asg V w_law_read_0 (je_slice (je_var V v_law_read_0) (jo_some je_int) jo_none)))) jss_nil)
    (jss_cons (js_asg V w_law_read_2 (je_split (je_var V v_law_read_0) je_str))
    (jss_cons (js_asg V w_law_read_3 (je_call C V g_law_read_law_number c_law_number (ja_cons (je_ixN V v_law_read_2 je_int) ja_nil) (alen_cons alen_nil)))
    (jss_cons (js_asg V w_law_read_4 je_int)
    (jss_cons (js_if (jt_eq C (je_lenN V v_law_read_2 g_law_read_len z_len) je_int) (jss_cons (js_asg V w_law_read_4 (je_call C V g_law_read_law_number c_law_number (ja_cons (je_ixN V v_law_read_2 je_int) ja_nil) (alen_cons alen_nil)))
    (jss_one (js_if (JW.jt (jw_or (jt_lt (je_var V v_law_read_4) je_int) (jw_or1 (jt_ne C (je_call C V g_law_read_law_common c_law_common (ja_cons (je_var V v_law_read_3) (ja_cons (je_var V v_law_read_4) ja_nil)) (alen_cons (alen_cons alen_nil))) je_int)))) (jss_one (js_ret je_non)) jss_nil))) jss_nil)
    (jss_cons (js_if (JW.jt (jw_or (jt_gt (je_lenN V v_law_read_2 g_law_read_len z_len) je_int) (jw_or1 (jt_eq C (je_var V v_law_read_3) je_int)))) (jss_one (js_ret je_non)) jss_nil)
    (jss_one (js_ret (je_tup (ja_cons (je_mul (je_var V v_law_read_1) (je_var V v_law_read_3)) (ja_cons (je_var V v_law_read_4) ja_nil)))))))))))))
theorem ok_law_read {P : Program} {w : World} {K : PySem.W.Frag} {mg : MG} {base : Heap} {f : Addr} {fd : FuncData} (F : Fun K "_law_read" "_law_read" s_law_read f fd) (gm : mg "_law_read" = some (.ref f)) (c_law_number : Callee P w K mg base "_law_number" 1 1 F_law_number) (c_law_common : Callee P w K mg base "_law_common" 1 2 F_law_common) (z_len : mg "len" = none) :
    FnOk P w K mg base (L2N.CX P w) 2 f fd ["_law_word_here"] (spP K mg 1 F_law_read) ∧ Callee P w K mg base "_law_read" 2 1 F_law_read := by
  have G : FnOk P w K mg base (L2N.CX P w) 2 f fd ["_law_word_here"] (spP K mg 1 F_law_read) := by
    have G0 := fn_ok (P := P) (w := w) (K := K) (mg := mg) (base := base) (N := N_law_read) (ps := ["_law_word_here"]) (k := 1) (g := b_law_read) F sc_law_read (fun X W hP hw hK hmg hb hr C V Y => by subst hP hw hK hmg hb; exact j_law_read C V Y (c_law_number.cal hr) (c_law_common.cal hr) z_len)
    exact G0
  exact ⟨G, callee_of G gm F.kp (F.binds (ps := ["_law_word_here"]) fun _ _ _ _ _ _ us hl => match us, hl with | [_], _ => rfl)⟩

abbrev s_law_due : Stmt := topS 31
theorem sc_law_due : FnScope ["_law_text", "_law_words", "_law_worths", "_law_word_here", "_law_share_here"] ["_law_text"] (defScope s_law_due) := ⟨rfl, rfl, rfl, by decide +kernel, rfl, by decide +kernel, by decide +kernel⟩
noncomputable def b_law_due : M Fl :=
  (sq (mAsg 1 (bnd (mVar 0) (xStr fun s => bnd (ret (.str ",")) (dSplit s))))
  (sq (mIf (bAnd (bnd (m2 (has 1 (onSl 1 fun d => cLen [d])) (ret (.int 2)) mNe) mB) (bnd (m2 (has 1 (onSl 1 fun d => cLen [d])) (ret (.int 3)) mNe) mB)) (mRet (ret .non)) nx)
  (sq (mAsg 2 (mLc [3] (mSeq (mVar 1)) (gN 3) (ret true) (mCall (aCons (mVar 3) aNil) F_law_read)))
  (sq (mIf (bnd (m2 (bnd (aCons (mLc [4] (mSeq (mVar 2)) (gN 4) (bnd (mVar 4) fun x => ret (isNon x)) (mVar 4)) aNil) cLen) (ret (.int 0)) (g2i (iCmp fun i j => decide (j < i)))) mB) (mRet (ret .non)) nx)
  (mRet (mCall (aCons (mVar 2) aNil) F_law_place))))))
noncomputable def F_law_due : List D → Rs := runF 5 b_law_due
abbrev N_law_due : List Str := ["_law_text", "_law_words", "_law_worths", "_law_word_here", "_law_share_here"]
abbrev sk_law_due : Scope := defScope s_law_due
theorem v_law_due_0 : okV N_law_due sk_law_due 0 "_law_text" = true := by decide +kernel
theorem v_law_due_1 : okV N_law_due sk_law_due 1 "_law_words" = true := by decide +kernel
theorem v_law_due_2 : okV N_law_due sk_law_due 2 "_law_worths" = true := by decide +kernel
theorem w_law_due_1 : okS N_law_due sk_law_due sk_law_due 1 "_law_words" = true := by decide +kernel
theorem w_law_due_2 : okS N_law_due sk_law_due sk_law_due 2 "_law_worths" = true := by decide +kernel
theorem g_law_due_law_place : okG sk_law_due "_law_place" = true := by decide +kernel
theorem g_law_due_len : okG sk_law_due "len" = true := by decide +kernel
set_option maxHeartbeats 4000000 in
theorem j_law_due {X : Cx} {W : WX} (C : CtxOk X W) (V : Nm X N_law_due sk_law_due sk_law_due) (Y : Df X) (c_law_read : Cal X "_law_read" 1 F_law_read) (c_law_place : Cal X "_law_place" 1 F_law_place) (z_len : X.mg "len" = none) : JSs X W (defBody s_law_due) b_law_due :=
  (jss_cons (js_asg V w_law_due_1 (je_split (je_var V v_law_due_0) je_str))
    (jss_cons (js_if (JW.jt (jw_and (jt_ne C (je_lenN V v_law_due_1 g_law_due_len z_len) je_int) (jw_and1 (jt_ne C (je_lenN V v_law_due_1 g_law_due_len z_len) je_int)))) (jss_one (js_ret je_non)) jss_nil)
    (jss_cons (js_setLc (own := [("_law_word_here", 3)]) C V w_law_due_2 (by decide +kernel) (by decide +kernel) rfl (by decide) (by decide) (ji_seq (je_var V v_law_due_1)) (fun X1 V1 C1 B1 => (jgv_name V1 (by decide +kernel) (by decide))) (fun X1 V1 C1 B1 => jts_nil) (fun X1 V1 C1 B1 => (je_call C1 V1 (by decide +kernel) (B1.cal c_law_read) (ja_cons (je_var V1 (by decide +kernel)) ja_nil) (alen_cons alen_nil))))
    (jss_cons (js_if (jt_gt (je_len V g_law_due_len z_len (ja_cons (je_lc (own := [("_law_share_here", 4)]) C V (by decide +kernel) rfl (ji_seq (je_var V v_law_due_2)) (fun X2 V2 C2 B2 => (jgv_name V2 (by decide +kernel) (by decide))) (fun X2 V2 C2 B2 => (jts_one (jt_isN (je_var V2 (by decide +kernel))))) (fun X2 V2 C2 B2 => (je_var V2 (by decide +kernel)))) ja_nil)) je_int) (jss_one (js_ret je_non)) jss_nil)
    (jss_one (js_ret (je_call C V g_law_due_law_place c_law_place (ja_cons (je_var V v_law_due_2) ja_nil) (alen_cons alen_nil))))))))
theorem ok_law_due {P : Program} {w : World} {K : PySem.W.Frag} {mg : MG} {base : Heap} {f : Addr} {fd : FuncData} (F : Fun K "_law_due" "_law_due" s_law_due f fd) (gm : mg "_law_due" = some (.ref f)) (c_law_read : Callee P w K mg base "_law_read" 2 1 F_law_read) (c_law_place : Callee P w K mg base "_law_place" 2 1 F_law_place) (z_len : mg "len" = none) :
    FnOk P w K mg base (L2N.CX P w) 3 f fd ["_law_text"] (spP K mg 1 F_law_due) ∧ Callee P w K mg base "_law_due" 3 1 F_law_due := by
  have G : FnOk P w K mg base (L2N.CX P w) 3 f fd ["_law_text"] (spP K mg 1 F_law_due) := by
    have G0 := fn_ok (P := P) (w := w) (K := K) (mg := mg) (base := base) (N := N_law_due) (ps := ["_law_text"]) (k := 2) (g := b_law_due) F sc_law_due (fun X W hP hw hK hmg hb hr C V Y => by subst hP hw hK hmg hb; exact j_law_due C V Y (c_law_read.cal hr) (c_law_place.cal hr) z_len)
    exact G0
  exact ⟨G, callee_of G gm F.kp (F.binds (ps := ["_law_text"]) fun _ _ _ _ _ _ us hl => match us, hl with | [_], _ => rfl)⟩

abbrev s_law_other : Stmt := topS 32
theorem sc_law_other : FnScope ["_law_text", "_law_cell", "_law_sign", "_law_some", "_law_at", "_law_put"] ["_law_text", "_law_cell", "_law_sign"] (defScope s_law_other) := ⟨rfl, rfl, rfl, by decide +kernel, rfl, by decide +kernel, by decide +kernel⟩
noncomputable def b_law_other : M Fl :=
  (sq (mAsg 3 (mLst (aCons (ret (.str "")) (aCons (ret (.str ",")) (aCons (ret (.str "0")) (aCons (ret (.str "0,0,0,0")) (aCons (ret (.str "0,-0")) (aCons (ret (.str "0,00")) (aCons (ret (.str "1,")) (aCons (ret (.str " 1,2")) (aCons (ret (.str "1/1,0")) (aCons (ret (.str "2/4,0")) (aCons (ret (.str "0/3,0")) (aCons (ret (.str "1/-2,0")) (aCons (ret (.str "+1,0")) (aCons (ret (.str "--1,0")) aNil))))))))))))))))
  (sq (mAsg 3 (m2 (mVar 3) (mLst (aCons (ret (.str "1/2/3,0")) (aCons (ret (.str "1/0,0")) (aCons (ret (.str "01,0")) (aCons (ret (.str "1.5,0")) (aCons (ret (.str "x,y")) (aCons (ret (.str "1/02,5")) (aCons (ret (.str "1_0,0")) (aCons (ret (.str "1	,0")) aNil))))))))) mAdd))
  (sq (mIf (bnd (m2 (m2 (mVar 1) (ret (.int 4)) (g2i iMod)) (ret (.int 0)) mEq) mB) (mRet (mIxN 3 (m2 (m2 (mVar 1) (ret (.int 4)) (g2i iDiv)) (ret (.int 22)) (g2i iMod)))) nx)
  (sq (mAsg 4 (m2 (m2 (mVar 1) (ret (.int 4)) (g2i iDiv)) (m2 (has 0 (onSl 0 fun d => cLen [d])) (ret (.int 1)) mAdd) (g2i iMod)))
  (sq (mAsg 5 (m2 (ret (.str "0123456789,-/+ x_\n	")) (m2 (mVar 2) (ret (.int 19)) (g2i iMod)) mIx))
  (sq (mIf (bnd (m2 (m2 (mVar 1) (ret (.int 4)) (g2i iMod)) (ret (.int 1)) mEq) mB) (mAsg 5 (ret (.str ""))) nx)
  (mRet (m2 (m2 (mSlice (mVar 0) oNone (oSome (mVar 4))) (mVar 5) mAdd) (mSlice (mVar 0) (oSome (m2 (mVar 4) (m2 (mLst (aCons (ret (.int 0)) (aCons (ret (.int 1)) (aCons (ret (.int 0)) (aCons (ret (.int 1)) aNil))))) (m2 (mVar 1) (ret (.int 4)) (g2i iMod)) mIx) mAdd)) oNone) mAdd))))))))
noncomputable def F_law_other : List D → Rs := runF 6 b_law_other
abbrev N_law_other : List Str := ["_law_text", "_law_cell", "_law_sign", "_law_some", "_law_at", "_law_put"]
abbrev sk_law_other : Scope := defScope s_law_other
theorem v_law_other_0 : okV N_law_other sk_law_other 0 "_law_text" = true := by decide +kernel
theorem v_law_other_1 : okV N_law_other sk_law_other 1 "_law_cell" = true := by decide +kernel
theorem v_law_other_2 : okV N_law_other sk_law_other 2 "_law_sign" = true := by decide +kernel
theorem v_law_other_3 : okV N_law_other sk_law_other 3 "_law_some" = true := by decide +kernel
theorem v_law_other_4 : okV N_law_other sk_law_other 4 "_law_at" = true := by decide +kernel
theorem v_law_other_5 : okV N_law_other sk_law_other 5 "_law_put" = true := by decide +kernel
theorem w_law_other_3 : okS N_law_other sk_law_other sk_law_other 3 "_law_some" = true := by decide +kernel
theorem w_law_other_4 : okS N_law_other sk_law_other sk_law_other 4 "_law_at" = true := by decide +kernel
theorem w_law_other_5 : okS N_law_other sk_law_other sk_law_other 5 "_law_put" = true := by decide +kernel
theorem g_law_other_len : okG sk_law_other "len" = true := by decide +kernel
set_option maxHeartbeats 4000000 in
theorem j_law_other {X : Cx} {W : WX} (C : CtxOk X W) (V : Nm X N_law_other sk_law_other sk_law_other) (Y : Df X) (z_len : X.mg "len" = none) : JSs X W (defBody s_law_other) b_law_other :=
  (jss_cons (js_asg V w_law_other_3 (je_lst (ja_cons je_str (ja_cons je_str (ja_cons je_str (ja_cons je_str (ja_cons je_str (ja_cons je_str (ja_cons je_str (ja_cons je_str (ja_cons je_str (ja_cons je_str (ja_cons je_str (ja_cons je_str (ja_cons je_str (ja_cons je_str ja_nil))))))))))))))))
    (jss_cons (js_asg V w_law_other_3 (je_add (je_var V v_law_other_3) (je_lst (ja_cons je_str (ja_cons je_str (ja_cons je_str (ja_cons je_str (ja_cons je_str (ja_cons je_str (ja_cons je_str (ja_cons je_str ja_nil)))))))))))
    (jss_cons (js_if (jt_eq C (je_mod (je_var V v_law_other_1) je_int) je_int) (jss_one (js_ret (je_ixN V v_law_other_3 (je_mod (je_fdiv (je_var V v_law_other_1) je_int) je_int)))) jss_nil)
    (jss_cons (js_asg V w_law_other_4 (je_mod (je_fdiv (je_var V v_law_other_1) je_int) (je_add (je_lenN V v_law_other_0 g_law_other_len z_len) je_int)))
    (jss_cons (js_asg V w_law_other_5 (je_ix je_str (je_mod (je_var V v_law_other_2) je_int)))
    (jss_cons (js_if (jt_eq C (je_mod (je_var V v_law_other_1) je_int) je_int) (jss_one (js_asg V w_law_other_5 je_str)) jss_nil)
    (jss_one (js_ret (je_add (je_add (je_slice (je_var V v_law_other_0) jo_none (jo_some (je_var V v_law_other_4))) (je_var V v_law_other_5)) (je_slice (je_var V v_law_other_0) (jo_some (je_add (je_var V v_law_other_4) (je_ix (je_lst (ja_cons je_int (ja_cons je_int (ja_cons je_int (ja_cons je_int ja_nil))))) (je_mod (je_var V v_law_other_1) je_int)))) jo_none))))))))))
theorem ok_law_other {P : Program} {w : World} {K : PySem.W.Frag} {mg : MG} {base : Heap} {f : Addr} {fd : FuncData} (F : Fun K "_law_other" "_law_other" s_law_other f fd) (gm : mg "_law_other" = some (.ref f)) (z_len : mg "len" = none) :
    FnOk P w K mg base (L2N.CX P w) 1 f fd ["_law_text", "_law_cell", "_law_sign"] (spP K mg 3 F_law_other) ∧ Callee P w K mg base "_law_other" 1 3 F_law_other := by
  have G : FnOk P w K mg base (L2N.CX P w) 1 f fd ["_law_text", "_law_cell", "_law_sign"] (spP K mg 3 F_law_other) := by
    have G0 := fn_ok (P := P) (w := w) (K := K) (mg := mg) (base := base) (N := N_law_other) (ps := ["_law_text", "_law_cell", "_law_sign"]) (k := 0) (g := b_law_other) F sc_law_other (fun X W hP hw hK hmg hb hr C V Y => by subst hP hw hK hmg hb; exact j_law_other C V Y z_len)
    exact G0
  exact ⟨G, callee_of G gm F.kp (F.binds (ps := ["_law_text", "_law_cell", "_law_sign"]) fun _ _ _ _ _ _ us hl => match us, hl with | [_, _, _], _ => rfl)⟩

abbrev s_law_is : Stmt := topS 33
theorem sc_law_is : FnScope ["_law_found", "_law_due_here", "_law_number_here"] ["_law_found", "_law_due_here"] (defScope s_law_is) := ⟨rfl, rfl, rfl, by decide +kernel, rfl, by decide +kernel, by decide +kernel⟩
noncomputable def b_law_is : M Fl :=
  (sq (mIf (bOr (bNot (bnd (bnd (mVar 0) fun d => cIsi "tuple" [d]) mTru)) (bOr (bnd (m2 (has 0 (onSl 0 fun d => cLen [d])) (ret (.int 2)) mNe) mB) (bOr (bNot (bnd (bnd (mIxN 0 (ret (.int 0))) fun d => cIsi "tuple" [d]) mTru)) (bNot (bnd (mCall (aCons (mIxN 0 (ret (.int 1))) aNil) F_law_whole) mTru))))) (mRet (ret (.bl false))) nx)
  (sq (mIf (bnd (m2 (bnd (aCons (mLc [2] (mSeq (mIxN 0 (ret (.int 0)))) (gN 2) (bNot (bnd (mCall (aCons (mVar 2) aNil) F_law_whole) mTru)) (mVar 2)) aNil) cLen) (ret (.int 0)) (g2i (iCmp fun i j => decide (j < i)))) mB) (mRet (ret (.bl false))) nx)
  (mRet (m2 (mVar 0) (mVar 1) mEq))))
noncomputable def F_law_is : List D → Rs := runF 3 b_law_is
abbrev N_law_is : List Str := ["_law_found", "_law_due_here", "_law_number_here"]
abbrev sk_law_is : Scope := defScope s_law_is
theorem v_law_is_0 : okV N_law_is sk_law_is 0 "_law_found" = true := by decide +kernel
theorem v_law_is_1 : okV N_law_is sk_law_is 1 "_law_due_here" = true := by decide +kernel
theorem g_law_is_law_whole : okG sk_law_is "_law_whole" = true := by decide +kernel
theorem g_law_is_isinstance : okG sk_law_is "isinstance" = true := by decide +kernel
theorem g_law_is_len : okG sk_law_is "len" = true := by decide +kernel
theorem g_law_is_tuple : okG sk_law_is "tuple" = true := by decide +kernel
set_option maxHeartbeats 4000000 in
theorem j_law_is {X : Cx} {W : WX} (C : CtxOk X W) (V : Nm X N_law_is sk_law_is sk_law_is) (Y : Df X) (c_law_whole : Cal X "_law_whole" 1 F_law_whole) (z_isinstance : X.mg "isinstance" = none) (z_len : X.mg "len" = none) (z_tuple : X.mg "tuple" = none) : JSs X W (defBody s_law_is) b_law_is :=
  (jss_cons (js_if (JW.jt (jw_or (jt_not (jt_tru (je_isi (T := "tuple") V g_law_is_isinstance g_law_is_tuple z_isinstance z_tuple (by decide +kernel) (je_var V v_law_is_0)))) (jw_or (jt_ne C (je_lenN V v_law_is_0 g_law_is_len z_len) je_int) (jw_or (jt_not (jt_tru (je_isi (T := "tuple") V g_law_is_isinstance g_law_is_tuple z_isinstance z_tuple (by decide +kernel) (je_ixN V v_law_is_0 je_int)))) (jw_or1 (jt_not (jt_tru (je_call C V g_law_is_law_whole c_law_whole (ja_cons (je_ixN V v_law_is_0 je_int) ja_nil) (alen_cons alen_nil))))))))) (jss_one (js_ret je_bl)) jss_nil)
    (jss_cons (js_if (jt_gt (je_len V g_law_is_len z_len (ja_cons (je_lc (own := [("_law_number_here", 2)]) C V (by decide +kernel) rfl (ji_seq (je_ixN V v_law_is_0 je_int)) (fun X1 V1 C1 B1 => (jgv_name V1 (by decide +kernel) (by decide))) (fun X1 V1 C1 B1 => (jts_one (jt_not (jt_tru (je_call C1 V1 (by decide +kernel) (B1.cal c_law_whole) (ja_cons (je_var V1 (by decide +kernel)) ja_nil) (alen_cons alen_nil)))))) (fun X1 V1 C1 B1 => (je_var V1 (by decide +kernel)))) ja_nil)) je_int) (jss_one (js_ret je_bl)) jss_nil)
    (jss_one (js_ret (je_eq C (je_var V v_law_is_0) (je_var V v_law_is_1))))))
theorem ok_law_is {P : Program} {w : World} {K : PySem.W.Frag} {mg : MG} {base : Heap} {f : Addr} {fd : FuncData} (F : Fun K "_law_is" "_law_is" s_law_is f fd) (gm : mg "_law_is" = some (.ref f)) (c_law_whole : Callee P w K mg base "_law_whole" 1 1 F_law_whole) (z_isinstance : mg "isinstance" = none) (z_len : mg "len" = none) (z_tuple : mg "tuple" = none) :
    FnOk P w K mg base (L2N.CX P w) 2 f fd ["_law_found", "_law_due_here"] (spP K mg 2 F_law_is) ∧ Callee P w K mg base "_law_is" 2 2 F_law_is := by
  have G : FnOk P w K mg base (L2N.CX P w) 2 f fd ["_law_found", "_law_due_here"] (spP K mg 2 F_law_is) := by
    have G0 := fn_ok (P := P) (w := w) (K := K) (mg := mg) (base := base) (N := N_law_is) (ps := ["_law_found", "_law_due_here"]) (k := 1) (g := b_law_is) F sc_law_is (fun X W hP hw hK hmg hb hr C V Y => by subst hP hw hK hmg hb; exact j_law_is C V Y (c_law_whole.cal hr) z_isinstance z_len z_tuple)
    exact G0
  exact ⟨G, callee_of G gm F.kp (F.binds (ps := ["_law_found", "_law_due_here"]) fun _ _ _ _ _ _ us hl => match us, hl with | [_, _], _ => rfl)⟩

abbrev s_law_only : Stmt := topS 34
theorem sc_law_only : FnScope ["_law_e"] ["_law_e"] (defScope s_law_only) := ⟨rfl, rfl, rfl, by decide +kernel, rfl, by decide +kernel, by decide +kernel⟩
noncomputable def b_law_only : Addr → Str → M Fl := fun a y =>
  (sq (mIf (bOr (bnd (bnd (mVar 0) (cIsE tab a y "NoPlace")) mTru) (bnd (bnd (mVar 0) (cIsE tab a y "NoDeed")) mTru)) (mRet (ret (.bl false))) nx)
  (sq (mIf (bOr (bnd (bnd (mVar 0) (cIsE tab a y "NoNumber")) mTru) (bnd (bnd (mVar 0) (cIsE tab a y "TooMany")) mTru)) (mRet (ret (.bl false))) nx)
  (mRet (vAnd (bnd (mVar 0) (cIsE tab a y "NoText")) (bnd (mVar 0) (cIsE tab a y "ValueError"))))))
noncomputable def F_law_only : Addr → Str → List D → Rs := fun a y => runF 1 (b_law_only a y)
abbrev N_law_only : List Str := ["_law_e"]
abbrev sk_law_only : Scope := defScope s_law_only
theorem v_law_only_0 : okV N_law_only sk_law_only 0 "_law_e" = true := by decide +kernel
theorem g_law_only_NoDeed : okG sk_law_only "NoDeed" = true := by decide +kernel
theorem g_law_only_NoNumber : okG sk_law_only "NoNumber" = true := by decide +kernel
theorem g_law_only_NoPlace : okG sk_law_only "NoPlace" = true := by decide +kernel
theorem g_law_only_NoText : okG sk_law_only "NoText" = true := by decide +kernel
theorem g_law_only_TooMany : okG sk_law_only "TooMany" = true := by decide +kernel
theorem g_law_only_ValueError : okG sk_law_only "ValueError" = true := by decide +kernel
theorem g_law_only_isinstance : okG sk_law_only "isinstance" = true := by decide +kernel
set_option maxHeartbeats 4000000 in
theorem j_law_only {X : Cx} {a : Addr} {y : Str} (Hx : HotX X a y) (V : Nm X N_law_only sk_law_only sk_law_only) (z_isinstance : X.mg "isinstance" = none) (TO : TabOk X.K X.mg tab) : JSs X WF (defBody s_law_only) (b_law_only a y) :=
  (jss_cons (js_if (JW.jt (jw_or (jt_tru (je_isE V g_law_only_isinstance g_law_only_NoPlace z_isinstance Hx TO (je_var V v_law_only_0))) (jw_or1 (jt_tru (je_isE V g_law_only_isinstance g_law_only_NoDeed z_isinstance Hx TO (je_var V v_law_only_0)))))) (jss_one (js_ret je_bl)) jss_nil)
    (jss_cons (js_if (JW.jt (jw_or (jt_tru (je_isE V g_law_only_isinstance g_law_only_NoNumber z_isinstance Hx TO (je_var V v_law_only_0))) (jw_or1 (jt_tru (je_isE V g_law_only_isinstance g_law_only_TooMany z_isinstance Hx TO (je_var V v_law_only_0)))))) (jss_one (js_ret je_bl)) jss_nil)
    (jss_one (js_ret (je_and (je_isE V g_law_only_isinstance g_law_only_NoText z_isinstance Hx TO (je_var V v_law_only_0)) (je_one (je_isE V g_law_only_isinstance g_law_only_ValueError z_isinstance Hx TO (je_var V v_law_only_0))))))))
theorem ok_law_only {P : Program} {w : World} {K : PySem.W.Frag} {mg : MG} {base : Heap} {f : Addr} {fd : FuncData} (F : Fun K "_law_only" "_law_only" s_law_only f fd) (gm : mg "_law_only" = some (.ref f)) (z_isinstance : mg "isinstance" = none) (TO : TabOk K mg tab) :
    FnE P w K mg base 1 f fd ["_law_e"] (fun a y => spE K mg 1 (F_law_only a y)) ∧ CalleeE P w K mg base "_law_only" 1 1 F_law_only := by
  have G : FnE P w K mg base 1 f fd ["_law_e"] (fun a y => spE K mg 1 (F_law_only a y)) := by
    have G0 := fn_okE (P := P) (w := w) (K := K) (mg := mg) (base := base) (N := N_law_only) (ps := ["_law_e"]) (k := 0) (g := b_law_only) F sc_law_only (fun X a y hP hw hK hmg hb hr hu Hx V => by subst hP hw hK hmg hb; exact j_law_only Hx V z_isinstance TO)
    exact G0
  exact ⟨G, calleeE_of G gm F.kp (F.binds (ps := ["_law_e"]) fun _ _ _ _ _ _ us hl => match us, hl with | [_], _ => rfl)⟩

abbrev s_law_right : Stmt := topS 35
theorem sc_law_right : FnScope ["_law_text", "_law_due_here", "_law_refused", "_law_only_here", "_law_found", "_law_e", "_law_told"] ["_law_text"] (defScope s_law_right) := ⟨rfl, rfl, rfl, by decide +kernel, rfl, by decide +kernel, by decide +kernel⟩
noncomputable def b_law_right : M Fl :=
  (sq (mAsg 1 (mCall (aCons (mVar 0) aNil) F_law_due))
  (sq (mAsg 2 (ret (.bl false)))
  (sq (mAsg 3 (ret (.bl false)))
  (sq (mAsg 4 (ret .non))
  (sq (mTryAs 5 cat "CrystalError" (mAsg 4 (mCall (aCons (mVar 0) aNil) F_read_place)) (fun a2 y2 => (sq (mAsg 2 (ret (.bl true)))
  (mAsg 3 (mCallE (aCons (mVar 5) aNil) (F_law_only a2 y2))))))
  (sq (mIf (bnd (mVar 1) fun x => ret (isNon x)) (mRet (vAnd (mVar 2) (mVar 3))) nx)
  (sq (mIf (bOr (bnd (mVar 2) mTru) (bNot (bnd (mCall (aCons (mVar 4) (aCons (mVar 1) aNil)) F_law_is) mTru))) (mRet (ret (.bl false))) nx)
  (sq (mAsg 6 (mCall (aCons (mVar 4) aNil) F_show_place))
  (mRet (vAnd (bnd (mVar 6) fun d => cIsi "str" [d]) (m2 (mVar 6) (mVar 0) mEq)))))))))))
noncomputable def F_law_right : List D → Rs := runF 7 b_law_right
abbrev N_law_right : List Str := ["_law_text", "_law_due_here", "_law_refused", "_law_only_here", "_law_found", "_law_e", "_law_told"]
abbrev sk_law_right : Scope := defScope s_law_right
theorem v_law_right_0 : okV N_law_right sk_law_right 0 "_law_text" = true := by decide +kernel
theorem v_law_right_1 : okV N_law_right sk_law_right 1 "_law_due_here" = true := by decide +kernel
theorem v_law_right_2 : okV N_law_right sk_law_right 2 "_law_refused" = true := by decide +kernel
theorem v_law_right_3 : okV N_law_right sk_law_right 3 "_law_only_here" = true := by decide +kernel
theorem v_law_right_4 : okV N_law_right sk_law_right 4 "_law_found" = true := by decide +kernel
theorem v_law_right_5 : okV N_law_right sk_law_right 5 "_law_e" = true := by decide +kernel
theorem v_law_right_6 : okV N_law_right sk_law_right 6 "_law_told" = true := by decide +kernel
theorem w_law_right_1 : okS N_law_right sk_law_right sk_law_right 1 "_law_due_here" = true := by decide +kernel
theorem w_law_right_2 : okS N_law_right sk_law_right sk_law_right 2 "_law_refused" = true := by decide +kernel
theorem w_law_right_3 : okS N_law_right sk_law_right sk_law_right 3 "_law_only_here" = true := by decide +kernel
theorem w_law_right_4 : okS N_law_right sk_law_right sk_law_right 4 "_law_found" = true := by decide +kernel
theorem w_law_right_5 : okS N_law_right sk_law_right sk_law_right 5 "_law_e" = true := by decide +kernel
theorem w_law_right_6 : okS N_law_right sk_law_right sk_law_right 6 "_law_told" = true := by decide +kernel
theorem g_law_right_CrystalError : okG sk_law_right "CrystalError" = true := by decide +kernel
theorem g_law_right_law_due : okG sk_law_right "_law_due" = true := by decide +kernel
theorem g_law_right_law_is : okG sk_law_right "_law_is" = true := by decide +kernel
theorem g_law_right_law_only : okG sk_law_right "_law_only" = true := by decide +kernel
theorem g_law_right_isinstance : okG sk_law_right "isinstance" = true := by decide +kernel
theorem g_law_right_read_place : okG sk_law_right "read_place" = true := by decide +kernel
theorem g_law_right_show_place : okG sk_law_right "show_place" = true := by decide +kernel
theorem g_law_right_str : okG sk_law_right "str" = true := by decide +kernel
set_option maxHeartbeats 4000000 in
theorem j_law_right {X : Cx} {W : WX} (C : CtxOk X W) (V : Nm X N_law_right sk_law_right sk_law_right) (Y : Df X) (c_law_due : Cal X "_law_due" 1 F_law_due) (c_read_place : Cal X "read_place" 1 F_read_place) (c_law_is : Cal X "_law_is" 2 F_law_is) (c_show_place : Cal X "show_place" 1 F_show_place) (h_law_only : CalE X "_law_only" 1 F_law_only) (z_isinstance : X.mg "isinstance" = none) (z_str : X.mg "str" = none) {U_CrystalError : Value} (u_CrystalError : X.mg "CrystalError" = some U_CrystalError) (TC : CatOk X.K X.mg cat) : JSs X W (defBody s_law_right) b_law_right :=
  (jss_cons (js_asg V w_law_right_1 (je_call C V g_law_right_law_due c_law_due (ja_cons (je_var V v_law_right_0) ja_nil) (alen_cons alen_nil)))
    (jss_cons (js_asg V w_law_right_2 je_bl)
    (jss_cons (js_asg V w_law_right_3 je_bl)
    (jss_cons (js_asg V w_law_right_4 je_non)
    (jss_cons (js_try_as C V Y w_law_right_5 (by decide +kernel) g_law_right_CrystalError u_CrystalError TC (fun X1 WX1 C1 V1 Y1 B1 => (jss_one (js_asg V1 w_law_right_4 (je_call C1 V1 g_law_right_read_place (B1.cal c_read_place) (ja_cons (je_var V1 v_law_right_0) ja_nil) (alen_cons alen_nil))))) (fun X2 a2 y2 Hx2 V2 B2 => (jss_cons (js_asg V2 w_law_right_2 je_bl)
    (jss_one (js_asg V2 w_law_right_3 (je_callE Hx2 V2 g_law_right_law_only (B2.cal h_law_only) (ja_cons (je_var V2 v_law_right_5) ja_nil) (alen_cons alen_nil)))))))
    (jss_cons (js_if (jt_isN (je_var V v_law_right_1)) (jss_one (js_ret (je_and (je_var V v_law_right_2) (je_one (je_var V v_law_right_3))))) jss_nil)
    (jss_cons (js_if (JW.jt (jw_or (jt_tru (je_var V v_law_right_2)) (jw_or1 (jt_not (jt_tru (je_call C V g_law_right_law_is c_law_is (ja_cons (je_var V v_law_right_4) (ja_cons (je_var V v_law_right_1) ja_nil)) (alen_cons (alen_cons alen_nil)))))))) (jss_one (js_ret je_bl)) jss_nil)
    (jss_cons (js_asg V w_law_right_6 (je_call C V g_law_right_show_place c_show_place (ja_cons (je_var V v_law_right_4) ja_nil) (alen_cons alen_nil)))
    (jss_one (js_ret (je_and (je_isi (T := "str") V g_law_right_isinstance g_law_right_str z_isinstance z_str (by decide +kernel) (je_var V v_law_right_6)) (je_one (je_eq C (je_var V v_law_right_6) (je_var V v_law_right_0))))))))))))))
theorem ok_law_right {P : Program} {w : World} {K : PySem.W.Frag} {mg : MG} {base : Heap} {f : Addr} {fd : FuncData} (F : Fun K "_law_right" "_law_right" s_law_right f fd) (gm : mg "_law_right" = some (.ref f)) (c_law_due : Callee P w K mg base "_law_due" 3 1 F_law_due) (c_read_place : Callee P w K mg base "read_place" 4 1 F_read_place) (c_law_is : Callee P w K mg base "_law_is" 2 2 F_law_is) (c_show_place : Callee P w K mg base "show_place" 3 1 F_show_place) (h_law_only : CalleeE P w K mg base "_law_only" 1 1 F_law_only) (z_isinstance : mg "isinstance" = none) (z_str : mg "str" = none) {U_CrystalError : Value} (u_CrystalError : mg "CrystalError" = some U_CrystalError) (TC : CatOk K mg cat) :
    FnOk P w K mg base (L2N.CX P w) 5 f fd ["_law_text"] (spP K mg 1 F_law_right) ∧ Callee P w K mg base "_law_right" 5 1 F_law_right := by
  have G : FnOk P w K mg base (L2N.CX P w) 5 f fd ["_law_text"] (spP K mg 1 F_law_right) := by
    have G0 := fn_ok (P := P) (w := w) (K := K) (mg := mg) (base := base) (N := N_law_right) (ps := ["_law_text"]) (k := 4) (g := b_law_right) F sc_law_right (fun X W hP hw hK hmg hb hr C V Y => by subst hP hw hK hmg hb; exact j_law_right C V Y (c_law_due.cal hr) (c_read_place.cal hr) (c_law_is.cal hr) (c_show_place.cal hr) (h_law_only.cal hr) z_isinstance z_str u_CrystalError TC)
    exact G0
  exact ⟨G, callee_of G gm F.kp (F.binds (ps := ["_law_text"]) fun _ _ _ _ _ _ us hl => match us, hl with | [_], _ => rfl)⟩

abbrev s_law : Stmt := topS 36
theorem sc_law : FnScope ["_law_script", "_law_at", "_law_cells", "_law_k", "_law_worths", "_law_text", "_law_share_here"] ["_law_script"] (defScope s_law) := ⟨rfl, rfl, rfl, by decide +kernel, rfl, by decide +kernel, by decide +kernel⟩
noncomputable def b_law : M Fl :=
  (sq (bnd (mRng3 (aCons (ret (.int 0)) (aCons (bnd (aCons (ret (.int 1)) (aCons (has 0 (onSl 0 fun d => cLen [d])) aNil)) (c2i fun i j => ret (.int (if j > i then j else i)))) (aCons (ret (.int 7)) aNil)))) (forL (gN 1) (sq (mAsg 2 (mLc [3] (mRng1 (aCons (ret (.int 7)) aNil)) (gN 3) (ret true) (mCall (aCons (mVar 0) (aCons (m2 (mVar 1) (mVar 3) mAdd) aNil)) F_law_cell_at)))
  (sq (mAsg 4 (mLc [3] (mRng1 (aCons (m2 (ret (.int 2)) (m2 (mIxN 2 (ret (.int 4))) (ret (.int 2)) (g2i iMod)) mAdd) aNil)) (gN 3) (ret true) (mCall (aCons (mIxN 2 (mVar 3)) (aCons (m2 (m2 (mIxN 2 (ret (.int 3))) (m2 (mVar 3) (ret (.int 1)) mAdd) (g2i iMul)) (mVar 3) mAdd) aNil)) F_law_share)))
  (sq (mAsg 5 (bnd (ret (.str ",")) (xStr fun s => bnd (mLc [6] (mSeq (mVar 4)) (gN 6) (ret true) (mCall (aCons (mVar 6) aNil) F_law_word)) (dJoin s))))
  (sq (mIf (bOr (bnd (m2 (mCall (aCons (mVar 5) aNil) F_law_due) (mCall (aCons (mVar 4) aNil) F_law_place) mNe) mB) (bNot (bnd (mCall (aCons (mVar 5) aNil) F_law_right) mTru))) (mRet (ret (.bl false))) nx)
  (mIf (bNot (bnd (mCall (aCons (mCall (aCons (mVar 5) (aCons (mIxN 2 (ret (.int 5))) (aCons (mIxN 2 (ret (.int 6))) aNil))) F_law_other) aNil) F_law_right) mTru)) (mRet (ret (.bl false))) nx)))))))
  (mRet (ret (.bl true))))
noncomputable def F_law : List D → Rs := runF 7 b_law
abbrev N_law : List Str := ["_law_script", "_law_at", "_law_cells", "_law_k", "_law_worths", "_law_text", "_law_share_here"]
abbrev sk_law : Scope := defScope s_law
theorem v_law_0 : okV N_law sk_law 0 "_law_script" = true := by decide +kernel
theorem v_law_2 : okV N_law sk_law 2 "_law_cells" = true := by decide +kernel
theorem v_law_4 : okV N_law sk_law 4 "_law_worths" = true := by decide +kernel
theorem v_law_5 : okV N_law sk_law 5 "_law_text" = true := by decide +kernel
theorem w_law_1 : okS N_law sk_law sk_law 1 "_law_at" = true := by decide +kernel
theorem w_law_2 : okS N_law sk_law sk_law 2 "_law_cells" = true := by decide +kernel
theorem w_law_4 : okS N_law sk_law sk_law 4 "_law_worths" = true := by decide +kernel
theorem w_law_5 : okS N_law sk_law sk_law 5 "_law_text" = true := by decide +kernel
theorem g_law_law_due : okG sk_law "_law_due" = true := by decide +kernel
theorem g_law_law_other : okG sk_law "_law_other" = true := by decide +kernel
theorem g_law_law_place : okG sk_law "_law_place" = true := by decide +kernel
theorem g_law_law_right : okG sk_law "_law_right" = true := by decide +kernel
theorem g_law_len : okG sk_law "len" = true := by decide +kernel
theorem g_law_max : okG sk_law "max" = true := by decide +kernel
theorem g_law_range : okG sk_law "range" = true := by decide +kernel
set_option maxHeartbeats 4000000 in
theorem j_law {X : Cx} {W : WX} (C : CtxOk X W) (V : Nm X N_law sk_law sk_law) (Y : Df X) (c_law_cell_at : Cal X "_law_cell_at" 2 F_law_cell_at) (c_law_share : Cal X "_law_share" 2 F_law_share) (c_law_word : Cal X "_law_word" 1 F_law_word) (c_law_due : Cal X "_law_due" 1 F_law_due) (c_law_place : Cal X "_law_place" 1 F_law_place) (c_law_right : Cal X "_law_right" 1 F_law_right) (c_law_other : Cal X "_law_other" 3 F_law_other) (z_len : X.mg "len" = none) (z_max : X.mg "max" = none) (z_range : X.mg "range" = none) : JSs X W (defBody s_law) b_law :=
  (jss_cons (js_for C (ji_range3 V g_law_range z_range (ja_cons je_int (ja_cons (je_max2 C V g_law_max z_max (ja_cons je_int (ja_cons (je_lenN V v_law_0 g_law_len z_len) ja_nil))) (ja_cons je_int ja_nil)))) (jg_name V w_law_1) (jss_cons (js_asg V w_law_2 (je_lc (own := [("_law_k", 3)]) C V (by decide +kernel) rfl (ji_range1 V g_law_range z_range (ja_cons je_int ja_nil)) (fun X1 V1 C1 B1 => (jgv_name V1 (by decide +kernel) (by decide))) (fun X1 V1 C1 B1 => jts_nil) (fun X1 V1 C1 B1 => (je_call C1 V1 (by decide +kernel) (B1.cal c_law_cell_at) (ja_cons (je_var V1 (by decide +kernel)) (ja_cons (je_add (je_var V1 (by decide +kernel)) (je_var V1 (by decide +kernel))) ja_nil)) (alen_cons (alen_cons alen_nil))))) (sw_cell V (by decide +kernel)))
    (jss_cons (js_setLc (own := [("_law_k", 3)]) C V w_law_4 (by decide +kernel) (by decide +kernel) rfl (by decide) (by decide) (ji_range1 V g_law_range z_range (ja_cons (je_add je_int (je_mod (je_ixN V v_law_2 je_int) je_int)) ja_nil)) (fun X2 V2 C2 B2 => (jgv_name V2 (by decide +kernel) (by decide))) (fun X2 V2 C2 B2 => jts_nil) (fun X2 V2 C2 B2 => (je_call C2 V2 (by decide +kernel) (B2.cal c_law_share) (ja_cons (je_ixN V2 (by decide +kernel) (je_var V2 (by decide +kernel))) (ja_cons (je_add (je_mul (je_ixN V2 (by decide +kernel) je_int) (je_add (je_var V2 (by decide +kernel)) je_int)) (je_var V2 (by decide +kernel))) ja_nil)) (alen_cons (alen_cons alen_nil)))))
    (jss_cons (js_asg V w_law_5 (je_join je_str (je_lc (own := [("_law_share_here", 6)]) C V (by decide +kernel) rfl (ji_seq (je_var V v_law_4)) (fun X3 V3 C3 B3 => (jgv_name V3 (by decide +kernel) (by decide))) (fun X3 V3 C3 B3 => jts_nil) (fun X3 V3 C3 B3 => (je_call C3 V3 (by decide +kernel) (B3.cal c_law_word) (ja_cons (je_var V3 (by decide +kernel)) ja_nil) (alen_cons alen_nil))))))
    (jss_cons (js_if (JW.jt (jw_or (jt_ne C (je_call C V g_law_law_due c_law_due (ja_cons (je_var V v_law_5) ja_nil) (alen_cons alen_nil)) (je_call C V g_law_law_place c_law_place (ja_cons (je_var V v_law_4) ja_nil) (alen_cons alen_nil))) (jw_or1 (jt_not (jt_tru (je_call C V g_law_law_right c_law_right (ja_cons (je_var V v_law_5) ja_nil) (alen_cons alen_nil))))))) (jss_one (js_ret je_bl)) jss_nil)
    (jss_one (js_if (jt_not (jt_tru (je_call C V g_law_law_right c_law_right (ja_cons (je_call C V g_law_law_other c_law_other (ja_cons (je_var V v_law_5) (ja_cons (je_ixN V v_law_2 je_int) (ja_cons (je_ixN V v_law_2 je_int) ja_nil))) (alen_cons (alen_cons (alen_cons alen_nil)))) ja_nil) (alen_cons alen_nil)))) (jss_one (js_ret je_bl)) jss_nil)))))))
    (jss_one (js_ret je_bl)))
theorem ok_law {P : Program} {w : World} {K : PySem.W.Frag} {mg : MG} {base : Heap} {f : Addr} {fd : FuncData} (F : Fun K "law" "law" s_law f fd) (gm : mg "law" = some (.ref f)) (c_law_cell_at : Callee P w K mg base "_law_cell_at" 1 2 F_law_cell_at) (c_law_share : Callee P w K mg base "_law_share" 2 2 F_law_share) (c_law_word : Callee P w K mg base "_law_word" 1 1 F_law_word) (c_law_due : Callee P w K mg base "_law_due" 3 1 F_law_due) (c_law_place : Callee P w K mg base "_law_place" 2 1 F_law_place) (c_law_right : Callee P w K mg base "_law_right" 5 1 F_law_right) (c_law_other : Callee P w K mg base "_law_other" 1 3 F_law_other) (z_len : mg "len" = none) (z_max : mg "max" = none) (z_range : mg "range" = none) :
    FnOk P w K mg base (L2N.CX P w) 6 f fd ["_law_script"] (spP K mg 1 F_law) ∧ Callee P w K mg base "law" 6 1 F_law := by
  have G : FnOk P w K mg base (L2N.CX P w) 6 f fd ["_law_script"] (spP K mg 1 F_law) := by
    have G0 := fn_ok (P := P) (w := w) (K := K) (mg := mg) (base := base) (N := N_law) (ps := ["_law_script"]) (k := 5) (g := b_law) F sc_law (fun X W hP hw hK hmg hb hr C V Y => by subst hP hw hK hmg hb; exact j_law C V Y (c_law_cell_at.cal hr) (c_law_share.cal hr) (c_law_word.cal hr) (c_law_due.cal hr) (c_law_place.cal hr) (c_law_right.cal hr) (c_law_other.cal hr) z_len z_max z_range)
    exact G0
  exact ⟨G, callee_of G gm F.kp (F.binds (ps := ["_law_script"]) fun _ _ _ _ _ _ us hl => match us, hl with | [_], _ => rfl)⟩

set_option maxHeartbeats 4000000 in
theorem all_mk {P : Program} {w : World} {K : PySem.W.Frag} {h : Heap} {mg : MG} {fa : Addr} (hlaw : ∀ ns : List Int, ns.length ≤ 63 → (∀ z ∈ ns, Builtin.Int.intBits z ≤ 1048576) → F_law [.lst (ns.map .int)] = .ok (.bl true)) (X : K.In h) (G : h.Ns mainGlobals mg) (hfa : mg "law" = some (.ref fa))
    {f1 : Addr} {od1 an1 : Option Addr} {sl1 : Array (Option Value)} {oc1 kV1 dc1 pm1 cd1 ct1 : Value}
    (a1 : PySem.W.nsIn K mainGlobals "divisor" = some (some (.ref f1))) (l1 : K.lookup f1 = some ⟨oc1, od1, .func (PySem.W.fnOf "divisor" "divisor" (defArgs s_divisor) (defBody s_divisor) (defScope s_divisor) .none kV1 dc1 pm1 an1 cd1 ct1), sl1⟩) (c1 : PySem.W.codeIn K cd1 "divisor" = true) (k1 : PySem.W.keepIn K (.ref f1) = true)
    {f2 : Addr} {od2 an2 : Option Addr} {sl2 : Array (Option Value)} {oc2 kV2 dc2 pm2 cd2 ct2 : Value}
    (a2 : PySem.W.nsIn K mainGlobals "place" = some (some (.ref f2))) (l2 : K.lookup f2 = some ⟨oc2, od2, .func (PySem.W.fnOf "place" "place" (defArgs s_place) (defBody s_place) (defScope s_place) .none kV2 dc2 pm2 an2 cd2 ct2), sl2⟩) (c2 : PySem.W.codeIn K cd2 "place" = true) (k2 : PySem.W.keepIn K (.ref f2) = true)
    {f3 : Addr} {od3 an3 : Option Addr} {sl3 : Array (Option Value)} {oc3 kV3 dc3 pm3 cd3 ct3 : Value}
    (a3 : PySem.W.nsIn K mainGlobals "number_of" = some (some (.ref f3))) (l3 : K.lookup f3 = some ⟨oc3, od3, .func (PySem.W.fnOf "number_of" "number_of" (defArgs s_number_of) (defBody s_number_of) (defScope s_number_of) .none kV3 dc3 pm3 an3 cd3 ct3), sl3⟩) (c3 : PySem.W.codeIn K cd3 "number_of" = true) (k3 : PySem.W.keepIn K (.ref f3) = true)
    {f4 : Addr} {od4 an4 : Option Addr} {sl4 : Array (Option Value)} {oc4 kV4 dc4 pm4 cd4 ct4 : Value}
    (a4 : PySem.W.nsIn K mainGlobals "share_of" = some (some (.ref f4))) (l4 : K.lookup f4 = some ⟨oc4, od4, .func (PySem.W.fnOf "share_of" "share_of" (defArgs s_share_of) (defBody s_share_of) (defScope s_share_of) .none kV4 dc4 pm4 an4 cd4 ct4), sl4⟩) (c4 : PySem.W.codeIn K cd4 "share_of" = true) (k4 : PySem.W.keepIn K (.ref f4) = true)
    {f5 : Addr} {od5 an5 : Option Addr} {sl5 : Array (Option Value)} {oc5 kV5 dc5 pm5 cd5 ct5 : Value}
    (a5 : PySem.W.nsIn K mainGlobals "one_under" = some (some (.ref f5))) (l5 : K.lookup f5 = some ⟨oc5, od5, .func (PySem.W.fnOf "one_under" "one_under" (defArgs s_one_under) (defBody s_one_under) (defScope s_one_under) .none kV5 dc5 pm5 an5 cd5 ct5), sl5⟩) (c5 : PySem.W.codeIn K cd5 "one_under" = true) (k5 : PySem.W.keepIn K (.ref f5) = true)
    {f6 : Addr} {od6 an6 : Option Addr} {sl6 : Array (Option Value)} {oc6 kV6 dc6 pm6 cd6 ct6 : Value}
    (a6 : PySem.W.nsIn K mainGlobals "share_text" = some (some (.ref f6))) (l6 : K.lookup f6 = some ⟨oc6, od6, .func (PySem.W.fnOf "share_text" "share_text" (defArgs s_share_text) (defBody s_share_text) (defScope s_share_text) .none kV6 dc6 pm6 an6 cd6 ct6), sl6⟩) (c6 : PySem.W.codeIn K cd6 "share_text" = true) (k6 : PySem.W.keepIn K (.ref f6) = true)
    {f7 : Addr} {od7 an7 : Option Addr} {sl7 : Array (Option Value)} {oc7 kV7 dc7 pm7 cd7 ct7 : Value}
    (a7 : PySem.W.nsIn K mainGlobals "with_sign" = some (some (.ref f7))) (l7 : K.lookup f7 = some ⟨oc7, od7, .func (PySem.W.fnOf "with_sign" "with_sign" (defArgs s_with_sign) (defBody s_with_sign) (defScope s_with_sign) .none kV7 dc7 pm7 an7 cd7 ct7), sl7⟩) (c7 : PySem.W.codeIn K cd7 "with_sign" = true) (k7 : PySem.W.keepIn K (.ref f7) = true)
    {f8 : Addr} {od8 an8 : Option Addr} {sl8 : Array (Option Value)} {oc8 kV8 dc8 pm8 cd8 ct8 : Value}
    (a8 : PySem.W.nsIn K mainGlobals "read_place" = some (some (.ref f8))) (l8 : K.lookup f8 = some ⟨oc8, od8, .func (PySem.W.fnOf "read_place" "read_place" (defArgs s_read_place) (defBody s_read_place) (defScope s_read_place) .none kV8 dc8 pm8 an8 cd8 ct8), sl8⟩) (c8 : PySem.W.codeIn K cd8 "read_place" = true) (k8 : PySem.W.keepIn K (.ref f8) = true)
    {f9 : Addr} {od9 an9 : Option Addr} {sl9 : Array (Option Value)} {oc9 kV9 dc9 pm9 cd9 ct9 : Value}
    (a9 : PySem.W.nsIn K mainGlobals "show_place" = some (some (.ref f9))) (l9 : K.lookup f9 = some ⟨oc9, od9, .func (PySem.W.fnOf "show_place" "show_place" (defArgs s_show_place) (defBody s_show_place) (defScope s_show_place) .none kV9 dc9 pm9 an9 cd9 ct9), sl9⟩) (c9 : PySem.W.codeIn K cd9 "show_place" = true) (k9 : PySem.W.keepIn K (.ref f9) = true)
    {f10 : Addr} {od10 an10 : Option Addr} {sl10 : Array (Option Value)} {oc10 kV10 dc10 pm10 cd10 ct10 : Value}
    (a10 : PySem.W.nsIn K mainGlobals "_law_cell_at" = some (some (.ref f10))) (l10 : K.lookup f10 = some ⟨oc10, od10, .func (PySem.W.fnOf "_law_cell_at" "_law_cell_at" (defArgs s_law_cell_at) (defBody s_law_cell_at) (defScope s_law_cell_at) .none kV10 dc10 pm10 an10 cd10 ct10), sl10⟩) (c10 : PySem.W.codeIn K cd10 "_law_cell_at" = true) (k10 : PySem.W.keepIn K (.ref f10) = true)
    {f11 : Addr} {od11 an11 : Option Addr} {sl11 : Array (Option Value)} {oc11 kV11 dc11 pm11 cd11 ct11 : Value}
    (a11 : PySem.W.nsIn K mainGlobals "_law_whole" = some (some (.ref f11))) (l11 : K.lookup f11 = some ⟨oc11, od11, .func (PySem.W.fnOf "_law_whole" "_law_whole" (defArgs s_law_whole) (defBody s_law_whole) (defScope s_law_whole) .none kV11 dc11 pm11 an11 cd11 ct11), sl11⟩) (c11 : PySem.W.codeIn K cd11 "_law_whole" = true) (k11 : PySem.W.keepIn K (.ref f11) = true)
    {f12 : Addr} {od12 an12 : Option Addr} {sl12 : Array (Option Value)} {oc12 kV12 dc12 pm12 cd12 ct12 : Value}
    (a12 : PySem.W.nsIn K mainGlobals "_law_common" = some (some (.ref f12))) (l12 : K.lookup f12 = some ⟨oc12, od12, .func (PySem.W.fnOf "_law_common" "_law_common" (defArgs s_law_common) (defBody s_law_common) (defScope s_law_common) .none kV12 dc12 pm12 an12 cd12 ct12), sl12⟩) (c12 : PySem.W.codeIn K cd12 "_law_common" = true) (k12 : PySem.W.keepIn K (.ref f12) = true)
    {f13 : Addr} {od13 an13 : Option Addr} {sl13 : Array (Option Value)} {oc13 kV13 dc13 pm13 cd13 ct13 : Value}
    (a13 : PySem.W.nsIn K mainGlobals "_law_great" = some (some (.ref f13))) (l13 : K.lookup f13 = some ⟨oc13, od13, .func (PySem.W.fnOf "_law_great" "_law_great" (defArgs s_law_great) (defBody s_law_great) (defScope s_law_great) .none kV13 dc13 pm13 an13 cd13 ct13), sl13⟩) (c13 : PySem.W.codeIn K cd13 "_law_great" = true) (k13 : PySem.W.keepIn K (.ref f13) = true)
    {f14 : Addr} {od14 an14 : Option Addr} {sl14 : Array (Option Value)} {oc14 kV14 dc14 pm14 cd14 ct14 : Value}
    (a14 : PySem.W.nsIn K mainGlobals "_law_share" = some (some (.ref f14))) (l14 : K.lookup f14 = some ⟨oc14, od14, .func (PySem.W.fnOf "_law_share" "_law_share" (defArgs s_law_share) (defBody s_law_share) (defScope s_law_share) .none kV14 dc14 pm14 an14 cd14 ct14), sl14⟩) (c14 : PySem.W.codeIn K cd14 "_law_share" = true) (k14 : PySem.W.keepIn K (.ref f14) = true)
    {f15 : Addr} {od15 an15 : Option Addr} {sl15 : Array (Option Value)} {oc15 kV15 dc15 pm15 cd15 ct15 : Value}
    (a15 : PySem.W.nsIn K mainGlobals "_law_word" = some (some (.ref f15))) (l15 : K.lookup f15 = some ⟨oc15, od15, .func (PySem.W.fnOf "_law_word" "_law_word" (defArgs s_law_word) (defBody s_law_word) (defScope s_law_word) .none kV15 dc15 pm15 an15 cd15 ct15), sl15⟩) (c15 : PySem.W.codeIn K cd15 "_law_word" = true) (k15 : PySem.W.keepIn K (.ref f15) = true)
    {f16 : Addr} {od16 an16 : Option Addr} {sl16 : Array (Option Value)} {oc16 kV16 dc16 pm16 cd16 ct16 : Value}
    (a16 : PySem.W.nsIn K mainGlobals "_law_place" = some (some (.ref f16))) (l16 : K.lookup f16 = some ⟨oc16, od16, .func (PySem.W.fnOf "_law_place" "_law_place" (defArgs s_law_place) (defBody s_law_place) (defScope s_law_place) .none kV16 dc16 pm16 an16 cd16 ct16), sl16⟩) (c16 : PySem.W.codeIn K cd16 "_law_place" = true) (k16 : PySem.W.keepIn K (.ref f16) = true)
    {f17 : Addr} {od17 an17 : Option Addr} {sl17 : Array (Option Value)} {oc17 kV17 dc17 pm17 cd17 ct17 : Value}
    (a17 : PySem.W.nsIn K mainGlobals "_law_number" = some (some (.ref f17))) (l17 : K.lookup f17 = some ⟨oc17, od17, .func (PySem.W.fnOf "_law_number" "_law_number" (defArgs s_law_number) (defBody s_law_number) (defScope s_law_number) .none kV17 dc17 pm17 an17 cd17 ct17), sl17⟩) (c17 : PySem.W.codeIn K cd17 "_law_number" = true) (k17 : PySem.W.keepIn K (.ref f17) = true)
    {f18 : Addr} {od18 an18 : Option Addr} {sl18 : Array (Option Value)} {oc18 kV18 dc18 pm18 cd18 ct18 : Value}
    (a18 : PySem.W.nsIn K mainGlobals "_law_read" = some (some (.ref f18))) (l18 : K.lookup f18 = some ⟨oc18, od18, .func (PySem.W.fnOf "_law_read" "_law_read" (defArgs s_law_read) (defBody s_law_read) (defScope s_law_read) .none kV18 dc18 pm18 an18 cd18 ct18), sl18⟩) (c18 : PySem.W.codeIn K cd18 "_law_read" = true) (k18 : PySem.W.keepIn K (.ref f18) = true)
    {f19 : Addr} {od19 an19 : Option Addr} {sl19 : Array (Option Value)} {oc19 kV19 dc19 pm19 cd19 ct19 : Value}
    (a19 : PySem.W.nsIn K mainGlobals "_law_due" = some (some (.ref f19))) (l19 : K.lookup f19 = some ⟨oc19, od19, .func (PySem.W.fnOf "_law_due" "_law_due" (defArgs s_law_due) (defBody s_law_due) (defScope s_law_due) .none kV19 dc19 pm19 an19 cd19 ct19), sl19⟩) (c19 : PySem.W.codeIn K cd19 "_law_due" = true) (k19 : PySem.W.keepIn K (.ref f19) = true)
    {f20 : Addr} {od20 an20 : Option Addr} {sl20 : Array (Option Value)} {oc20 kV20 dc20 pm20 cd20 ct20 : Value}
    (a20 : PySem.W.nsIn K mainGlobals "_law_other" = some (some (.ref f20))) (l20 : K.lookup f20 = some ⟨oc20, od20, .func (PySem.W.fnOf "_law_other" "_law_other" (defArgs s_law_other) (defBody s_law_other) (defScope s_law_other) .none kV20 dc20 pm20 an20 cd20 ct20), sl20⟩) (c20 : PySem.W.codeIn K cd20 "_law_other" = true) (k20 : PySem.W.keepIn K (.ref f20) = true)
    {f21 : Addr} {od21 an21 : Option Addr} {sl21 : Array (Option Value)} {oc21 kV21 dc21 pm21 cd21 ct21 : Value}
    (a21 : PySem.W.nsIn K mainGlobals "_law_is" = some (some (.ref f21))) (l21 : K.lookup f21 = some ⟨oc21, od21, .func (PySem.W.fnOf "_law_is" "_law_is" (defArgs s_law_is) (defBody s_law_is) (defScope s_law_is) .none kV21 dc21 pm21 an21 cd21 ct21), sl21⟩) (c21 : PySem.W.codeIn K cd21 "_law_is" = true) (k21 : PySem.W.keepIn K (.ref f21) = true)
    {f22 : Addr} {od22 an22 : Option Addr} {sl22 : Array (Option Value)} {oc22 kV22 dc22 pm22 cd22 ct22 : Value}
    (a22 : PySem.W.nsIn K mainGlobals "_law_only" = some (some (.ref f22))) (l22 : K.lookup f22 = some ⟨oc22, od22, .func (PySem.W.fnOf "_law_only" "_law_only" (defArgs s_law_only) (defBody s_law_only) (defScope s_law_only) .none kV22 dc22 pm22 an22 cd22 ct22), sl22⟩) (c22 : PySem.W.codeIn K cd22 "_law_only" = true) (k22 : PySem.W.keepIn K (.ref f22) = true)
    {f23 : Addr} {od23 an23 : Option Addr} {sl23 : Array (Option Value)} {oc23 kV23 dc23 pm23 cd23 ct23 : Value}
    (a23 : PySem.W.nsIn K mainGlobals "_law_right" = some (some (.ref f23))) (l23 : K.lookup f23 = some ⟨oc23, od23, .func (PySem.W.fnOf "_law_right" "_law_right" (defArgs s_law_right) (defBody s_law_right) (defScope s_law_right) .none kV23 dc23 pm23 an23 cd23 ct23), sl23⟩) (c23 : PySem.W.codeIn K cd23 "_law_right" = true) (k23 : PySem.W.keepIn K (.ref f23) = true)
    {f24 : Addr} {od24 an24 : Option Addr} {sl24 : Array (Option Value)} {oc24 kV24 dc24 pm24 cd24 ct24 : Value}
    (a24 : PySem.W.nsIn K mainGlobals "law" = some (some (.ref f24))) (l24 : K.lookup f24 = some ⟨oc24, od24, .func (PySem.W.fnOf "law" "law" (defArgs s_law) (defBody s_law) (defScope s_law) .none kV24 dc24 pm24 an24 cd24 ct24), sl24⟩) (c24 : PySem.W.codeIn K cd24 "law" = true) (k24 : PySem.W.keepIn K (.ref f24) = true)
    {C_NoPlace : Addr} (e_NoPlace : PySem.W.nsIn K mainGlobals "NoPlace" = some (some (.ref C_NoPlace)))
    {C_NoText : Addr} (e_NoText : PySem.W.nsIn K mainGlobals "NoText" = some (some (.ref C_NoText)))
    {C_NoDeed : Addr} (e_NoDeed : PySem.W.nsIn K mainGlobals "NoDeed" = some (some (.ref C_NoDeed)))
    {C_NoNumber : Addr} (e_NoNumber : PySem.W.nsIn K mainGlobals "NoNumber" = some (some (.ref C_NoNumber)))
    {C_TooMany : Addr} (e_TooMany : PySem.W.nsIn K mainGlobals "TooMany" = some (some (.ref C_TooMany)))
    {C_CrystalError : Addr} (e_CrystalError : PySem.W.nsIn K mainGlobals "CrystalError" = some (some (.ref C_CrystalError)))
    (ex_NoPlace : PySem.W.excIn K C_NoPlace [.type "ValueError", .type "Exception", .type "BaseException", .type "object"] "ValueError.__new__" = true)
    (ek_NoPlace : PySem.W.keepIn K (.ref C_NoPlace) = true)
    (eb_NoPlace : PySem.W.subIn K (.ref C_NoPlace) (.type "BaseException") = some true)
    (et_NoPlace : PySem.W.typeIn K (.ref C_NoPlace) = some (.type "type"))
    (hg_NoPlace : PySem.W.findIn K (.ref C_NoPlace) "__getattribute__" = some (some (.builtin "BaseException.__getattribute__")))
    (hk_NoPlace : PySem.W.findIn K (.ref C_NoPlace) "__getattr__" = some none)
    (hd_NoPlace : PySem.W.hasDictIn K C_NoPlace = true)
    (ha_NoPlace : PySem.W.findIn K (.ref C_NoPlace) "__class__" = some (some (.builtin "object.__class__")))
    (hn_NoPlace : PySem.W.specialIn K (.builtin "object.__class__") "__get__" = some (some (.builtin "getset_descriptor.__get__")))
    (ht_NoPlace : PySem.W.takesIn K (.builtin "object.__class__") = some true)
    (hm_NoPlace : PySem.W.mroIn K C_NoPlace (.type "object") = some true)
    (ex_NoText : PySem.W.excIn K C_NoText [.type "ValueError", .type "Exception", .type "BaseException", .type "object"] "ValueError.__new__" = true)
    (ek_NoText : PySem.W.keepIn K (.ref C_NoText) = true)
    (eb_NoText : PySem.W.subIn K (.ref C_NoText) (.type "BaseException") = some true)
    (et_NoText : PySem.W.typeIn K (.ref C_NoText) = some (.type "type"))
    (hg_NoText : PySem.W.findIn K (.ref C_NoText) "__getattribute__" = some (some (.builtin "BaseException.__getattribute__")))
    (hk_NoText : PySem.W.findIn K (.ref C_NoText) "__getattr__" = some none)
    (hd_NoText : PySem.W.hasDictIn K C_NoText = true)
    (ha_NoText : PySem.W.findIn K (.ref C_NoText) "__class__" = some (some (.builtin "object.__class__")))
    (hn_NoText : PySem.W.specialIn K (.builtin "object.__class__") "__get__" = some (some (.builtin "getset_descriptor.__get__")))
    (ht_NoText : PySem.W.takesIn K (.builtin "object.__class__") = some true)
    (hm_NoText : PySem.W.mroIn K C_NoText (.type "object") = some true)
    (hd_NoDeed : PySem.W.hasDictIn K C_NoDeed = true)
    (et_NoDeed : PySem.W.typeIn K (.ref C_NoDeed) = some (.type "type"))
    (hd_NoNumber : PySem.W.hasDictIn K C_NoNumber = true)
    (et_NoNumber : PySem.W.typeIn K (.ref C_NoNumber) = some (.type "type"))
    (hd_TooMany : PySem.W.hasDictIn K C_TooMany = true)
    (et_TooMany : PySem.W.typeIn K (.ref C_TooMany) = some (.type "type"))
    (hd_CrystalError : PySem.W.hasDictIn K C_CrystalError = true)
    (et_CrystalError : PySem.W.typeIn K (.ref C_CrystalError) = some (.type "type"))
    (eb_CrystalError : PySem.W.subIn K (.ref C_CrystalError) (.type "BaseException") = some true)
    (ne_NoPlace_NoDeed : (C_NoPlace == C_NoDeed) = false)
    (sb_NoPlace_NoDeed : PySem.W.subIn K (.ref C_NoPlace) (.ref C_NoDeed) = some false)
    (ne_NoPlace_NoNumber : (C_NoPlace == C_NoNumber) = false)
    (sb_NoPlace_NoNumber : PySem.W.subIn K (.ref C_NoPlace) (.ref C_NoNumber) = some false)
    (sb_NoPlace_NoPlace : PySem.W.subIn K (.ref C_NoPlace) (.ref C_NoPlace) = some true)
    (ne_NoPlace_NoText : (C_NoPlace == C_NoText) = false)
    (sb_NoPlace_NoText : PySem.W.subIn K (.ref C_NoPlace) (.ref C_NoText) = some false)
    (ne_NoPlace_TooMany : (C_NoPlace == C_TooMany) = false)
    (sb_NoPlace_TooMany : PySem.W.subIn K (.ref C_NoPlace) (.ref C_TooMany) = some false)
    (sb_NoPlace_ValueError : PySem.W.subIn K (.ref C_NoPlace) (.type "ValueError") = some true)
    (ne_NoPlace_CrystalError : (C_NoPlace == C_CrystalError) = false)
    (sb_NoPlace_CrystalError : PySem.W.subIn K (.ref C_NoPlace) (.ref C_CrystalError) = some true)
    (ne_NoText_NoDeed : (C_NoText == C_NoDeed) = false)
    (sb_NoText_NoDeed : PySem.W.subIn K (.ref C_NoText) (.ref C_NoDeed) = some false)
    (ne_NoText_NoNumber : (C_NoText == C_NoNumber) = false)
    (sb_NoText_NoNumber : PySem.W.subIn K (.ref C_NoText) (.ref C_NoNumber) = some false)
    (ne_NoText_NoPlace : (C_NoText == C_NoPlace) = false)
    (sb_NoText_NoPlace : PySem.W.subIn K (.ref C_NoText) (.ref C_NoPlace) = some false)
    (sb_NoText_NoText : PySem.W.subIn K (.ref C_NoText) (.ref C_NoText) = some true)
    (ne_NoText_TooMany : (C_NoText == C_TooMany) = false)
    (sb_NoText_TooMany : PySem.W.subIn K (.ref C_NoText) (.ref C_TooMany) = some false)
    (sb_NoText_ValueError : PySem.W.subIn K (.ref C_NoText) (.type "ValueError") = some true)
    (ne_NoText_CrystalError : (C_NoText == C_CrystalError) = false)
    (sb_NoText_CrystalError : PySem.W.subIn K (.ref C_NoText) (.ref C_CrystalError) = some true)
    {tk_FIGURES : Tok} {zz_FIGURES : Str} (n_FIGURES : PySem.W.nsIn K mainGlobals "FIGURES" = some (some (.str zz_FIGURES tk_FIGURES))) (zq_FIGURES : zz_FIGURES = "0123456789")
    {tk_MOST_FIGURES : Tok} (n_MOST_FIGURES : PySem.W.nsIn K mainGlobals "MOST_FIGURES" = some (some (.int 100 tk_MOST_FIGURES)))
    (n_abs : PySem.W.nsIn K mainGlobals "abs" = some none)
    (n_bool : PySem.W.nsIn K mainGlobals "bool" = some none)
    (n_int : PySem.W.nsIn K mainGlobals "int" = some none)
    (n_isinstance : PySem.W.nsIn K mainGlobals "isinstance" = some none)
    (n_len : PySem.W.nsIn K mainGlobals "len" = some none)
    (n_max : PySem.W.nsIn K mainGlobals "max" = some none)
    (n_range : PySem.W.nsIn K mainGlobals "range" = some none)
    (n_str : PySem.W.nsIn K mainGlobals "str" = some none)
    (n_tuple : PySem.W.nsIn K mainGlobals "tuple" = some none)
    (n_ValueError : PySem.W.nsIn K mainGlobals "ValueError" = some none)
    : ∃ fd : FuncData, (∀ (s : Shared) (v : Value), BindsTo s fd ⟨[v], []⟩ [("_law_script", v)]) ∧ ∀ base : Heap, K.In base → base.Ns mainGlobals mg → FnOk P w K mg base (L2N.CX P w) 6 fa fd ["_law_script"] (spL K) := by
  have e := hfa.symm.trans (PySem.W.mg_of X G a24)
  cases e
  have z_abs : mg "abs" = none := PySem.W.mg_none_of X G n_abs
  have z_bool : mg "bool" = none := PySem.W.mg_none_of X G n_bool
  have z_int : mg "int" = none := PySem.W.mg_none_of X G n_int
  have z_isinstance : mg "isinstance" = none := PySem.W.mg_none_of X G n_isinstance
  have z_len : mg "len" = none := PySem.W.mg_none_of X G n_len
  have z_max : mg "max" = none := PySem.W.mg_none_of X G n_max
  have z_range : mg "range" = none := PySem.W.mg_none_of X G n_range
  have z_str : mg "str" = none := PySem.W.mg_none_of X G n_str
  have z_tuple : mg "tuple" = none := PySem.W.mg_none_of X G n_tuple
  have z_ValueError : mg "ValueError" = none := PySem.W.mg_none_of X G n_ValueError
  have k_FIGURES : Kst mg "FIGURES" kFIGURES := ⟨_, PySem.W.mg_of X G n_FIGURES, by rw [zq_FIGURES]; exact .str _ _⟩
  have k_MOST_FIGURES : Kst mg "MOST_FIGURES" kMOST_FIGURES := ⟨_, PySem.W.mg_of X G n_MOST_FIGURES, .int _ _⟩
  have u_NoPlace : mg "NoPlace" = some (.ref C_NoPlace) := PySem.W.mg_of X G e_NoPlace
  have u_NoText : mg "NoText" = some (.ref C_NoText) := PySem.W.mg_of X G e_NoText
  have u_NoDeed : mg "NoDeed" = some (.ref C_NoDeed) := PySem.W.mg_of X G e_NoDeed
  have u_NoNumber : mg "NoNumber" = some (.ref C_NoNumber) := PySem.W.mg_of X G e_NoNumber
  have u_TooMany : mg "TooMany" = some (.ref C_TooMany) := PySem.W.mg_of X G e_TooMany
  have u_CrystalError : mg "CrystalError" = some (.ref C_CrystalError) := PySem.W.mg_of X G e_CrystalError
  have x_NoPlace : ExcR K mg "NoPlace" C_NoPlace := ⟨ex_NoPlace, u_NoPlace, ek_NoPlace, eb_NoPlace, et_NoPlace⟩
  have kt_NoPlace_NoDeed := kit_own ne_NoPlace_NoDeed hd_NoDeed et_NoDeed sb_NoPlace_NoDeed
  have kt_NoPlace_NoNumber := kit_own ne_NoPlace_NoNumber hd_NoNumber et_NoNumber sb_NoPlace_NoNumber
  have kt_NoPlace_NoPlace : PySem.W.kitOne K (.ref C_NoPlace) (.ref C_NoPlace) = some true := kit_self
  have kt_NoPlace_NoText := kit_own ne_NoPlace_NoText hd_NoText et_NoText sb_NoPlace_NoText
  have kt_NoPlace_TooMany := kit_own ne_NoPlace_TooMany hd_TooMany et_TooMany sb_NoPlace_TooMany
  have kt_NoPlace_ValueError := kit_ty sb_NoPlace_ValueError (by decide +kernel)
  have cx_NoPlace_CrystalError := PySem.W.exm_ref eb_CrystalError hd_CrystalError et_CrystalError sb_NoPlace_CrystalError
  have q_NoPlace : L2.ExcC K C_NoPlace := ⟨hg_NoPlace, hk_NoPlace, eb_NoPlace, hd_NoPlace, ha_NoPlace, hn_NoPlace, ht_NoPlace, hm_NoPlace⟩
  have x_NoText : ExcR K mg "NoText" C_NoText := ⟨ex_NoText, u_NoText, ek_NoText, eb_NoText, et_NoText⟩
  have kt_NoText_NoDeed := kit_own ne_NoText_NoDeed hd_NoDeed et_NoDeed sb_NoText_NoDeed
  have kt_NoText_NoNumber := kit_own ne_NoText_NoNumber hd_NoNumber et_NoNumber sb_NoText_NoNumber
  have kt_NoText_NoPlace := kit_own ne_NoText_NoPlace hd_NoPlace et_NoPlace sb_NoText_NoPlace
  have kt_NoText_NoText : PySem.W.kitOne K (.ref C_NoText) (.ref C_NoText) = some true := kit_self
  have kt_NoText_TooMany := kit_own ne_NoText_TooMany hd_TooMany et_TooMany sb_NoText_TooMany
  have kt_NoText_ValueError := kit_ty sb_NoText_ValueError (by decide +kernel)
  have cx_NoText_CrystalError := PySem.W.exm_ref eb_CrystalError hd_CrystalError et_CrystalError sb_NoText_CrystalError
  have q_NoText : L2.ExcC K C_NoText := ⟨hg_NoText, hk_NoText, eb_NoText, hd_NoText, ha_NoText, hn_NoText, ht_NoText, hm_NoText⟩
  have TO : TabOk K mg tab := (tabOk_cons ⟨⟨C_NoPlace, .ref C_NoDeed, .ref C_NoDeed, u_NoPlace, .inl u_NoDeed, .own _, rfl, kt_NoPlace_NoDeed, q_NoPlace⟩⟩ (tabOk_cons ⟨⟨C_NoPlace, .ref C_NoNumber, .ref C_NoNumber, u_NoPlace, .inl u_NoNumber, .own _, rfl, kt_NoPlace_NoNumber, q_NoPlace⟩⟩ (tabOk_cons ⟨⟨C_NoPlace, .ref C_NoPlace, .ref C_NoPlace, u_NoPlace, .inl u_NoPlace, .own _, rfl, kt_NoPlace_NoPlace, q_NoPlace⟩⟩ (tabOk_cons ⟨⟨C_NoPlace, .ref C_NoText, .ref C_NoText, u_NoPlace, .inl u_NoText, .own _, rfl, kt_NoPlace_NoText, q_NoPlace⟩⟩ (tabOk_cons ⟨⟨C_NoPlace, .ref C_TooMany, .ref C_TooMany, u_NoPlace, .inl u_TooMany, .own _, rfl, kt_NoPlace_TooMany, q_NoPlace⟩⟩ (tabOk_cons ⟨⟨C_NoPlace, .ty "ValueError", .type "ValueError", u_NoPlace, .inr ⟨z_ValueError, by decide +kernel⟩, .ty _, rfl, kt_NoPlace_ValueError, q_NoPlace⟩⟩ (tabOk_cons ⟨⟨C_NoText, .ref C_NoDeed, .ref C_NoDeed, u_NoText, .inl u_NoDeed, .own _, rfl, kt_NoText_NoDeed, q_NoText⟩⟩ (tabOk_cons ⟨⟨C_NoText, .ref C_NoNumber, .ref C_NoNumber, u_NoText, .inl u_NoNumber, .own _, rfl, kt_NoText_NoNumber, q_NoText⟩⟩ (tabOk_cons ⟨⟨C_NoText, .ref C_NoPlace, .ref C_NoPlace, u_NoText, .inl u_NoPlace, .own _, rfl, kt_NoText_NoPlace, q_NoText⟩⟩ (tabOk_cons ⟨⟨C_NoText, .ref C_NoText, .ref C_NoText, u_NoText, .inl u_NoText, .own _, rfl, kt_NoText_NoText, q_NoText⟩⟩ (tabOk_cons ⟨⟨C_NoText, .ref C_TooMany, .ref C_TooMany, u_NoText, .inl u_TooMany, .own _, rfl, kt_NoText_TooMany, q_NoText⟩⟩ (tabOk_cons ⟨⟨C_NoText, .ty "ValueError", .type "ValueError", u_NoText, .inr ⟨z_ValueError, by decide +kernel⟩, .ty _, rfl, kt_NoText_ValueError, q_NoText⟩⟩ tabOk_nil))))))))))))
  have TC : CatOk K mg cat := (catOk_cons ⟨C_NoPlace, .ref C_CrystalError, u_NoPlace, u_CrystalError, cx_NoPlace_CrystalError⟩ (catOk_cons ⟨C_NoText, .ref C_CrystalError, u_NoText, u_CrystalError, cx_NoText_CrystalError⟩ catOk_nil))
  refine ⟨PySem.W.fnOf "law" "law" (defArgs s_law) (defBody s_law) (defScope s_law) .none kV24 dc24 pm24 an24 cd24 ct24, fun s v => .of_eq rfl, fun base hB hG => ?_⟩
  all_goals skip
  have c_divisor := (ok_divisor (P := P) (w := w) (base := base) (fun_mk (st := s_divisor) l1 c1 k1) (PySem.W.mg_of X G a1) z_abs).2
  have c_place := (ok_place (P := P) (w := w) (base := base) (fun_mk (st := s_place) l2 c2 k2) (PySem.W.mg_of X G a2) c_divisor z_abs z_len z_tuple x_NoPlace).2
  have c_number_of := (ok_number_of (P := P) (w := w) (base := base) (fun_mk (st := s_number_of) l3 c3 k3) (PySem.W.mg_of X G a3) z_int z_len x_NoText k_FIGURES k_MOST_FIGURES).2
  have c_share_of := (ok_share_of (P := P) (w := w) (base := base) (fun_mk (st := s_share_of) l4 c4 k4) (PySem.W.mg_of X G a4) c_number_of c_divisor x_NoText).2
  have c_one_under := (ok_one_under (P := P) (w := w) (base := base) (fun_mk (st := s_one_under) l5 c5 k5) (PySem.W.mg_of X G a5) c_divisor c_place).2
  have c_share_text := (ok_share_text (P := P) (w := w) (base := base) (fun_mk (st := s_share_text) l6 c6 k6) (PySem.W.mg_of X G a6) c_divisor z_abs z_str).2
  have c_with_sign := (ok_with_sign (P := P) (w := w) (base := base) (fun_mk (st := s_with_sign) l7 c7 k7) (PySem.W.mg_of X G a7) ).2
  have c_read_place := (ok_read_place (P := P) (w := w) (base := base) (fun_mk (st := s_read_place) l8 c8 k8) (PySem.W.mg_of X G a8) c_share_of c_one_under z_len x_NoText).2
  have c_show_place := (ok_show_place (P := P) (w := w) (base := base) (fun_mk (st := s_show_place) l9 c9 k9) (PySem.W.mg_of X G a9) c_with_sign c_share_text).2
  have c_law_cell_at := (ok_law_cell_at (P := P) (w := w) (base := base) (fun_mk (st := s_law_cell_at) l10 c10 k10) (PySem.W.mg_of X G a10) z_len).2
  have c_law_whole := (ok_law_whole (P := P) (w := w) (base := base) (fun_mk (st := s_law_whole) l11 c11 k11) (PySem.W.mg_of X G a11) z_bool z_int z_isinstance).2
  have c_law_common := (ok_law_common (P := P) (w := w) (base := base) (fun_mk (st := s_law_common) l12 c12 k12) (PySem.W.mg_of X G a12) z_abs).2
  have c_law_great := (ok_law_great (P := P) (w := w) (base := base) (fun_mk (st := s_law_great) l13 c13 k13) (PySem.W.mg_of X G a13) ).2
  have c_law_share := (ok_law_share (P := P) (w := w) (base := base) (fun_mk (st := s_law_share) l14 c14 k14) (PySem.W.mg_of X G a14) c_law_great c_law_common).2
  have c_law_word := (ok_law_word (P := P) (w := w) (base := base) (fun_mk (st := s_law_word) l15 c15 k15) (PySem.W.mg_of X G a15) z_abs z_str).2
  have c_law_place := (ok_law_place (P := P) (w := w) (base := base) (fun_mk (st := s_law_place) l16 c16 k16) (PySem.W.mg_of X G a16) c_law_common z_tuple).2
  have c_law_number := (ok_law_number (P := P) (w := w) (base := base) (fun_mk (st := s_law_number) l17 c17 k17) (PySem.W.mg_of X G a17) z_int z_len).2
  have c_law_read := (ok_law_read (P := P) (w := w) (base := base) (fun_mk (st := s_law_read) l18 c18 k18) (PySem.W.mg_of X G a18) c_law_number c_law_common z_len).2
  have c_law_due := (ok_law_due (P := P) (w := w) (base := base) (fun_mk (st := s_law_due) l19 c19 k19) (PySem.W.mg_of X G a19) c_law_read c_law_place z_len).2
  have c_law_other := (ok_law_other (P := P) (w := w) (base := base) (fun_mk (st := s_law_other) l20 c20 k20) (PySem.W.mg_of X G a20) z_len).2
  have c_law_is := (ok_law_is (P := P) (w := w) (base := base) (fun_mk (st := s_law_is) l21 c21 k21) (PySem.W.mg_of X G a21) c_law_whole z_isinstance z_len z_tuple).2
  have h_law_only := (ok_law_only (P := P) (w := w) (base := base) (fun_mk (st := s_law_only) l22 c22 k22) (PySem.W.mg_of X G a22) z_isinstance TO).2
  have c_law_right := (ok_law_right (P := P) (w := w) (base := base) (fun_mk (st := s_law_right) l23 c23 k23) (PySem.W.mg_of X G a23) c_law_due c_read_place c_law_is c_show_place h_law_only z_isinstance z_str u_CrystalError TC).2
  exact law_of (ok_law (P := P) (w := w) (base := base) (fun_mk (st := s_law) l24 c24 k24) (PySem.W.mg_of X G a24) c_law_cell_at c_law_share c_law_word c_law_due c_law_place c_law_right c_law_other z_len z_max z_range).1 hlaw
-- NAMES: G_crystalwords_k19_places_written.dv_4, G_crystalwords_k19_places_written.dv_8, G_crystalwords_k19_places_written.dv_16, G_crystalwords_k19_places_written.nz_2, G_crystalwords_k19_places_written.nz_4, G_crystalwords_k19_places_written.nz_8, G_crystalwords_k19_places_written.nz_19, G_crystalwords_k19_places_written.nz_22, G_crystalwords_k19_places_written.nz_24, G_crystalwords_k19_places_written.nz_31, G_crystalwords_k19_places_written.pw_10_50, G_crystalwords_k19_places_written.pw_13_60, G_crystalwords_k19_places_written.pw_17_26, G_crystalwords_k19_places_written.t_NoPlace_NoDeed, G_crystalwords_k19_places_written.t_NoPlace_NoNumber, G_crystalwords_k19_places_written.t_NoPlace_NoPlace, G_crystalwords_k19_places_written.t_NoPlace_NoText, G_crystalwords_k19_places_written.t_NoPlace_TooMany, G_crystalwords_k19_places_written.t_NoPlace_ValueError, G_crystalwords_k19_places_written.t_NoText_NoDeed, G_crystalwords_k19_places_written.t_NoText_NoNumber, G_crystalwords_k19_places_written.t_NoText_NoPlace, G_crystalwords_k19_places_written.t_NoText_NoText, G_crystalwords_k19_places_written.t_NoText_TooMany, G_crystalwords_k19_places_written.t_NoText_ValueError, G_crystalwords_k19_places_written.t_NoPlace_CrystalError_c, G_crystalwords_k19_places_written.t_NoText_CrystalError_c, G_crystalwords_k19_places_written.kFIGURES, G_crystalwords_k19_places_written.kMOST_FIGURES
end G_crystalwords_k19_places_written

local macro_rules | `(tactic| walk_at "dl") => `(tactic| try simp -implicitDefEqProofs only [Bool.true_eq_false, DL.wipeE, DL.at0, DL.at1, DL.at2, DL.nc0, DL.nc1, DL.nc2, DL.nc3, DL.nc4, DL.nc5, not_true_eq_false, not_false_eq_true, eq_self, ne_eq,  DL.sz0, DL.sz1, DL.sz2, DL.sz3, DL.sz4, DL.sz5, DL.sz6, DL.a_listL, DL.a_listT, DL.a_tupleL, DL.a_tupleT, DL.a_sum, DL.a_isiT, DL.a_isiL, DL.a_isiS, DL.k_tt, DL.k_lt, DL.k_tl, DL.k_ll, DL.k_it, DL.k_il, DL.k_ss, DL.k_st, DL.k_ti, DL.k_li, DL.k_tb, DL.k_lb, DL.a_isE, DL.a_callE, DL.a_reok, DL.a_try, DL.a_tok, DL.a_texc, DL.a_cT, DL.a_cF, DL.a_unN, DL.a_unR, DL.a_slice, DL.a_oNone, DL.a_oSome, DL.a_dSlL, DL.a_dSlT, DL.a_ret, DL.a_stk, DL.a_bnd, DL.a_rok, DL.a_rexc, DL.a_rst, DL.a_rite, DL.a_var, DL.a_oval, DL.a_oown, DL.a_m2, DL.a_g2i, DL.a_add, DL.a_mAdd, DL.a_sub, DL.a_mul, DL.a_div, DL.a_mod, DL.a_pow, DL.a_shr, DL.a_cmp, DL.a_eq, DL.a_ne, DL.eqOk_ii, DL.deq_ii, DL.a_u1i, DL.a_mB, DL.a_truB, DL.a_truI, DL.a_truN, DL.a_truL, DL.a_truT, DL.a_bAnd, DL.a_bOr, DL.a_bNot, DL.a_vAnd, DL.a_vOr, DL.a_vNot, DL.a_if, DL.a_ite, DL.a_aNil, DL.a_aCons, DL.a_tup, DL.a_lst, DL.a_c1i, DL.a_c2i, DL.a_cIntI, DL.a_cIntB, DL.a_lenL, DL.a_lenT, DL.a_lenS, DL.a_nx, DL.a_sq, DL.a_snx, DL.a_srt, DL.a_sbk, DL.a_sct, DL.a_sexc, DL.a_sst, DL.a_site, DL.a_asg, DL.a_mRet, DL.a_drop, DL.a_aug, DL.a_oA, DL.a_gN, DL.a_gsNil, DL.a_gsCons, DL.a_gTpT, DL.a_gTpL, DL.a_asgT, DL.a_par, DL.a_again, DL.a_gnx, DL.a_gct, DL.a_gbk, DL.a_grt, DL.a_gexc, DL.a_gite, DL.a_rng1, DL.a_rng2, DL.a_raise, DL.a_call, DL.a_rsok, DL.a_rsexc, DL.a_rsst, DL.a_has, DL.a_hval, DL.a_hown, DL.a_onSl, DL.a_slD, DL.a_oDv, DL.a_oDo, DL.a_oDs, DL.a_ixN, DL.a_mIxI, DL.a_dIxL, DL.a_dIxT, DL.a_oM, DL.a_isiI, DL.a_isiB, DL.a_kM, DL.k_ii, DL.k_ib, DL.k_bi, DL.k_bb, DL.a_runF, DL.a_rFrt, DL.a_rFnx, DL.a_rFexc, DL.a_rFite, DL.envOf, List.map_cons, List.map_nil, List.length_cons, List.length_nil, List.cons_append, List.nil_append, List.getElem?_cons_zero, List.getElem?_cons_succ, List.set_cons_zero, List.set_cons_succ, List.replicate, if_true, if_false, Bool.false_eq_true, reduceIte, List.length_map, Nat.reduceAdd, Nat.reduceSub, Nat.zero_add, decide_eq_true_eq, Bool.not_eq_true', decide_eq_false_iff_not, Bool.not_true, Bool.not_false, DL.a_xStr, DL.a_dSplit, DL.a_dJoinL, DL.a_dJoinT, DL.a_dIn, DL.a_inF, DL.a_inT, DL.sgn_one, DL.a_mOwn, DL.a_mFl, DL.a_unL, DL.a_uLok, DL.a_ownAt, DL.a_oOw, DL.a_app, DL.a_aP, DL.a_kApp, DL.a_kA, DL.a_setI, DL.a_sI, DL.a_kSet, DL.a_kS, DL.a_kN, DL.a_frz1, DL.a_fZ, DL.a_rng3, DL.a_mAddS, DL.a_mAddL, DL.a_dIxS, DL.a_dSlS, DL.isN_n, DL.isN_t, DL.isN_l, DL.isN_i, DL.isN_s, DL.at3, DL.at4, DL.at5, DL.at6, DL.at7, DL.a_cStr, DL.a_cMaxL, DL.a_ext, DL.a_eP, DL.a_kExt, DL.a_kE, DL.a_sro, DL.a_gro, DL.a_rFro, DL.a_retF, DL.a_take, DL.a_oT, DL.a_callO, DL.a_rsOok, DL.a_rsOexc, DL.a_runO, DL.a_rOro, DL.a_rOexc, DL.a_lend, DL.a_lDi, DL.a_lDb, DL.a_lDn, DL.a_lDx, DL.a_shn, DL.a_shc, DL.a_sh1v, DL.a_sh1n, DL.a_sh1o, DL.a_clr, DL.a_cM, DL.a_enu, DL.a_enO, DL.a_cListFl, DL.a_cListFt, DL.a_try1, DL.a_tok1, DL.a_texc1, DL.a_cT1, DL.a_cF1, DL.a_unTok, DL.a_zipM, DL.a_itL, DL.a_itT, DL.a_zip2, DL.a_itK, DL.a_dIxK, DL.a_lenK, DL.a_tupleK, DL.a_listK, DL.a_seqN, DL.a_sqL, DL.a_sqT, DL.a_sqS, DL.a_sqK, DL.a_dPart, DL.a_dStart, DL.a_cIntS, DL.a_oIn, G_crystalwords_k19_places_written.dv_4, G_crystalwords_k19_places_written.dv_8, G_crystalwords_k19_places_written.dv_16, G_crystalwords_k19_places_written.nz_2, G_crystalwords_k19_places_written.nz_4, G_crystalwords_k19_places_written.nz_8, G_crystalwords_k19_places_written.nz_19, G_crystalwords_k19_places_written.nz_22, G_crystalwords_k19_places_written.nz_24, G_crystalwords_k19_places_written.nz_31, G_crystalwords_k19_places_written.pw_10_50, G_crystalwords_k19_places_written.pw_13_60, G_crystalwords_k19_places_written.pw_17_26, G_crystalwords_k19_places_written.t_NoPlace_NoDeed, G_crystalwords_k19_places_written.t_NoPlace_NoNumber, G_crystalwords_k19_places_written.t_NoPlace_NoPlace, G_crystalwords_k19_places_written.t_NoPlace_NoText, G_crystalwords_k19_places_written.t_NoPlace_TooMany, G_crystalwords_k19_places_written.t_NoPlace_ValueError, G_crystalwords_k19_places_written.t_NoText_NoDeed, G_crystalwords_k19_places_written.t_NoText_NoNumber, G_crystalwords_k19_places_written.t_NoText_NoPlace, G_crystalwords_k19_places_written.t_NoText_NoText, G_crystalwords_k19_places_written.t_NoText_TooMany, G_crystalwords_k19_places_written.t_NoText_ValueError, G_crystalwords_k19_places_written.t_NoPlace_CrystalError_c, G_crystalwords_k19_places_written.t_NoText_CrystalError_c, G_crystalwords_k19_places_written.kFIGURES, G_crystalwords_k19_places_written.kMOST_FIGURES])
namespace G_crystalwords_k19_places_written
open PySem PySem.Spec PyProof.Rows L2 DL
theorem e_divisor (a b : Int) : F_divisor [.int a, .int b] = .ok (.int (gd a b)) := e_gcd a b
theorem e_common (a b : Int) : F_law_common [.int a, .int b] = .ok (.int (gd a b)) := e_gcd a b
def PL (u : Int) (ns : List Int) : D := .tup [iT (pts u ns), .int (pun u ns)]
theorem place_loop : ∀ (ns : List Int) (x0 x1 x3 : Sl) (b : Int), x3.nown = true → ∃ x3', forL (gN 3) (mAsg 2 (mCall (aCons (mVar 2) (aCons (mVar 3) aNil)) F_divisor)) (ns.map .int) [x0, x1, .val (.int b), x3] = .ok .nx [x0, x1, .val (.int (gdl b ns)), x3'] ∧ x3'.nown = true
  | [], x0, x1, x3, b, h => ⟨x3, rfl, h⟩
  | n :: r, x0, x1, x3, b, h => by
    obtain ⟨x3', h1, h2⟩ := place_loop r x0 x1 (.val (.int n)) (gd b n) rfl
    refine ⟨x3', ?_, h2⟩
    rw [List.map_cons, forL_cons]
    walk_at "dl"
    rw [e_divisor]
    walk_at "dl"
    exact h1
theorem lc_div {d : D} {ns : List Int} (hd : d = iL ns ∨ d = iT ns) (x1 x3 : Sl) (B : Int) (h3 : x3.nown = true) (hB : DivOk B) (hl : ns.length ≤ 1000) : mLc [3] (mSeq (mVar 0)) (gN 3) (ret true) (m2 (mVar 3) (mVar 2) (g2i iDiv)) [.val d, x1, .val (.int B), x3] = .ok (iL (ns.map fun n => n.fdiv B)) [.val d, x1, .val (.int B), x3] := by
  refine mLc_ints (ns := ns) _ ?_ ?_ rfl (le_size (by omega)) fun n _ => ⟨_, _, rfl, by walk_at "dl"; rw [if_pos hB], by rfl⟩
  · rcases hd with rfl | rfl <;> walk_at "dl"
  · cases x3 <;> first | rfl | cases h3
theorem e_place {u : Int} {ns : List Int} {d : D} (hd : d = iL ns ∨ d = iT ns) (hu : u ≠ 0) (hn : ns ≠ []) (hl : ns.length ≤ 1000) (hb : ib u ≤ 8000) : F_place [d, .int u] = .ok (PL u ns) := by
  have hB : DivOk (pby u ns) := divOk_of (pby_ne hu) (ib_dvd pby_dvd.1 hu hb) (by decide)
  have hlen : ((ns.length : Nat) : Int) ≠ 0 := by
    intro h
    exact hn (List.length_eq_zero_iff.mp (by omega))
  obtain ⟨x3', h1, h2⟩ := place_loop ns (.val d) (.val (.int u)) .no u.natAbs rfl
  have h3 := lc_div hd (.val (.int u)) x3' (pby u ns) h2 hB hl
  unfold F_place b_place
  rcases hd with rfl | rfl
  all_goals
    walk_at "dl"
    rw [if_neg hu, if_neg hlen, iAbs_eq, h1]
    walk_at "dl"
    by_cases hs : u < 0
    · have e : pby u ns = -gdl u.natAbs ns := by unfold pby; rw [if_pos hs]
      rw [if_pos hs]
      rw [← e, h3]
      walk_at "dl"
      rw [if_pos hB]
      walk_at "dl"
      rfl
    · have e : pby u ns = gdl u.natAbs ns := by unfold pby; rw [if_neg hs]
      rw [if_neg hs]
      walk_at "dl"
      rw [← e, h3]
      walk_at "dl"
      rw [if_pos hB]
      walk_at "dl"
      rfl
theorem e_place_low {v : Int} {qs : List Int} {d : D} (hd : d = iL qs ∨ d = iT qs) (hv : 0 < v) (hn : qs ≠ []) (hl : qs.length ≤ 1000) (hb : ib v ≤ 8000) (h : low v qs) : F_place [d, .int v] = .ok (.tup [iT qs, .int v]) := by
  rw [e_place hd (by omega) hn hl hb]
  unfold PL
  rw [pts_low hv h, pun_low hv h]
abbrev badR : Res Fl → Prop := fun r => ∃ e, r = .exc "NoText" none e
abbrev bad0 : Res Fl → Prop := fun r => ∃ e, r = .ok (.rt (.int 0)) e
theorem badR_ok : ∀ r k, badR r → aG r k = r := by rintro _ k ⟨e, rfl⟩; rfl
theorem bad0_ok : ∀ r k, bad0 r → aG r k = r := by rintro _ k ⟨e, rfl⟩; rfl
def inP (d : D) : Bool := match d with | .str z => (match sgn z with | some c => decide (c ∈ (Str.cps "0123456789").toList) | none => false) | _ => false
theorem mem_signs {y : Str} {d : D} (h : d ∈ signsD y) : ∃ c, c ∈ y.cps.toList ∧ d = .str ⟨#[c]⟩ := by
  unfold signsD at h
  obtain ⟨c, hc, rfl⟩ := List.mem_map.mp h
  exact ⟨c, hc, rfl⟩
theorem inP_one (c : Nat) : inP (.str ⟨#[c]⟩) = decide (c ∈ (Str.cps "0123456789").toList) := rfl
theorem inP_dgt (c : Nat) : inP (.str ⟨#[c]⟩) = dgt c := by
  rw [inP_one, show (Str.cps "0123456789").toList = [48, 49, 50, 51, 52, 53, 54, 55, 56, 57] by decide +kernel]
  unfold dgt
  rw [← Bool.decide_and]
  refine decide_eq_decide.mpr ?_
  simp only [List.mem_cons, List.not_mem_nil, or_false]
  omega
theorem all_dgt (z : Str) : (signsD z).all inP = z.cps.toList.all dgt := by
  unfold signsD
  rw [List.all_map]
  refine congrArg (fun f => z.cps.toList.all f) (funext fun c => inP_dgt c)
theorem num_loop (z : Str) (x0 x1 : Sl) : ((signsD z).all inP = true ∧ ∃ e', forL (gN 1) (mIf (bnd (m2 (mVar 1) (ret (.str "0123456789")) (dIn true)) mB) (mRaise "NoText") nx) (signsD z) [x0, x1] = .ok .nx e' ∧ ∃ x1', e' = [x0, x1']) ∨ ((signsD z).all inP = false ∧ badR (forL (gN 1) (mIf (bnd (m2 (mVar 1) (ret (.str "0123456789")) (dIn true)) mB) (mRaise "NoText") nx) (signsD z) [x0, x1])) := by
  refine forL_all inP (fun e => ∃ x1', e = [x0, x1']) badR badR_ok _ _ ⟨x1, rfl⟩ ?_
  rintro d hd e ⟨x1', rfl⟩
  obtain ⟨c, _, rfl⟩ := mem_signs hd
  refine ⟨_, rfl, fun h => ⟨[x0, .val (.str ⟨#[c]⟩)], .inl ?_, _, rfl⟩, fun h => ⟨[x0, .val (.str ⟨#[c]⟩)], ?_⟩⟩
  · rw [inP_one] at h
    have h : c ∈ (Str.cps "0123456789").toList := of_decide_eq_true h
    walk_at "dl"
    rw [if_neg (fun z => z h)]
  · rw [inP_one] at h
    have h : ¬ c ∈ (Str.cps "0123456789").toList := of_decide_eq_false h
    walk_at "dl"
    rw [if_pos h]
theorem eqS {m n : Nat} {a b : Str} (h : tOk m a) (k : tOk n b) (e : DEnv) : mEq (.str a) (.str b) e = .ok (.bl (decide (a = b))) e := by
  rw [a_eq, if_pos (deq_s h k).1, (deq_s h k).2]
theorem neS {m n : Nat} {a b : Str} (h : tOk m a) (k : tOk n b) (e : DEnv) : mNe (.str a) (.str b) e = .ok (.bl (!decide (a = b))) e := by
  rw [a_ne, if_pos (deq_s h k).1, (deq_s h k).2]
theorem one_dec (c k : Nat) : decide ((⟨#[c]⟩ : Str) = ⟨#[k]⟩) = decide (c = k) := by
  refine decide_eq_decide.mpr ⟨fun h => ?_, fun h => by rw [h]⟩
  have := congrArg (fun s : Str => s.cps.toList) h
  exact (List.cons.inj this).1
theorem tok_one {m : Nat} {z : Str} (h : tOk m z) {c : Nat} (hc : c ∈ z.cps.toList) : tOk 1 ⟨#[c]⟩ := ⟨by
  rw [ystrOk_iff]
  intro d hd
  rw [List.mem_singleton.mp hd]
  exact ystrOk_iff.mp h.1 c hc, Nat.le_refl _⟩
theorem len_cps (z : Str) : z.length = z.cps.toList.length := by rw [Array.length_toList]; rfl
theorem cps_nil {z : Str} (h : z.cps.toList = []) : z = Str.ofString "" := str_eq (by rw [h]; rfl)
theorem nm_int {z : Str} {n : Nat} (h : nmL z.cps.toList = some n) : intText? z = some (n : Int) ∧ z.length ≤ 640 := by
  unfold nmL at h
  split at h
  · rename_i c
    cases h
    refine ⟨intText_digits (x := z) (fun c' hc => dgt_iff.mp c.2.2.2 c' hc) c.1 (by rw [len_cps]; omega), by rw [len_cps]; omega⟩
  · cases h
theorem e_number {z : Str} (hz : tOk 2000 z) : F_number_of [.str z] = match nmL z.cps.toList with | some n => .ok (.int n) | none => .exc "NoText" none := by
  have hs : z.length ≤ sizeLine := Nat.le_trans hz.2 (by decide)
  unfold F_number_of b_number_of
  walk_at "dl"
  rw [if_pos hs]
  walk_at "dl"
  rw [if_pos hs, if_pos hs]
  cases el : z.cps.toList with
  | nil =>
    have l0 : (z.length : Int) < 1 := by rw [len_cps, el]; decide
    rw [if_pos l0]
    rfl
  | cons c r =>
    have l1 : ¬ (z.length : Int) < 1 := by rw [len_cps, el, List.length_cons]; omega
    rw [if_neg l1]
    by_cases l2 : 100 < (z.length : Int)
    · rw [if_pos l2]
      have : nmL (c :: r) = none := by
        unfold nmL
        rw [if_neg]
        intro k
        rw [len_cps, el] at l2
        have := k.2.1
        omega
      rw [this]
    rw [if_neg l2]
    have a0 : atI (c :: r) 0 = some c := atI_nat (j := 0) rfl
    have q := deq_s (tok_one hz (el ▸ List.mem_cons_self)) (tOk_of "0" (m := 1) (by decide))
    rw [a0, Option.map_some]
    walk_at "dl"
    rw [if_pos q.1, q.2]
    rw [show Str.ofString "0" = (⟨#[48]⟩ : Str) by decide +kernel, one_dec]
    by_cases c48 : c = 48
    · rw [decide_eq_true c48]
      walk_at "dl"
      have : nmL (c :: r) = none := by
        unfold nmL
        rw [if_neg]
        intro k
        exact k.2.2.1 (by rw [c48]; rfl)
      rw [this]
    · rw [decide_eq_false c48]
      walk_at "dl"
      rcases num_loop z (.val (.str z)) .no with ⟨h1, e', h2, x1', rfl⟩ | ⟨h1, e', h2⟩
      · rw [h2]
        walk_at "dl"
        rw [all_dgt, el] at h1
        have hn : nmL (c :: r) = some (NumText.digitsVal (c :: r)) := by
          unfold nmL
          rw [if_pos]
          refine ⟨List.cons_ne_nil _ _, ?_, fun k => c48 (Option.some.inj k), h1⟩
          rw [len_cps, el] at l2
          omega
        obtain ⟨i1, i2⟩ := nm_int (z := z) (by rw [el]; exact hn)
        rw [i1, hn]
        walk_at "dl"
        rw [if_pos i2]
        walk_at "dl"
      · rw [h2]
        walk_at "dl"
        rw [all_dgt, el] at h1
        have hn : nmL (c :: r) = none := by
          unfold nmL
          rw [if_neg]
          intro k
          rw [h1] at k
          exact absurd k.2.2.2 Bool.false_ne_true
        rw [hn]
theorem lnum_loop (z : Str) (x0 x1 : Sl) : ((signsD z).all inP = true ∧ ∃ e', forL (gN 1) (mIf (bnd (m2 (mVar 1) (ret (.str "0123456789")) (dIn true)) mB) (mRet (ret (.int 0))) nx) (signsD z) [x0, x1] = .ok .nx e' ∧ ∃ x1', e' = [x0, x1']) ∨ ((signsD z).all inP = false ∧ bad0 (forL (gN 1) (mIf (bnd (m2 (mVar 1) (ret (.str "0123456789")) (dIn true)) mB) (mRet (ret (.int 0))) nx) (signsD z) [x0, x1])) := by
  refine forL_all inP (fun e => ∃ x1', e = [x0, x1']) bad0 bad0_ok _ _ ⟨x1, rfl⟩ ?_
  rintro d hd e ⟨x1', rfl⟩
  obtain ⟨c, _, rfl⟩ := mem_signs hd
  refine ⟨_, rfl, fun h => ⟨[x0, .val (.str ⟨#[c]⟩)], .inl ?_, _, rfl⟩, fun h => ⟨[x0, .val (.str ⟨#[c]⟩)], ?_⟩⟩
  · rw [inP_one] at h
    have h : c ∈ (Str.cps "0123456789").toList := of_decide_eq_true h
    walk_at "dl"
    rw [if_neg (fun z => z h)]
  · rw [inP_one] at h
    have h : ¬ c ∈ (Str.cps "0123456789").toList := of_decide_eq_false h
    walk_at "dl"
    rw [if_pos h]
theorem e_lnumber {z : Str} (hz : tOk 2000 z) : F_law_number [.str z] = match nmL z.cps.toList with | some n => .ok (.int n) | none => .ok (.int 0) := by
  have hs : z.length ≤ sizeLine := Nat.le_trans hz.2 (by decide)
  have qe := deq_s hz (tOk_of "" (m := 1) (by decide))
  unfold F_law_number b_law_number
  walk_at "dl"
  rw [if_pos hs, if_pos qe.1, qe.2]
  walk_at "dl"
  by_cases l2 : 100 < (z.length : Int)
  · rw [if_pos l2]
    have : nmL z.cps.toList = none := by
      unfold nmL
      rw [if_neg]
      intro k
      rw [len_cps] at l2
      have := k.2.1
      omega
    rw [this]
  rw [if_neg l2]
  cases el : z.cps.toList with
  | nil =>
    rw [if_pos (cps_nil el)]
    rfl
  | cons c r =>
    have l1 : ¬ z = Str.ofString "" := fun k => by rw [k] at el; cases el
    rw [if_neg l1]
    have a0 : atI (c :: r) 0 = some c := atI_nat (j := 0) rfl
    have q := deq_s (tok_one hz (el ▸ List.mem_cons_self)) (tOk_of "0" (m := 1) (by decide))
    rw [if_pos hs, a0, Option.map_some]
    walk_at "dl"
    rw [if_pos q.1, q.2]
    rw [show Str.ofString "0" = (⟨#[48]⟩ : Str) by decide +kernel, one_dec]
    by_cases c48 : c = 48
    · rw [decide_eq_true c48]
      walk_at "dl"
      have : nmL (c :: r) = none := by
        unfold nmL
        rw [if_neg]
        intro k
        exact k.2.2.1 (by rw [c48]; rfl)
      rw [this]
    · rw [decide_eq_false c48]
      walk_at "dl"
      rcases lnum_loop z (.val (.str z)) .no with ⟨h1, e', h2, x1', rfl⟩ | ⟨h1, e', h2⟩
      · rw [h2]
        walk_at "dl"
        rw [all_dgt, el] at h1
        have hn : nmL (c :: r) = some (NumText.digitsVal (c :: r)) := by
          unfold nmL
          rw [if_pos]
          refine ⟨List.cons_ne_nil _ _, ?_, fun k => c48 (Option.some.inj k), h1⟩
          rw [len_cps, el] at l2
          omega
        obtain ⟨i1, i2⟩ := nm_int (z := z) (by rw [el]; exact hn)
        rw [i1, hn]
        walk_at "dl"
        rw [if_pos i2]
        walk_at "dl"
      · rw [h2]
        walk_at "dl"
        rw [all_dgt, el] at h1
        have hn : nmL (c :: r) = none := by
          unfold nmL
          rw [if_neg]
          intro k
          rw [h1] at k
          exact absurd k.2.2.2 Bool.false_ne_true
        rw [hn]
/-! a share -/
open TL in
theorem split_1 {z : Str} {c : Nat} (hc : c < 256) : Txt.split z ⟨#[c]⟩ = (spl [c] 0 [] z.cps.toList).map SX.S := by
  have := SX.split_S (a := z.cps.toList) (b := [c]) (List.cons_ne_nil _ _) (by simp [hc])
  rwa [SX.S_tl] at this
theorem tok_mem {m : Nat} {z : Str} (h : tOk m z) {l : List Nat} (hl : l.length ≤ m) (hm : ∀ c ∈ l, c ∈ z.cps.toList) : tOk m (SX.S l) := ⟨by
  rw [ystrOk_iff]
  intro c hc
  exact ystrOk_iff.mp h.1 c (hm c hc), by rw [SX.S_len]; exact hl⟩
theorem e_share {z : Str} (hz : tOk 2000 z) : F_share_of [.str z] = match shL z.cps.toList with | some p => .ok (.tup [.int p.1, .int p.2]) | none => .exc "NoText" none := by
  have hs : z.length ≤ sizeLine := Nat.le_trans hz.2 (by decide)
  have se : (("/" : Str).length == 0) = false := by decide
  have e1 : Str.ofString "/" = SX.S [47] := by decide +kernel
  unfold F_share_of b_share_of
  walk_at "dl"
  rw [if_pos ⟨se, hs⟩]
  rcases cut_at 47 z.cps.toList with k | ⟨p, q, e, k⟩
  · have ep : Txt.partition z (Str.ofString "/") = (z, SX.S [], SX.S []) := by
      have := SX.partition_none (a := z.cps.toList) (b := [47]) (List.cons_ne_nil _ _) (SX.par_head_none k)
      rwa [SX.S_tl, ← e1] at this
    rw [ep, shL_one k]
    have q := deq_s (a := SX.S []) (m := 1) ⟨by decide +kernel, by decide⟩ (tOk_of "" (m := 1) (by decide))
    walk_at "dl"
    rw [if_pos q.1, q.2, decide_eq_true (show SX.S [] = Str.ofString "" from rfl)]
    walk_at "dl"
    rw [e_number hz]
    cases nmL z.cps.toList <;> walk_at "dl"
  · have hp : ∀ c ∈ p, c ∈ z.cps.toList := fun c hc => by rw [e]; exact List.mem_append_left _ hc
    have hq : ∀ c ∈ q, c ∈ z.cps.toList := fun c hc => by rw [e]; exact List.mem_append_right _ (List.mem_cons_of_mem _ hc)
    have lz : z.length = p.length + q.length + 1 := by rw [len_cps, e, List.length_append, List.length_cons]; omega
    have tp : tOk 2000 (SX.S p) := tok_mem hz (by have := hz.2; omega) hp
    have tq : tOk 2000 (SX.S q) := tok_mem hz (by have := hz.2; omega) hq
    have ep : Txt.partition z (Str.ofString "/") = (SX.S p, Str.ofString "/", SX.S q) := by
      have h := SX.partition_some (a := z.cps.toList) (b := [47]) (p := p) (q := q) (List.cons_ne_nil _ _) (by rw [e]; exact par_at1 k)
      rwa [SX.S_tl, ← e1] at h
    rw [ep, e, shL_two k]
    have qq := deq_s (tOk_of "/" (m := 1) (by decide)) (tOk_of "" (m := 1) (by decide))
    walk_at "dl"
    rw [if_pos qq.1, qq.2, decide_eq_false (show ¬ Str.ofString "/" = Str.ofString "" by decide +kernel)]
    walk_at "dl"
    rw [e_number tp]
    cases e1 : nmL p with
    | none => walk_at "dl"
    | some t =>
      walk_at "dl"
      rw [e_number tq]
      cases e2 : nmL q with
      | none => walk_at "dl"
      | some u =>
        walk_at "dl"
        rw [e_divisor]
        walk_at "dl"
        by_cases h : 2 ≤ u ∧ Nat.gcd t u = 1
        · have : gd (t : Int) (u : Int) = 1 := by unfold gd; rw [Int.natAbs_natCast, Int.natAbs_natCast, h.2]; rfl
          rw [if_neg (by omega), if_neg (by omega), if_pos h]
        · rw [if_neg h]
          by_cases h2 : (u : Int) < 2
          · rw [if_pos h2]
          · have : gd (t : Int) (u : Int) = (Nat.gcd t u : Nat) := by unfold gd; rw [Int.natAbs_natCast, Int.natAbs_natCast]
            have gp : Nat.gcd t u ≠ 0 := fun z => by have := Nat.eq_zero_of_gcd_eq_zero_right z; omega
            rw [if_neg h2, if_pos (by omega)]
noncomputable def lrTail : M Fl := (sq (mAsg 2 (bnd (mVar 0) (xStr fun s => bnd (ret (.str "/")) (dSplit s))))
  (sq (mAsg 3 (mCall (aCons (mIxN 2 (ret (.int 0))) aNil) F_law_number))
  (sq (mAsg 4 (ret (.int 1)))
  (sq (mIf (bnd (m2 (has 2 (onSl 2 fun d => cLen [d])) (ret (.int 2)) mEq) mB) (sq (mAsg 4 (mCall (aCons (mIxN 2 (ret (.int 1))) aNil) F_law_number))
  (mIf (bOr (bnd (m2 (mVar 4) (ret (.int 2)) (g2i (iCmp fun i j => decide (i < j)))) mB) (bnd (m2 (mCall (aCons (mVar 3) (aCons (mVar 4) aNil)) F_law_common) (ret (.int 1)) mNe) mB)) (mRet (ret .non)) nx)) nx)
  (sq (mIf (bOr (bnd (m2 (has 2 (onSl 2 fun d => cLen [d])) (ret (.int 2)) (g2i (iCmp fun i j => decide (j < i)))) mB) (bnd (m2 (mVar 3) (ret (.int 0)) mEq) mB)) (mRet (ret .non)) nx)
  (mRet (mTup (aCons (m2 (mVar 1) (mVar 3) (g2i iMul)) (aCons (mVar 4) aNil)))))))))
theorem shL_len (y : Str) : (∃ a, TL.spl [47] 0 [] y.cps.toList = [a] ∧ a = y.cps.toList) ∨ (∃ p q, TL.spl [47] 0 [] y.cps.toList = [p, q] ∧ y.cps.toList = p ++ 47 :: q) ∨ (∃ p q r t, TL.spl [47] 0 [] y.cps.toList = p :: q :: r :: t ∧ ∃ u, y.cps.toList = p ++ 47 :: u) := by
  rcases cut_at 47 y.cps.toList with k | ⟨p, q, e, k⟩
  · exact .inl ⟨_, spl_no k, rfl⟩
  · rcases cut_at 47 q with k2 | ⟨p2, q2, e2, k2⟩
    · exact .inr (.inl ⟨p, q, by rw [e, spl_at1 k, spl_no k2], e⟩)
    · have n := spl_ne 47 q2
      cases e3 : TL.spl [47] 0 [] q2 with
      | nil => exact absurd e3 n
      | cons a r => exact .inr (.inr ⟨p, p2, a, r, by rw [e, spl_at1 k, e2, spl_at1 k2, e3], _, e⟩)
theorem e_ltail {y : Str} (hy : tOk 2000 y) (s : Int) (hs1 : s = 1 ∨ s = -1) : rF (lrTail [.val (.str y), .val (.int s), .no, .no, .no]) = match shL y.cps.toList with | some p => .ok (.tup [.int (s * p.1), .int p.2]) | none => .ok .non := by
  have hs : y.length + 2 ≤ sizeLine := Nat.le_trans (Nat.add_le_add_right hy.2 2) (by decide)
  have se : (("/" : Str).length == 0) = false := by decide
  have e1 : Str.ofString "/" = (⟨#[47]⟩ : Str) := by decide +kernel
  have sp : Txt.split y (Str.ofString "/") = (TL.spl [47] 0 [] y.cps.toList).map SX.S := by rw [e1]; exact split_1 (by decide)
  have small : ∀ n : Nat, n < 10 ^ 100 → IntMulOk s (n : Int) := fun n hn => by
    have hi : ib (n : Int) ≤ 340 := ib_of (by rw [Int.natAbs_natCast]; exact Nat.lt_trans hn (by decide +kernel))
    rcases hs1 with rfl | rfl
    · exact mi (m := 2) (n := 340) (by decide) hi
    · exact mi (m := 2) (n := 340) (by decide) hi
  unfold lrTail
  walk_at "dl"
  rw [if_pos ⟨se, hs⟩, sp]
  unfold shL
  rcases shL_len y with ⟨a, e, ha⟩ | ⟨p, q, e, ha⟩ | ⟨p, q, r, t, e, u, ha⟩
  · rw [e]
    have ta : tOk 2000 (SX.S a) := by rw [ha, SX.S_tl]; exact hy
    walk_at "dl"
    rw [e_lnumber ta]
    cases e2 : nmL a with
    | none =>
      walk_at "dl"
      rw [if_neg (by decide), if_neg (by decide)]
    | some n =>
      have n1 := nmL_some e2
      walk_at "dl"
      rw [if_neg (by decide), if_neg (by decide), if_neg (by omega), if_pos (small n n1.2.1)]
      walk_at "dl"
  · rw [e]
    have tp : tOk 2000 (SX.S p) := tok_mem hy (by have h1 := hy.2; rw [len_cps, ha, List.length_append] at h1; omega) fun c hc => by rw [ha]; exact List.mem_append_left _ hc
    have tq : tOk 2000 (SX.S q) := tok_mem hy (by have h1 := hy.2; rw [len_cps, ha, List.length_append, List.length_cons] at h1; omega) fun c hc => by rw [ha]; exact List.mem_append_right _ (List.mem_cons_of_mem _ hc)
    walk_at "dl"
    rw [e_lnumber tp]
    have key : ∀ (t : Nat) (o : Option Nat), ((o = some t ∧ 1 ≤ t ∧ t < 10 ^ 100) ∨ (o = none ∧ t = 0)) → nmL p = o → True := fun _ _ _ _ => trivial
    have e3 : ∃ t : Nat, (match nmL p with | some n => Rs.ok (D.int n) | none => Rs.ok (D.int 0)) = Rs.ok (D.int t) ∧ ((nmL p = some t ∧ 1 ≤ t ∧ t < 10 ^ 100) ∨ (nmL p = none ∧ t = 0)) := by
      cases e4 : nmL p with
      | none => exact ⟨0, rfl, .inr ⟨rfl, rfl⟩⟩
      | some n => exact ⟨n, rfl, .inl ⟨rfl, (nmL_some e4).1, (nmL_some e4).2.1⟩⟩
    have e5 : ∃ t : Nat, (match nmL q with | some n => Rs.ok (D.int n) | none => Rs.ok (D.int 0)) = Rs.ok (D.int t) ∧ ((nmL q = some t ∧ 1 ≤ t ∧ t < 10 ^ 100) ∨ (nmL q = none ∧ t = 0)) := by
      cases e4 : nmL q with
      | none => exact ⟨0, rfl, .inr ⟨rfl, rfl⟩⟩
      | some n => exact ⟨n, rfl, .inl ⟨rfl, (nmL_some e4).1, (nmL_some e4).2.1⟩⟩
    obtain ⟨t, et, ht⟩ := e3
    obtain ⟨v, ev, hv⟩ := e5
    rw [et]
    walk_at "dl"
    rw [e_lnumber tq, ev]
    walk_at "dl"
    rw [e_common]
    walk_at "dl"
    have hg : gd (t : Int) (v : Int) = (Nat.gcd t v : Nat) := by unfold gd; rw [Int.natAbs_natCast, Int.natAbs_natCast]
    rw [if_neg (show ¬ (2 : Int) < 2 by decide), hg]
    rcases ht with ⟨h1, h2, h3⟩ | ⟨h1, h2⟩
    · rw [h1]
      rcases hv with ⟨k1, k2, k3⟩ | ⟨k1, k2⟩
      · rw [k1]
        by_cases c : 2 ≤ v ∧ Nat.gcd t v = 1
        · rw [if_neg (by omega), if_neg (by omega), if_neg (by omega), if_pos (small t h3)]
          show _ = match (if 2 ≤ v ∧ Nat.gcd t v = 1 then some (t, v) else none) with | some p => _ | none => _
          rw [if_pos c]
          walk_at "dl"
        · show _ = match (if 2 ≤ v ∧ Nat.gcd t v = 1 then some (t, v) else none) with | some p => _ | none => _
          rw [if_neg c]
          by_cases c2 : (v : Int) < 2
          · rw [if_pos c2]
          · rw [if_neg c2, if_pos (by omega)]
      · rw [k1, if_pos (by omega)]
    · rw [h1]
      by_cases c2 : (v : Int) < 2
      · rw [if_pos c2]
      · rw [if_neg c2, if_pos (by rw [h2, Nat.gcd_zero_left]; omega)]
  · rw [e]
    have tp : tOk 2000 (SX.S p) := tok_mem hy (by have h1 := hy.2; rw [len_cps, ha, List.length_append] at h1; omega) fun c hc => by rw [ha]; exact List.mem_append_left _ hc
    walk_at "dl"
    rw [e_lnumber tp]
    have e3 : ∃ t : Nat, (match nmL p with | some n => Rs.ok (D.int n) | none => Rs.ok (D.int 0)) = Rs.ok (D.int t) := by
      cases e4 : nmL p with
      | none => exact ⟨0, rfl⟩
      | some n => exact ⟨n, rfl⟩
    obtain ⟨t', et⟩ := e3
    rw [et]
    walk_at "dl"
    rw [if_neg (by omega), if_pos (by omega)]
theorem cut_1 (z : Str) : cutS z (some 1) none = SX.S (z.cps.toList.drop 1) := by
  obtain ⟨⟨l⟩⟩ := z
  unfold cutS
  refine str_eq ?_
  show List.take (HT.sIx l.length l.length none - HT.sIx l.length 0 (some 1)) (List.drop (HT.sIx l.length 0 (some 1)) l) = l.drop 1
  rw [show HT.sIx l.length 0 (some 1) = min 1 l.length from HT.sIx_nat _ _ 1, HT.sIx_none]
  cases l with
  | nil => rfl
  | cons a r =>
    rw [List.length_cons, show min 1 (r.length + 1) = 1 by omega]
    exact List.take_of_length_le (by rw [List.length_drop, List.length_cons]; omega)
theorem cut_0 (z : Str) : cutS z none (some 1) = SX.S (z.cps.toList.take 1) := by
  obtain ⟨⟨l⟩⟩ := z
  unfold cutS
  refine str_eq ?_
  show List.take (HT.sIx l.length l.length (some 1) - HT.sIx l.length 0 none) (List.drop (HT.sIx l.length 0 none) l) = l.take 1
  rw [show HT.sIx l.length l.length (some 1) = min 1 l.length from HT.sIx_nat _ _ 1, HT.sIx_none, List.drop_zero]
  cases l with
  | nil => rfl
  | cons a r => rw [List.length_cons, show min 1 (r.length + 1) - 0 = 1 by omega]
open TL in
theorem e_lread {z : Str} (hz : tOk 2000 z) : F_law_read [.str z] = match rdL z.cps.toList with | some p => .ok (.tup [.int p.1, .int p.2]) | none => .ok .non := by
  have hs : z.length ≤ sizeLine := Nat.le_trans hz.2 (by decide)
  have q0 := deq_s hz (tOk_of "0" (m := 1) (by decide))
  have e0 : decide (z = Str.ofString "0") = decide (z.cps.toList = [48]) := decide_eq_decide.mpr ⟨fun h => by rw [h]; decide +kernel, fun h => str_eq (by rw [h]; decide +kernel)⟩
  unfold F_law_read
  rw [show b_law_read = (sq (mAsg 1 (ret (.int 1)))
  (sq (mIf (bnd (m2 (mVar 0) (ret (.str "0")) mEq) mB) (mRet (mTup (aCons (ret (.int 0)) (aCons (ret (.int 1)) aNil)))) nx)
  (sq (mIf (bnd (m2 (mSlice (mVar 0) oNone (oSome (ret (.int 1)))) (ret (.str "-")) mEq) mB) (sq (mAsg 1 (bnd (ret (.int 1)) (u1i fun i => ret (.int (-i)))))
  (mAsg 0 (mSlice (mVar 0) (oSome (ret (.int 1))) oNone))) nx)
  lrTail))) from rfl]
  walk_at "dl"
  rw [if_pos q0.1, q0.2, e0]
  unfold rdL
  by_cases c0 : z.cps.toList = [48]
  · rw [if_pos c0, decide_eq_true c0]
    walk_at "dl"
  rw [if_neg c0, decide_eq_false c0]
  walk_at "dl"
  have tt : tOk 1 (SX.S (z.cps.toList.take 1)) := (tok_mem hz (by rw [List.length_take, ← len_cps]; have := hz.2; omega) fun c hc => List.mem_of_mem_take hc).1 |> fun h => ⟨h, by rw [SX.S_len, List.length_take]; omega⟩
  have td : tOk 2000 (SX.S (z.cps.toList.drop 1)) := tok_mem hz (by rw [List.length_drop, ← len_cps]; have := hz.2; omega) fun c hc => List.mem_of_mem_drop hc
  have qd := deq_s tt (tOk_of "-" (m := 1) (by decide))
  rw [cut_0, cut_1, if_pos hs, if_pos hs, if_pos qd.1, qd.2]
  have em : decide (SX.S (z.cps.toList.take 1) = Str.ofString "-") = decide (z.cps.toList.head? = some 45) := by
    rw [show Str.ofString "-" = SX.S [45] by decide +kernel]
    refine decide_eq_decide.mpr ⟨fun h => ?_, fun h => ?_⟩
    · have h := SX.S_inj h
      cases e : z.cps.toList with
      | nil => rw [e] at h; cases h
      | cons a r => rw [e] at h; exact congrArg some (List.cons.inj h).1
    · cases e : z.cps.toList with
      | nil => rw [e] at h; cases h
      | cons a r => rw [e] at h; rw [Option.some.inj h]; rfl
  rw [em]
  by_cases c1 : z.cps.toList.head? = some 45
  · rw [decide_eq_true c1, if_pos rfl, e_ltail td (-1) (.inr rfl), if_pos c1]
    show (match shL (z.cps.toList.drop 1) with | some p => Rs.ok (D.tup [.int (-1 * (p.1 : Int)), .int (p.2 : Int)]) | none => Rs.ok D.non) = _
    rw [List.drop_one]
    cases shL z.cps.toList.tail with
    | none => rfl
    | some p =>
      show Rs.ok (D.tup [.int (-1 * (p.1 : Int)), .int (p.2 : Int)]) = Rs.ok (D.tup [.int (-(p.1 : Int)), .int (p.2 : Int)])
      rw [Int.neg_one_mul]
  · rw [decide_eq_false c1, if_neg Bool.false_ne_true, e_ltail hz 1 (.inl rfl), if_neg c1]
    cases shL z.cps.toList with
    | none => rfl
    | some p =>
      show Rs.ok (D.tup [.int (1 * (p.1 : Int)), .int (p.2 : Int)]) = Rs.ok (D.tup [.int (p.1 : Int), .int (p.2 : Int)])
      rw [Int.one_mul]
/-! the place -/
abbrev shD (p : Shr) : D := .tup [.int p.1, .int p.2]
/-- the under's size -/
theorem lcS_le {l : Int} {p : Shr} (hl : 0 < l) (hp : 0 < p.2) : (lcS l p).natAbs ≤ l.natAbs * p.2.natAbs := by
  rw [lcS_lcm hl hp, Int.natAbs_natCast]
  exact Nat.le_of_dvd (Nat.mul_pos (by omega) (by omega)) (Nat.lcm_dvd_mul _ _)
theorem ib_100 {x : Int} (h : x.natAbs < 10 ^ 100) : ib x ≤ 340 := ib_of (Nat.lt_trans h (by decide +kernel))
theorem under_loop {g : D → M Unit} {b : M Fl} (hb : ∀ (l : Int) (p : Shr) (x0 x2 x3 : Sl), 0 < l → ib l ≤ 4000 → ShOk p → ∃ e1, g (shD p) [x0, .val (.int l), x2, x3] = .ok () e1 ∧ b e1 = .ok .nx [x0, .val (.int (lcS l p)), .val (.int p.1), .val (.int p.2)]) : ∀ (ps : List Shr) (l : Int) (k : Nat), 0 < l → ib l ≤ k → k + 340 * ps.length ≤ 4000 → (∀ p ∈ ps, ShOk p) → ∀ x0 x2 x3 : Sl, x2.nown = true → x3.nown = true → ∃ x2' x3', forL g b (ps.map shD) [x0, .val (.int l), x2, x3] = .ok .nx [x0, .val (.int (ps.foldl lcS l)), x2', x3'] ∧ x2'.nown = true ∧ x3'.nown = true ∧ ib (ps.foldl lcS l) ≤ k + 340 * ps.length
  | [], l, k, hl, hk, _, _, x0, x2, x3, h2, h3 => ⟨x2, x3, rfl, h2, h3, hk⟩
  | p :: r, l, k, hl, hk, hs, hp, x0, x2, x3, h2, h3 => by
    rw [List.length_cons] at hs
    have p0 := hp p List.mem_cons_self
    obtain ⟨e1, g1, g2⟩ := hb l p x0 x2 x3 hl (by omega) p0
    have lp := lcS_pos hl (show 0 < p.2 by have := p0.2.1; omega)
    have hk2 : ib (lcS l p) ≤ k + 340 := by
      have : ib (l * p.2) ≤ k + 340 := intBits_mul_le hk (ib_100 p0.2.2.1)
      refine Nat.le_trans (intBits_le_of_natAbs ?_ this) (Nat.le_refl _)
      rw [Int.natAbs_mul]
      exact lcS_le hl (by have := p0.2.1; omega)
    obtain ⟨x2', x3', a, b', c, d⟩ := under_loop hb r (lcS l p) (k + 340) lp hk2 (by omega) (fun q m => hp q (List.mem_cons_of_mem _ m)) x0 (.val (.int p.1)) (.val (.int p.2)) rfl rfl
    refine ⟨x2', x3', ?_, b', c, by rw [List.length_cons]; exact Nat.le_trans d (by omega)⟩
    rw [List.map_cons, forL_cons]
    show rB (g (shD p) [x0, .val (.int l), x2, x3]) _ = _
    rw [g1]
    show aG (b e1) _ = _
    rw [g2]
    exact a
theorem div_ok {b : Int} (h1 : 1 ≤ b) (h : b.natAbs < 10 ^ 100) : DivOk b := divOk_of (by omega) (ib_100 h) (by decide)
theorem tops_ok {ps : List Shr} (hp : ∀ p ∈ ps, ShOk p) (hU : ib (uS ps) ≤ 1100) {p : Shr} (m : p ∈ ps) : DivOk p.2 ∧ IntMulOk p.1 ((uS ps).fdiv p.2) :=
  ⟨div_ok (hp p m).2.1 (hp p m).2.2.1, mi (ib_100 (hp p m).1) (m := 340) (n := 1100) (intBits_fdiv_le hU)⟩
theorem lc_tops {x0 x2 x3 : Sl} {U : Int} {ps : List Shr} (hp : ∀ p ∈ ps, ShOk p) (hl : ps.length ≤ 3) (hU : ib (uS ps) ≤ 1100) (h2 : x2.nown = true) (h3 : x3.nown = true) : (mLc [2, 3] (mSeq (mVar 0)) (gTp 2 (gsCons (gN 2) (gsCons (gN 3) gsNil))) (ret true) (m2 (mVar 2) (m2 (mVar 1) (mVar 3) (g2i iDiv)) (g2i iMul))) [.val (.lst (ps.map shD)), .val (.int (uS ps)), x2, x3] = .ok (iL (tS ps)) [.val (.lst (ps.map shD)), .val (.int (uS ps)), x2, x3] := by
  have h := mLc_gen (vs := [2, 3]) (fi := mSeq (mVar 0)) (g := (gTp 2 (gsCons (gN 2) (gsCons (gN 3) gsNil)))) (el := (m2 (mVar 2) (m2 (mVar 1) (mVar 3) (g2i iDiv)) (g2i iMul))) (e := [.val (.lst (ps.map shD)), .val (.int (uS ps)), x2, x3]) (e0 := [.val (.lst (ps.map shD)), .val (.int (uS ps)), x2, x3]) ps shD (fun p => .int (p.1 * (uS ps).fdiv p.2)) (by walk_at "dl") (by cases x2 <;> cases x3 <;> first | rfl | exact absurd h2 Bool.false_ne_true | exact absurd h3 Bool.false_ne_true) (by cases x2 <;> cases x3 <;> first | rfl | exact absurd h2 Bool.false_ne_true | exact absurd h3 Bool.false_ne_true) (Nat.le_trans hl (by decide)) fun p m => ⟨_, _, rfl, by
    walk_at "dl"
    rw [if_pos (tops_ok hp hU m).1]
    walk_at "dl"
    rw [if_pos (tops_ok hp hU m).2], by rfl⟩
  rw [h]
  show Res.ok (D.lst _) _ = Res.ok (D.lst ((tS ps).map .int)) _
  unfold tS
  rw [List.map_map]
  rfl
theorem e_lplace {ps : List Shr} (hp : ∀ p ∈ ps, ShOk p) (hl : ps.length ≤ 3) : F_law_place [.lst (ps.map shD)] = .ok (.tup [iT (tS ps), .int (uS ps)]) := by
  obtain ⟨x2', x3', h1, h2, h3, h4⟩ := under_loop (g := (gTp 2 (gsCons (gN 2) (gsCons (gN 3) gsNil)))) (b := (mAsg 1 (m2 (m2 (mVar 1) (mVar 3) (g2i iMul)) (mCall (aCons (mVar 1) (aCons (mVar 3) aNil)) F_law_common) (g2i iDiv)))) (fun l p x0 x2 x3 hl0 hb h => ⟨_, rfl, by
    walk_at "dl"
    rw [if_pos (mi (m := 4000) (n := 340) hb (ib_100 h.2.2.1))]
    walk_at "dl"
    rw [e_common]
    walk_at "dl"
    rw [if_pos (divOk_of (m := 4000) (fun z => by have := (gd_zero z).1; omega) (Nat.le_trans (ib_dvd (gd_l l p.2) (by omega) hb) (Nat.le_refl _)) (by decide))]
    rfl⟩) ps 1 1 (by decide) (by decide) (by omega) hp (.val (.lst (ps.map shD))) .no .no rfl rfl
  unfold F_law_place b_law_place
  walk_at "dl"
  rw [h1]
  walk_at "dl"
  have := lc_tops (x0 := .no) (U := 1) hp hl (show ib (uS ps) ≤ 1100 from Nat.le_trans h4 (by omega)) h2 h3
  unfold uS at this
  rw [this]
  walk_at "dl"
  rfl
theorem e_one_under {ps : List Shr} (hp : ∀ p ∈ ps, ShOk p) (hl : ps.length ≤ 3) (hn : ps ≠ []) : F_one_under [.lst (ps.map shD)] = .ok (.tup [iT (tS ps), .int (uS ps)]) := by
  obtain ⟨x2', x3', h1, h2, h3, h4⟩ := under_loop (g := (gTp 2 (gsCons (gN 2) (gsCons (gN 3) gsNil)))) (b := (mAsg 1 (m2 (m2 (mVar 1) (mVar 3) (g2i iMul)) (mCall (aCons (mVar 1) (aCons (mVar 3) aNil)) F_divisor) (g2i iDiv)))) (fun l p x0 x2 x3 hl0 hb h => ⟨_, rfl, by
    walk_at "dl"
    rw [if_pos (mi (m := 4000) (n := 340) hb (ib_100 h.2.2.1))]
    walk_at "dl"
    rw [e_divisor]
    walk_at "dl"
    rw [if_pos (divOk_of (m := 4000) (fun z => by have := (gd_zero z).1; omega) (Nat.le_trans (ib_dvd (gd_l l p.2) (by omega) hb) (Nat.le_refl _)) (by decide))]
    rfl⟩) ps 1 1 (by decide) (by decide) (by omega) hp (.val (.lst (ps.map shD))) .no .no rfl rfl
  have hu : ib (uS ps) ≤ 1100 := Nat.le_trans h4 (by omega)
  have hpl := e_place_low (d := iL (tS ps)) (.inl rfl) (uS_W hp).1 (fun z => hn (List.map_eq_nil_iff.mp z)) (by unfold tS; rw [List.length_map]; omega) (Nat.le_trans hu (by decide)) (low_S hp)
  unfold F_one_under b_one_under
  walk_at "dl"
  rw [h1]
  walk_at "dl"
  have := lc_tops (x0 := .no) (U := 1) hp hl hu h2 h3
  unfold uS at this hpl
  rw [this]
  walk_at "dl"
  rw [hpl]
  walk_at "dl"
  rfl
theorem starts1 (l : List Nat) (c : Nat) : Txt.startswith (SX.S l) (SX.S [c]) = decide (l.head? = some c) := by
  unfold Txt.startswith
  rw [StrLaws.subAt_eq]
  show (decide (0 + (SX.S [c]).length ≤ (SX.S l).length) && ((l.drop 0).take 1 == [c])) = _
  cases l with
  | nil => rfl
  | cons a r =>
    rw [SX.S_len, SX.S_len, List.drop_zero]
    show (decide (0 + 1 ≤ (a :: r).length) && ([a] == [c])) = decide (some a = some c)
    rw [List.length_cons, decide_eq_true (by omega), Bool.true_and]
    by_cases h : a = c
    · rw [h, decide_eq_true rfl]; exact beq_self_eq_true _
    · rw [decide_eq_false (fun z => h (Option.some.inj z))]
      exact beq_eq_false_iff_ne.mpr fun z => h (List.cons.inj z).1
theorem decS (a b : List Nat) : decide (SX.S a = SX.S b) = decide (a = b) := decide_eq_decide.mpr ⟨SX.S_inj, fun h => by rw [h]⟩
theorem rp_step {w : List Nat} (hw : tOk 2000 (SX.S w)) (acc : List D) (ha : acc.length < 100) (x0 x1 x4 x5 : Sl) : match rdL w with
    | some p => ∃ x4' x5', (mIf (bnd (m2 (mVar 3) (ret (.str "0")) mEq) mB) (mApp 2 (mTup (aCons (ret (.int 0)) (aCons (ret (.int 1)) aNil)))) (mIf (bnd (bnd (mVar 3) (xStr fun s => bnd (ret (.str "-")) (dStart s))) mTru) (sq (mAsgT (mCall (aCons (mSlice (mVar 3) (oSome (ret (.int 1))) oNone) aNil) F_share_of) (gTp 2 (gsCons (gN 4) (gsCons (gN 5) gsNil))))
  (mApp 2 (mTup (aCons (bnd (mVar 4) (u1i fun i => ret (.int (-i)))) (aCons (mVar 5) aNil))))) (mApp 2 (mCall (aCons (mVar 3) aNil) F_share_of)))) [x0, x1, .own none (.lst acc), .val (.str (SX.S w)), x4, x5] = .ok .nx [x0, x1, .own none (.lst (acc ++ [shD p])), .val (.str (SX.S w)), x4', x5']
    | none => badR ((mIf (bnd (m2 (mVar 3) (ret (.str "0")) mEq) mB) (mApp 2 (mTup (aCons (ret (.int 0)) (aCons (ret (.int 1)) aNil)))) (mIf (bnd (bnd (mVar 3) (xStr fun s => bnd (ret (.str "-")) (dStart s))) mTru) (sq (mAsgT (mCall (aCons (mSlice (mVar 3) (oSome (ret (.int 1))) oNone) aNil) F_share_of) (gTp 2 (gsCons (gN 4) (gsCons (gN 5) gsNil))))
  (mApp 2 (mTup (aCons (bnd (mVar 4) (u1i fun i => ret (.int (-i)))) (aCons (mVar 5) aNil))))) (mApp 2 (mCall (aCons (mVar 3) aNil) F_share_of)))) [x0, x1, .own none (.lst acc), .val (.str (SX.S w)), x4, x5]) := by
  have hs : (SX.S w).length ≤ sizeLine := Nat.le_trans hw.2 (by decide)
  have hac : acc.length < sizeLine := Nat.lt_of_lt_of_le ha (by decide)
  have q0 := deq_s hw (tOk_of "0" (m := 1) (by decide))
  have e0 : Str.ofString "0" = SX.S [48] := by decide +kernel
  have em : Str.ofString "-" = SX.S [45] := by decide +kernel
  have td : tOk 2000 (SX.S (w.drop 1)) := tok_mem hw (by have := hw.2; rw [SX.S_len] at this; rw [List.length_drop]; omega) fun c hc => List.mem_of_mem_drop hc
  unfold rdL
  walk_at "dl"
  rw [if_pos q0.1, q0.2, e0, decS]
  by_cases c0 : w = [48]
  · rw [if_pos c0, decide_eq_true c0]
    refine ⟨x4, x5, ?_⟩
    walk_at "dl"
    rw [if_pos hac]
  rw [if_neg c0, decide_eq_false c0, em, starts1]
  walk_at "dl"
  by_cases c1 : w.head? = some 45
  · rw [if_pos c1, if_pos c1]
    walk_at "dl"
    rw [if_pos hs, cut_1]
    walk_at "dl"
    rw [e_share td]
    show match (match shL w.tail with | some p => some (-(p.1 : Int), (p.2 : Int)) | none => none) with | some p => _ | none => _
    rw [← List.drop_one]
    cases e : shL (w.drop 1) with
    | none => exact ⟨_, by rfl⟩
    | some p =>
      refine ⟨.val (.int p.1), .val (.int p.2), ?_⟩
      walk_at "dl"
      rw [if_pos hac]
  · rw [if_neg c1, if_neg c1]
    walk_at "dl"
    rw [e_share hw]
    show match (match shL w with | some p => some ((p.1 : Int), (p.2 : Int)) | none => none) with | some p => _ | none => _
    cases e : shL w with
    | none => exact ⟨_, by rfl⟩
    | some p =>
      refine ⟨x4, x5, ?_⟩
      walk_at "dl"
      rw [if_pos hac]
theorem rp_loop : ∀ (ws : List (List Nat)) (acc : List D), (∀ w ∈ ws, tOk 2000 (SX.S w)) → acc.length + ws.length ≤ 100 → ∀ x0 x1 x3 x4 x5 : Sl, match rdA ws with
    | some ps => ∃ x3' x4' x5', forL (gN 3) (mIf (bnd (m2 (mVar 3) (ret (.str "0")) mEq) mB) (mApp 2 (mTup (aCons (ret (.int 0)) (aCons (ret (.int 1)) aNil)))) (mIf (bnd (bnd (mVar 3) (xStr fun s => bnd (ret (.str "-")) (dStart s))) mTru) (sq (mAsgT (mCall (aCons (mSlice (mVar 3) (oSome (ret (.int 1))) oNone) aNil) F_share_of) (gTp 2 (gsCons (gN 4) (gsCons (gN 5) gsNil))))
  (mApp 2 (mTup (aCons (bnd (mVar 4) (u1i fun i => ret (.int (-i)))) (aCons (mVar 5) aNil))))) (mApp 2 (mCall (aCons (mVar 3) aNil) F_share_of)))) ((ws.map SX.S).map .str) [x0, x1, .own none (.lst acc), x3, x4, x5] = .ok .nx [x0, x1, .own none (.lst (acc ++ ps.map shD)), x3', x4', x5']
    | none => badR (forL (gN 3) (mIf (bnd (m2 (mVar 3) (ret (.str "0")) mEq) mB) (mApp 2 (mTup (aCons (ret (.int 0)) (aCons (ret (.int 1)) aNil)))) (mIf (bnd (bnd (mVar 3) (xStr fun s => bnd (ret (.str "-")) (dStart s))) mTru) (sq (mAsgT (mCall (aCons (mSlice (mVar 3) (oSome (ret (.int 1))) oNone) aNil) F_share_of) (gTp 2 (gsCons (gN 4) (gsCons (gN 5) gsNil))))
  (mApp 2 (mTup (aCons (bnd (mVar 4) (u1i fun i => ret (.int (-i)))) (aCons (mVar 5) aNil))))) (mApp 2 (mCall (aCons (mVar 3) aNil) F_share_of)))) ((ws.map SX.S).map .str) [x0, x1, .own none (.lst acc), x3, x4, x5])
  | [], acc, _, _, x0, x1, x3, x4, x5 => ⟨x3, x4, x5, by rw [show acc ++ ([] : List Shr).map shD = acc from List.append_nil _]; rfl⟩
  | w :: r, acc, h, hl, x0, x1, x3, x4, x5 => by
    rw [List.length_cons] at hl
    have st := rp_step (h w List.mem_cons_self) acc (by omega) x0 x1 x4 x5
    have tl := fun (acc' : List D) (k : acc'.length + r.length ≤ 100) (y3 y4 y5 : Sl) => rp_loop r acc' (fun q m => h q (List.mem_cons_of_mem _ m)) k x0 x1 y3 y4 y5
    rw [List.map_cons, List.map_cons, forL_cons]
    show match rdA (w :: r) with
      | some ps => ∃ x3' x4' x5', aG ((mIf (bnd (m2 (mVar 3) (ret (.str "0")) mEq) mB) (mApp 2 (mTup (aCons (ret (.int 0)) (aCons (ret (.int 1)) aNil)))) (mIf (bnd (bnd (mVar 3) (xStr fun s => bnd (ret (.str "-")) (dStart s))) mTru) (sq (mAsgT (mCall (aCons (mSlice (mVar 3) (oSome (ret (.int 1))) oNone) aNil) F_share_of) (gTp 2 (gsCons (gN 4) (gsCons (gN 5) gsNil))))
  (mApp 2 (mTup (aCons (bnd (mVar 4) (u1i fun i => ret (.int (-i)))) (aCons (mVar 5) aNil))))) (mApp 2 (mCall (aCons (mVar 3) aNil) F_share_of)))) [x0, x1, .own none (.lst acc), .val (.str (SX.S w)), x4, x5]) (forL (gN 3) (mIf (bnd (m2 (mVar 3) (ret (.str "0")) mEq) mB) (mApp 2 (mTup (aCons (ret (.int 0)) (aCons (ret (.int 1)) aNil)))) (mIf (bnd (bnd (mVar 3) (xStr fun s => bnd (ret (.str "-")) (dStart s))) mTru) (sq (mAsgT (mCall (aCons (mSlice (mVar 3) (oSome (ret (.int 1))) oNone) aNil) F_share_of) (gTp 2 (gsCons (gN 4) (gsCons (gN 5) gsNil))))
  (mApp 2 (mTup (aCons (bnd (mVar 4) (u1i fun i => ret (.int (-i)))) (aCons (mVar 5) aNil))))) (mApp 2 (mCall (aCons (mVar 3) aNil) F_share_of)))) ((r.map SX.S).map .str)) = .ok .nx [x0, x1, .own none (.lst (acc ++ ps.map shD)), x3', x4', x5']
      | none => badR (aG ((mIf (bnd (m2 (mVar 3) (ret (.str "0")) mEq) mB) (mApp 2 (mTup (aCons (ret (.int 0)) (aCons (ret (.int 1)) aNil)))) (mIf (bnd (bnd (mVar 3) (xStr fun s => bnd (ret (.str "-")) (dStart s))) mTru) (sq (mAsgT (mCall (aCons (mSlice (mVar 3) (oSome (ret (.int 1))) oNone) aNil) F_share_of) (gTp 2 (gsCons (gN 4) (gsCons (gN 5) gsNil))))
  (mApp 2 (mTup (aCons (bnd (mVar 4) (u1i fun i => ret (.int (-i)))) (aCons (mVar 5) aNil))))) (mApp 2 (mCall (aCons (mVar 3) aNil) F_share_of)))) [x0, x1, .own none (.lst acc), .val (.str (SX.S w)), x4, x5]) (forL (gN 3) (mIf (bnd (m2 (mVar 3) (ret (.str "0")) mEq) mB) (mApp 2 (mTup (aCons (ret (.int 0)) (aCons (ret (.int 1)) aNil)))) (mIf (bnd (bnd (mVar 3) (xStr fun s => bnd (ret (.str "-")) (dStart s))) mTru) (sq (mAsgT (mCall (aCons (mSlice (mVar 3) (oSome (ret (.int 1))) oNone) aNil) F_share_of) (gTp 2 (gsCons (gN 4) (gsCons (gN 5) gsNil))))
  (mApp 2 (mTup (aCons (bnd (mVar 4) (u1i fun i => ret (.int (-i)))) (aCons (mVar 5) aNil))))) (mApp 2 (mCall (aCons (mVar 3) aNil) F_share_of)))) ((r.map SX.S).map .str)))
    unfold rdA
    cases e : rdL w with
    | none =>
      rw [e] at st
      obtain ⟨e', st⟩ := st
      exact ⟨e', by rw [st]; rfl⟩
    | some p =>
      rw [e] at st
      obtain ⟨x4', x5', st⟩ := st
      have t := tl (acc ++ [shD p]) (by rw [List.length_append]; simp; omega) (.val (.str (SX.S w))) x4' x5'
      rw [st]
      cases e2 : rdA r with
      | none =>
        rw [e2] at t
        exact t
      | some ps =>
        rw [e2] at t
        obtain ⟨a, b, c, t⟩ := t
        refine ⟨a, b, c, t.trans ?_⟩
        rw [List.append_assoc]
        rfl
/-- what a text tells as a place -/
def pcL (l : List Nat) : Option (List Shr) := if (TL.spl [44] 0 [] l).length = 2 ∨ (TL.spl [44] 0 [] l).length = 3 then rdA (TL.spl [44] 0 [] l) else none
abbrev plD (ps : List Shr) : D := .tup [iT (tS ps), .int (uS ps)]
theorem spl_mem {c : Nat} : ∀ (n : Nat) (l : List Nat), l.length = n → ∀ w ∈ TL.spl [c] 0 [] l, w.length ≤ l.length ∧ ∀ x ∈ w, x ∈ l := fun n => by
  induction n using Nat.strongRecOn with
  | _ n ih =>
    intro l hl w hw
    rcases cut_at c l with k | ⟨p, q, e, k⟩
    · rw [spl_no k] at hw
      rw [List.mem_singleton.mp hw]
      exact ⟨Nat.le_refl _, fun _ h => h⟩
    · rw [e, spl_at1 k] at hw
      rcases List.mem_cons.mp hw with rfl | hw
      · exact ⟨by rw [e, List.length_append]; omega, fun x hx => by rw [e]; exact List.mem_append_left _ hx⟩
      · have lq : q.length < n := by rw [← hl, e, List.length_append, List.length_cons]; omega
        obtain ⟨a, b⟩ := ih q.length lq q rfl w hw
        exact ⟨by omega, fun x hx => by rw [e]; exact List.mem_append_right _ (List.mem_cons_of_mem _ (b x hx))⟩
theorem rdA_len : ∀ {ls : List (List Nat)} {ps : List Shr}, rdA ls = some ps → ps.length = ls.length := fun h => by
  have := congrArg List.length (rdA_some h).2
  rw [List.length_map] at this
  exact this
theorem e_read {z : Str} (hz : tOk 2000 z) : F_read_place [.str z] = match pcL z.cps.toList with | some ps => .ok (plD ps) | none => .exc "NoText" none := by
  have hs : z.length + 2 ≤ sizeLine := Nat.le_trans (Nat.add_le_add_right hz.2 2) (by decide)
  have se : (("," : Str).length == 0) = false := by decide
  have e1 : Str.ofString "," = (⟨#[44]⟩ : Str) := by decide +kernel
  have sp : Txt.split z (Str.ofString ",") = (TL.spl [44] 0 [] z.cps.toList).map SX.S := by rw [e1]; exact split_1 (by decide)
  have tw : ∀ w ∈ TL.spl [44] 0 [] z.cps.toList, tOk 2000 (SX.S w) := fun w m => by
    obtain ⟨a, b⟩ := spl_mem _ _ rfl w m
    exact tok_mem hz (by rw [← len_cps] at a; have := hz.2; omega) b
  unfold F_read_place b_read_place
  walk_at "dl"
  rw [if_pos ⟨se, hs⟩, sp]
  unfold pcL
  generalize TL.spl [44] 0 [] z.cps.toList = ws at tw
  walk_at "dl"
  by_cases c : ws.length = 2 ∨ ws.length = 3
  · rw [if_pos c]
    have lp := rp_loop ws [] tw (by rw [List.length_nil]; omega) (.val (.str z)) (.val (.lst ((ws.map SX.S).map .str))) .no .no .no
    have T : rF (sQ (forL (gN 3) (mIf (bnd (m2 (mVar 3) (ret (.str "0")) mEq) mB) (mApp 2 (mTup (aCons (ret (.int 0)) (aCons (ret (.int 1)) aNil)))) (mIf (bnd (bnd (mVar 3) (xStr fun s => bnd (ret (.str "-")) (dStart s))) mTru) (sq (mAsgT (mCall (aCons (mSlice (mVar 3) (oSome (ret (.int 1))) oNone) aNil) F_share_of) (gTp 2 (gsCons (gN 4) (gsCons (gN 5) gsNil))))
  (mApp 2 (mTup (aCons (bnd (mVar 4) (u1i fun i => ret (.int (-i)))) (aCons (mVar 5) aNil))))) (mApp 2 (mCall (aCons (mVar 3) aNil) F_share_of)))) ((ws.map SX.S).map .str) [.val (.str z), .val (.lst ((ws.map SX.S).map .str)), .own none (.lst []), .no, .no, .no]) (mRet (mCall (aCons (mVar 2) aNil) F_one_under))) = match rdA ws with | some ps => .ok (plD ps) | none => .exc "NoText" none := by
      cases e : rdA ws with
      | none =>
        rw [e] at lp
        obtain ⟨e', lp⟩ := lp
        rw [lp]
        rfl
      | some ps =>
        rw [e] at lp
        obtain ⟨a, b, c', lp⟩ := lp
        have ol := rdA_len e
        rw [lp]
        walk_at "dl"
        rw [e_one_under (rdA_some e).1 (by omega) (fun q => by rw [q] at ol; simp at ol; omega)]
        walk_at "dl"
    rcases c with c | c
    · rw [if_neg (by omega)]; exact T
    · rw [if_pos (by omega), if_neg (by omega)]; exact T
  · rw [if_neg c, if_pos (by omega), if_pos (by omega)]
/-! the law's own reading -/
theorem isNon_shD (p : Shr) : isNon (shD p) = false := rfl
def oD (o : Option Shr) : D := match o with | some p => shD p | none => .non
theorem e_lread' {z : Str} (hz : tOk 2000 z) : F_law_read [.str z] = .ok (oD (rdL z.cps.toList)) := by
  rw [e_lread hz]
  cases rdL z.cps.toList <;> rfl
theorem rdA_none : ∀ {ls : List (List Nat)}, rdA ls = none ↔ ∃ l ∈ ls, rdL l = none
  | [] => ⟨fun h => (by cases h), fun ⟨_, m, _⟩ => (by cases m)⟩
  | l :: r => by
    unfold rdA
    cases e : rdL l with
    | none => exact Iff.intro (fun _ => ⟨l, List.mem_cons_self, e⟩) (fun _ => rfl)
    | some p =>
      cases e2 : rdA r with
      | none =>
        refine ⟨fun _ => ?_, fun _ => rfl⟩
        obtain ⟨m, a, b⟩ := rdA_none.mp e2
        exact ⟨m, List.mem_cons_of_mem _ a, b⟩
      | some ps =>
        refine ⟨fun h => (by cases h), fun ⟨m, a, b⟩ => ?_⟩
        rcases List.mem_cons.mp a with rfl | a
        · rw [e] at b; cases b
        · have := rdA_none.mpr ⟨m, a, b⟩
          rw [e2] at this; cases this
theorem e_due {z : Str} (hz : tOk 2000 z) : F_law_due [.str z] = match pcL z.cps.toList with | some ps => .ok (plD ps) | none => .ok .non := by
  have hs : z.length + 2 ≤ sizeLine := Nat.le_trans (Nat.add_le_add_right hz.2 2) (by decide)
  have se : (("," : Str).length == 0) = false := by decide
  have e1 : Str.ofString "," = (⟨#[44]⟩ : Str) := by decide +kernel
  have sp : Txt.split z (Str.ofString ",") = (TL.spl [44] 0 [] z.cps.toList).map SX.S := by rw [e1]; exact split_1 (by decide)
  have tw : ∀ w ∈ TL.spl [44] 0 [] z.cps.toList, tOk 2000 (SX.S w) := fun w m => by
    obtain ⟨a, b⟩ := spl_mem _ _ rfl w m
    exact tok_mem hz (by rw [← len_cps] at a; have := hz.2; omega) b
  unfold F_law_due b_law_due
  walk_at "dl"
  rw [if_pos ⟨se, hs⟩, sp]
  unfold pcL
  generalize TL.spl [44] 0 [] z.cps.toList = ws at tw
  walk_at "dl"
  by_cases c : ws.length = 2 ∨ ws.length = 3
  · rw [if_pos c]
    have lc : mLc [3] (mSeq (mVar 1)) (gN 3) (ret true) (mCall (aCons (mVar 3) aNil) F_law_read) [.val (.str z), .val (.lst ((ws.map SX.S).map .str)), .no, .no, .no] = .ok (.lst (ws.map fun w => oD (rdL w))) [.val (.str z), .val (.lst ((ws.map SX.S).map .str)), .no, .no, .no] := by
      refine mLc_gen ws (fun w => .str (SX.S w)) (fun w => oD (rdL w)) (by
        walk_at "dl"
        rw [List.map_map]; rfl) rfl rfl (le_size (by omega)) fun w m => ⟨_, _, rfl, by
        walk_at "dl"
        rw [e_lread' (tw w m)]
        rfl, by rfl⟩
    have fl : mLc [4] (mSeq (mVar 2)) (gN 4) (bnd (mVar 4) fun x => DL.ret (isNon x)) (mVar 4) [.val (.str z), .val (.lst ((ws.map SX.S).map .str)), .val (.lst (ws.map fun w => oD (rdL w))), .no, .no] = .ok (.lst (((ws.map fun w => oD (rdL w)).filter isNon).map id)) [.val (.str z), .val (.lst ((ws.map SX.S).map .str)), .val (.lst (ws.map fun w => oD (rdL w))), .no, .no] := by
      refine mLc_filter isNon id (by walk_at "dl") rfl rfl (le_size (by rw [List.length_map]; omega)) fun d m => ⟨_, _, rfl, by rfl, fun _ => ⟨_, by rfl, by rfl⟩, fun _ => by rfl⟩
    have T : rF (sQ (rB (mLc [3] (mSeq (mVar 1)) (gN 3) (ret true) (mCall (aCons (mVar 3) aNil) F_law_read) [.val (.str z), .val (.lst ((ws.map SX.S).map .str)), .no, .no, .no]) fun d e' => Res.ok Fl.nx (List.set e' 2 (Sl.val d)))
      (sq (mIf (bnd (m2 (bnd (aCons (mLc [4] (mSeq (mVar 2)) (gN 4) (bnd (mVar 4) fun x => DL.ret (isNon x)) (mVar 4)) aNil) cLen) (DL.ret (D.int 0)) (g2i (iCmp fun i j => decide (j < i)))) mB) (mRet (DL.ret D.non)) nx) (mRet (mCall (aCons (mVar 2) aNil) F_law_place)))) = match rdA ws with | some ps => Rs.ok (plD ps) | none => Rs.ok .non := by
      rw [lc]
      walk_at "dl"
      rw [fl]
      walk_at "dl"
      cases e : rdA ws with
      | none =>
        obtain ⟨l, m, hl⟩ := rdA_none.mp e
        have : D.non ∈ (ws.map fun w => oD (rdL w)).filter isNon := List.mem_filter.mpr ⟨List.mem_map.mpr ⟨l, m, by rw [hl]; rfl⟩, rfl⟩
        have := List.length_pos_of_mem this
        rw [if_pos (by omega)]
      | some ps =>
        have ol := rdA_len e
        have em : (ws.map fun w => oD (rdL w)) = ps.map shD := by
          obtain ⟨a, b⟩ := rdA_some e
          rw [← b, List.map_map]
          refine List.map_congr_left fun p m => ?_
          show oD (rdL (wdL p)) = shD p
          rw [rdL_wd (a p m)]
          rfl
        have ef : (ps.map shD).filter isNon = [] := List.filter_eq_nil_iff.mpr fun d m => by
          obtain ⟨p, _, rfl⟩ := List.mem_map.mp m
          exact Bool.false_ne_true
        rw [em, ef, if_neg (by decide), e_lplace (rdA_some e).1 (by omega)]
        walk_at "dl"
    rcases c with c | c
    · rw [if_neg (by omega)]; exact T
    · rw [if_pos (by omega), if_neg (by omega)]; exact T
  · rw [if_neg c, if_pos (by omega), if_pos (by omega)]
/-! how it is shown -/
theorem num_str (n : Nat) : Str.ofString (toString ((n : Nat) : Int)) = SX.S (TL.numL n) := SX.num_S n
theorem wd_cat (n m : Nat) (h : 1 < m) : SX.S (TL.numL n) ++ Str.ofString "/" ++ SX.S (TL.numL m) = SX.S (wdN n m) := by
  unfold wdN
  rw [if_pos h, show Str.ofString "/" = SX.S [47] by decide +kernel, SX.S_cat, SX.S_cat, List.append_assoc]
  rfl
theorem numS_len {n : Nat} (h : n < 10 ^ 100) : (SX.S (TL.numL n)).length ≤ 100 := by rw [SX.S_len]; exact TL.numL_len (by decide) h
theorem sz_of {n : Nat} (h : n ≤ 100000) : szOk n := le_size h
theorem e_share_text {p : Shr} {U : Int} (hp : ShOk p) (hU : 0 < U) (hd : p.2 ∣ U) (hb : ib U ≤ 1100) : F_share_text [.int (p.1 * U.fdiv p.2), .int U] = .ok (.str (SX.S (wdN p.1.natAbs p.2.natAbs))) := by
  obtain ⟨g1, g2, g3⟩ := tS_gd (t := p.1) hp.2.1 hU hd hp.2.2.2
  have kb : ib (U.fdiv p.2) ≤ 1100 := intBits_fdiv_le hb
  have dk : DivOk (U.fdiv p.2) := divOk_of (by omega) kb (by decide)
  have a1 : (iAbs (p.1 * U.fdiv p.2)).fdiv (U.fdiv p.2) = ((p.1.natAbs : Nat) : Int) := by
    rw [iAbs_eq, Int.natAbs_mul, Int.natCast_mul, Int.natAbs_of_nonneg (Int.le_of_lt g2)]
    exact Int.mul_fdiv_cancel _ (by omega)
  have a2 : U.fdiv (U.fdiv p.2) = ((p.2.natAbs : Nat) : Int) := by
    have h2 := hp.2.1
    rw [Int.natAbs_of_nonneg (by omega)]
    generalize U.fdiv p.2 = k at *
    rw [g3]
    exact Int.mul_fdiv_cancel _ (by omega)
  have s1 := strI_ok (i := ((p.1.natAbs : Nat) : Int)) (by rw [Int.natAbs_natCast]; exact hp.1)
  have s2 := strI_ok (i := ((p.2.natAbs : Nat) : Int)) (by rw [Int.natAbs_natCast]; exact hp.2.2.1)
  unfold F_share_text b_share_text
  walk_at "dl"
  rw [e_divisor, g1]
  walk_at "dl"
  rw [if_pos dk, a1, a2]
  walk_at "dl"
  rw [if_pos s1]
  walk_at "dl"
  have h2 := hp.2.1
  by_cases c : p.2 = 1
  · have : U = U.fdiv p.2 := by rw [c]; exact (fdiv_one U).symm
    rw [if_pos this, num_str]
    unfold wdN
    rw [if_neg (by rw [c]; decide)]
  · have hne : ¬ U = U.fdiv p.2 := fun z => by
      generalize U.fdiv p.2 = k at *
      rw [z] at g3
      have : (p.2 - 1) * k = 0 := by rw [Int.sub_mul, Int.one_mul]; omega
      rcases Int.mul_eq_zero.mp this with h | h <;> omega
    have l1 := numS_len hp.1
    have l2 := numS_len hp.2.2.1
    rw [if_neg hne, num_str, num_str]
    walk_at "dl"
    rw [if_pos dk, if_pos s1, if_pos dk, if_pos s2, if_pos (sz_of (by show _ + 1 ≤ _; omega)), if_pos (sz_of (by rw [ylen_app]; show _ + 1 + _ ≤ _; omega)), wd_cat _ _ (by omega)]
theorem e_with_sign (n : Int) {w : Str} (hw : tOk 500 w) : F_with_sign [.str (Str.ofString ""), .int n, .str w] = .ok (.str (if n < 0 then Str.ofString "-" ++ w else w)) := by
  have q := deq_s (tOk_of "" (m := 1) (by decide)) (tOk_of "" (m := 1) (by decide))
  have lw := hw.2
  unfold F_with_sign b_with_sign
  walk_at "dl"
  by_cases c : n < 0
  · rw [if_pos c, if_pos c, if_pos (sz_of (by decide)), if_pos (sz_of (by rw [ylen_app]; show 0 + 1 + _ ≤ _; omega)), nil_str]
  · rw [if_neg c, if_neg c, if_pos q.1, q.2, if_pos (decide_eq_true rfl)]
abbrev wS (p : Shr) : Str := SX.S (wdL p)
theorem wS_ok {p : Shr} (hp : ShOk p) : tOk 202 (wS p) := by
  have l1 := TL.numL_len (k := 100) (by decide) hp.1
  have l2 := TL.numL_len (k := 100) (by decide) hp.2.2.1
  have d1 := TL.numL_digits p.1.natAbs
  have d2 := TL.numL_digits p.2.natAbs
  constructor
  · rw [ystrOk_iff]
    intro c hc
    have hc : c ∈ wdL p := hc
    have h1 : c ∈ TL.numL p.1.natAbs → c < 0x110000 := fun h => by have := d1 c h; omega
    have h2 : c ∈ TL.numL p.2.natAbs → c < 0x110000 := fun h => by have := d2 c h; omega
    unfold wdL wdN at hc
    split at hc <;> split at hc
    · rcases List.mem_cons.mp hc with rfl | hc
      · decide
      rcases List.mem_append.mp hc with hc | hc
      · exact h1 hc
      rcases List.mem_cons.mp hc with rfl | hc
      · decide
      · exact h2 hc
    · rcases List.mem_cons.mp hc with rfl | hc
      · decide
      · exact h1 hc
    · rcases List.mem_append.mp hc with hc | hc
      · exact h1 hc
      rcases List.mem_cons.mp hc with rfl | hc
      · decide
      · exact h2 hc
    · exact h1 hc
  · rw [SX.S_len]
    unfold wdL wdN
    split <;> split <;> (try simp) <;> omega
theorem neg_fdiv {t k : Int} (hk : 0 < k) : t * k < 0 ↔ t < 0 := by
  constructor
  · intro h
    rcases Int.lt_or_le t 0 with c | c
    · exact c
    · have := Int.mul_nonneg c (Int.le_of_lt hk); omega
  · exact fun h => Int.mul_neg_of_neg_of_pos h hk
theorem wN_ok {p : Shr} (hp : ShOk p) : tOk 500 (SX.S (wdN p.1.natAbs p.2.natAbs)) := by
  have h := wS_ok (p := (((p.1.natAbs : Nat) : Int), p.2)) ⟨by show ((p.1.natAbs : Nat) : Int).natAbs < _; rw [Int.natAbs_natCast]; exact hp.1, hp.2.1, hp.2.2.1, by show Nat.gcd ((p.1.natAbs : Nat) : Int).natAbs _ = 1; rw [Int.natAbs_natCast]; exact hp.2.2.2⟩
  have e : wdL (((p.1.natAbs : Nat) : Int), p.2) = wdN p.1.natAbs p.2.natAbs := by
    unfold wdL
    rw [if_neg (by show ¬ ((p.1.natAbs : Nat) : Int) < 0; omega)]
    rfl
  unfold wS at h
  rw [e] at h
  exact h.mono (by decide)
theorem sign_wd (p : Shr) : (if p.1 < 0 then Str.ofString "-" ++ SX.S (wdN p.1.natAbs p.2.natAbs) else SX.S (wdN p.1.natAbs p.2.natAbs)) = wS p := by
  unfold wS wdL
  split
  · rw [show Str.ofString "-" = SX.S [45] by decide +kernel, SX.S_cat]; rfl
  · rfl
theorem uS_ib {ps : List Shr} (hp : ∀ p ∈ ps, ShOk p) (hl : ps.length ≤ 3) : ib (uS ps) ≤ 1100 := by
  have k : ∀ (ps : List Shr) (l : Int) (k : Nat), 0 < l → ib l ≤ k → (∀ p ∈ ps, ShOk p) → ib (ps.foldl lcS l) ≤ k + 340 * ps.length := by
    intro ps
    induction ps with
    | nil => exact fun l k _ h _ => h
    | cons p r ih =>
      intro l k hl hk hp
      have p0 := hp p List.mem_cons_self
      have lp := lcS_pos hl (show 0 < p.2 by have := p0.2.1; omega)
      have hk2 : ib (lcS l p) ≤ k + 340 := by
        have : ib (l * p.2) ≤ k + 340 := intBits_mul_le hk (ib_100 p0.2.2.1)
        refine intBits_le_of_natAbs ?_ this
        rw [Int.natAbs_mul]
        exact lcS_le hl (by have := p0.2.1; omega)
      have := ih (lcS l p) (k + 340) lp hk2 fun q m => hp q (List.mem_cons_of_mem _ m)
      rw [List.length_cons]
      exact Nat.le_trans this (by omega)
  exact Nat.le_trans (k ps 1 1 (by decide) (by decide) hp) (by omega)
theorem join_wS (ps : List Shr) : Txt.join (Str.ofString ",") (ps.map wS) = SX.S (TL.joinL [44] (ps.map wdL)) := by
  rw [show Str.ofString "," = SX.S [44] by decide +kernel, show ps.map wS = (ps.map wdL).map SX.S by rw [List.map_map]; rfl]
  exact SX.join_S _ _
theorem e_show {ps : List Shr} (hp : ∀ p ∈ ps, ShOk p) (hl : ps.length ≤ 3) : F_show_place [plD ps] = .ok (.str (SX.S (TL.joinL [44] (ps.map wdL)))) := by
  have jo : joinOk (Str.ofString ",") (ps.map wS) := joinOk_of (m := 202) (fun y m => by
    obtain ⟨p, hp', rfl⟩ := List.mem_map.mp m
    exact (wS_ok (hp p hp')).2) (by rw [List.length_map]; omega) (by decide) (by decide)
  have lc : mLc [1] (mSeq (mIxN 0 (ret (.int 0)))) (gN 1) (ret true) (mCall (aCons (ret (.str "")) (aCons (mVar 1) (aCons (mCall (aCons (mVar 1) (aCons (mIxN 0 (ret (.int 1))) aNil)) F_share_text) aNil))) F_with_sign) [.val (plD ps), .no] = .ok (.lst (ps.map fun p => .str (wS p))) [.val (plD ps), .no] := by
    refine mLc_gen ps (fun p => .int (p.1 * (uS ps).fdiv p.2)) (fun p => .str (wS p)) (by
      walk_at "dl"
      show Res.ok ((tS ps).map D.int) _ = _
      unfold tS
      rw [List.map_map]; rfl) rfl rfl (le_size (by omega)) fun p m => ⟨_, _, rfl, by
      obtain ⟨u0, u1, _⟩ := uS_W hp
      walk_at "dl"
      rw [e_share_text (hp p m) u0 (u1 p m) (uS_ib hp hl)]
      walk_at "dl"
      rw [e_with_sign _ (wN_ok (hp p m))]
      have : (if p.1 * (uS ps).fdiv p.2 < 0 then Str.ofString "-" ++ SX.S (wdN p.1.natAbs p.2.natAbs) else SX.S (wdN p.1.natAbs p.2.natAbs)) = wS p := by
        rw [← sign_wd p]
        have k := (tS_gd (t := p.1) (hp p m).2.1 u0 (u1 p m) (hp p m).2.2.2).2.1
        by_cases c : p.1 < 0
        · rw [if_pos c, if_pos ((neg_fdiv k).mpr c)]
        · rw [if_neg c, if_neg (fun z => c ((neg_fdiv k).mp z))]
      rw [this]
      rfl, by rfl⟩
  unfold F_show_place b_show_place
  walk_at "dl"
  unfold plD at lc
  rw [lc]
  walk_at "dl"
  rw [show (ps.map fun p => D.str (wS p)) = (ps.map wS).map .str by rw [List.map_map]; rfl, a_dJoinL, if_pos jo, join_wS]
  walk_at "dl"
/-! the law's questions -/
theorem e_only (a : Addr) : F_law_only a "NoText" [.opq a] = .ok (.bl true) := by
  unfold F_law_only b_law_only
  walk_at "dl"
theorem e_whole (n : Int) : F_law_whole [.int n] = .ok (.bl true) := by
  unfold F_law_whole b_law_whole
  walk_at "dl"
theorem pl_pl (ps : List Shr) : D.pl 2 (plD ps) = true := by
  unfold plD
  rw [show D.pl 2 (.tup [iT (tS ps), .int (uS ps)]) = ((D.pl 1 (iT (tS ps)) && (D.pl 1 (.int (uS ps)) && true)) : Bool) from rfl]
  rw [Bool.and_true, Bool.and_eq_true]
  refine ⟨?_, rfl⟩
  exact List.all_eq_true.mpr fun d m => by
    obtain ⟨n, _, rfl⟩ := List.mem_map.mp m
    rfl
theorem e_is {ps : List Shr} (hl : ps.length ≤ 3) : F_law_is [plD ps, plD ps] = .ok (.bl true) := by
  have pq := pl_pl ps
  have fl : mLc [2] (mSeq (mIxN 0 (ret (.int 0)))) (gN 2) (bNot (bnd (mCall (aCons (mVar 2) aNil) F_law_whole) mTru)) (mVar 2) [.val (plD ps), .val (plD ps), .no] = .ok (.lst (((tS ps).map D.int |>.filter fun _ => false).map id)) [.val (plD ps), .val (plD ps), .no] := by
    refine mLc_filter (fun _ => false) id (by walk_at "dl") rfl rfl (le_size (by unfold tS; rw [List.length_map, List.length_map]; omega)) fun d m => ?_
    obtain ⟨n, _, rfl⟩ := List.mem_map.mp m
    refine ⟨_, [.val (plD ps), .val (plD ps), .val (.int n)], rfl, ?_, fun h => absurd h Bool.false_ne_true, fun _ => rfl⟩
    walk_at "dl"
    rw [e_whole]
    rfl
  unfold F_law_is b_law_is
  unfold plD at fl
  walk_at "dl"
  rw [e_whole]
  walk_at "dl"
  rw [fl]
  have : ((tS ps).map D.int |>.filter fun _ => false) = [] := List.filter_eq_nil_iff.mpr fun _ _ => Bool.false_ne_true
  rw [this]
  walk_at "dl"
  have pq : D.pl 2 (.tup [iT (tS ps), .int (uS ps)]) = true := pq
  rw [if_pos (eqOk_pl pq pq), deq_self pq]
  exact if_neg (by decide)
theorem joinL_spl (z : Str) : SX.S (TL.joinL [44] (TL.spl [44] 0 [] z.cps.toList)) = z := by
  have h := StrLaws.join_split z (⟨#[44]⟩ : Str)
  rw [split_1 (by decide), ← yjoin_eq] at h
  rw [← SX.join_S]
  exact h
theorem pcL_back {z : Str} {ps : List Shr} (h : pcL z.cps.toList = some ps) : (∀ p ∈ ps, ShOk p) ∧ ps.length ≤ 3 ∧ ps ≠ [] ∧ SX.S (TL.joinL [44] (ps.map wdL)) = z := by
  unfold pcL at h
  split at h
  · rename_i c
    obtain ⟨a, b⟩ := rdA_some h
    have ol := rdA_len h
    refine ⟨a, by omega, fun q => by rw [q] at ol; simp at ol; omega, ?_⟩
    rw [b]
    exact joinL_spl z
  · cases h
theorem e_right {z : Str} (hz : tOk 2000 z) : F_law_right [.str z] = .ok (.bl true) := by
  have e1 := e_due hz
  have e2 := e_read hz
  unfold F_law_right b_law_right
  walk_at "dl"
  rw [e1]
  cases e : pcL z.cps.toList with
  | some ps =>
    rw [e] at e2
    obtain ⟨h1, h2, h3, h4⟩ := pcL_back e
    have e3 := e_show h1 h2
    rw [h4] at e3
    have e4 := e_is h2
    have pz := deq_s hz hz
    unfold plD at *
    walk_at "dl"
    rw [e2]
    walk_at "dl"
    rw [e4]
    walk_at "dl"
    rw [e3]
    walk_at "dl"
    rw [if_pos pz.1, pz.2, decide_eq_true rfl]
  | none =>
    rw [e] at e2
    walk_at "dl"
    rw [e2]
    walk_at "dl"
    refine (congrArg (fun r => rF (sQ r _)) (mCatch_eq (r := .ok .nx [.val (.str z), .val .non, .val (.bl true), .val (.bl true), .val .non, .no, .no]) fun a => ?_)).trans ?_
    · walk_at "dl"
      rw [e_only]
      walk_at "dl"
    · walk_at "dl"
/-! what is drawn -/
theorem big {a b : Int} {m n : Nat} (ha : ib a ≤ m) (hb : ib b ≤ n) (h : m + n ≤ 2000000 := by decide) : IntMulOk a b := IntMulOk.of_le ha hb (Nat.le_trans h (by decide))
theorem e_great {c : Int} (hc : ib c ≤ 1048600) : ∃ n : Int, F_law_great [.int c] = .ok (.int n) ∧ 1 ≤ n ∧ n.natAbs < 10 ^ 100 := by
  have h1 : IntMulOk c (13 ^ 60) := big (m := 1048600) (n := 250) hc (by decide +kernel)
  have hp : ib ((13 : Int) ^ 60) ≤ 250 := by decide +kernel
  have h2 : IntMulOk (c * 13 ^ 60) (17 ^ 26) := big (m := 1048850) (n := 200) (intBits_mul_le hc hp) (by decide +kernel)
  have h3 : IntMulOk (10 ^ 50) (10 ^ 50) := big (m := 200) (n := 200) (by decide +kernel) (by decide +kernel)
  have h4 : ¬ ((10 : Int) ^ 50 * 10 ^ 50 - 1 = 0) := by decide +kernel
  unfold F_law_great b_law_great
  walk_at "dl"
  rw [show Int.toNat 60 = 60 from rfl, show Int.toNat 26 = 26 from rfl, show Int.toNat 50 = 50 from rfl, if_pos h1, if_pos h2, if_pos h3, if_pos h4]
  have r := fmod_rng (a := c * 13 ^ 60 * 17 ^ 26) (v := (10 : Int) ^ 50 * 10 ^ 50 - 1) (by decide +kernel)
  refine ⟨_, rfl, ?_, ?_⟩
  · omega
  · have e : ((10 : Int) ^ 50 * 10 ^ 50 - 1) + 1 = ((10 ^ 100 : Nat) : Int) := by decide +kernel
    omega
noncomputable def lsTail : M Fl := (sq (mAsg 4 (ret (.int 1)))
  (sq (mIf (bOr (bnd (m2 (mVar 2) (ret (.int 1)) mEq) mB) (bnd (m2 (mVar 2) (ret (.int 5)) mEq) mB)) (mAsg 3 (m2 (m2 (ret (.int 1)) (m2 (ret (.int 2)) (m2 (m2 (mVar 0) (ret (.int 8)) (g2i iDiv)) (ret (.int 2)) (g2i iMod)) (g2i iMul)) (g2i iSub)) (mCall (aCons (m2 (mVar 0) (ret (.int 16)) (g2i iDiv)) aNil) F_law_great) (g2i iMul))) nx)
  (sq (mIf (bOr (bnd (m2 (mVar 2) (ret (.int 2)) mEq) mB) (bOr (bnd (m2 (mVar 2) (ret (.int 3)) mEq) mB) (bnd (m2 (mVar 2) (ret (.int 4)) mEq) mB))) (mAsg 4 (m2 (ret (.int 1)) (m2 (mVar 1) (ret (.int 24)) (g2i iMod)) mAdd)) nx)
  (sq (mIf (bOr (bnd (m2 (mVar 2) (ret (.int 5)) mEq) mB) (bnd (m2 (mVar 2) (ret (.int 7)) mEq) mB)) (mAsg 4 (mCall (aCons (mVar 1) aNil) F_law_great)) nx)
  (sq (mAsg 5 (mCall (aCons (mVar 3) (aCons (mVar 4) aNil)) F_law_common))
  (mRet (mTup (aCons (m2 (mVar 3) (mVar 5) (g2i iDiv)) (aCons (m2 (mVar 4) (mVar 5) (g2i iDiv)) aNil)))))))))
theorem sh_low (t b : Int) (ht : t.natAbs < 10 ^ 100) (hb : 1 ≤ b) (hb2 : b.natAbs < 10 ^ 100) : DivOk (gd t b) ∧ ShOk (t.fdiv (gd t b), b.fdiv (gd t b)) := by
  revert t b
  intro t b ht hb hb2
  have g0 : gd t b ≠ 0 := fun z => by have := (gd_zero z).2; omega
  have gp : 0 < gd t b := by have := gd_nonneg t b; omega
  have e1 := mul_div_of g0 (gd_l t b)
  have e2 := mul_div_of g0 (gd_r t b)
  refine ⟨divOk_of g0 (ib_dvd (gd_r t b) (by omega) (ib_100 hb2)) (by decide), ?_, ?_, ?_, ?_⟩
  · show (t.fdiv (gd t b)).natAbs < _
    by_cases t0 : t = 0
    · rw [t0, Int.zero_fdiv]; decide
    · refine Nat.lt_of_le_of_lt (dvd_le (a := t.fdiv (gd t b)) (b := t) ⟨gd t b, by rw [Int.mul_comm]; exact e1.symm⟩ t0) ht
  · show 1 ≤ b.fdiv (gd t b)
    rcases Int.lt_or_le (b.fdiv (gd t b)) 1 with h | h
    · have := Int.mul_nonneg (Int.le_of_lt gp) (show 0 ≤ -(b.fdiv (gd t b)) by omega)
      rw [Int.mul_neg] at this
      omega
    · exact h
  · show (b.fdiv (gd t b)).natAbs < _
    exact Nat.lt_of_le_of_lt (dvd_le (a := b.fdiv (gd t b)) (b := b) ⟨gd t b, by rw [Int.mul_comm]; exact e2.symm⟩ (by omega)) hb2
  · show Nat.gcd (t.fdiv (gd t b)).natAbs (b.fdiv (gd t b)).natAbs = 1
    have n1 : t.natAbs = (gd t b).natAbs * (t.fdiv (gd t b)).natAbs := by rw [← Int.natAbs_mul, e1]
    have n2 : b.natAbs = (gd t b).natAbs * (b.fdiv (gd t b)).natAbs := by rw [← Int.natAbs_mul, e2]
    have n3 : (gd t b).natAbs = Nat.gcd t.natAbs b.natAbs := by unfold gd; rw [Int.natAbs_natCast]
    have n4 : Nat.gcd t.natAbs b.natAbs = (gd t b).natAbs * Nat.gcd (t.fdiv (gd t b)).natAbs (b.fdiv (gd t b)).natAbs := by
      rw [← Nat.gcd_mul_left, ← n1, ← n2]
    rw [← n3] at n4
    have : (gd t b).natAbs * 1 = (gd t b).natAbs * Nat.gcd (t.fdiv (gd t b)).natAbs (b.fdiv (gd t b)).natAbs := by rw [Nat.mul_one]; exact n4
    exact (Nat.eq_of_mul_eq_mul_left (by omega) this).symm

theorem e_lsT {c o t : Int} (hc : ib c ≤ 1048580) (ho : ib o ≤ 1048590) (ht : t.natAbs < 10 ^ 100) (w : Int) (hw : w = 0 ∨ w = 1 ∨ w = 2 ∨ w = 3 ∨ w = 4 ∨ w = 5 ∨ w = 6 ∨ w = 7) : ∃ p : Shr, rF (lsTail [.val (.int c), .val (.int o), .val (.int w), .val (.int t), .no, .no]) = .ok (shD p) ∧ ShOk p := by
  obtain ⟨g1, eg1, p1, q1⟩ := e_great (c := c.fdiv 16) (Nat.le_trans (intBits_fdiv_le hc) (by decide))
  obtain ⟨g2, eg2, p2, q2⟩ := e_great (c := o) (Nat.le_trans ho (by decide))
  have m2' := fmod_rng (a := c.fdiv 8) (v := 2) (by decide)
  have m24 := fmod_rng (a := o) (v := 24) (by decide)
  have key : ∀ t b : Int, t.natAbs < 10 ^ 100 → 1 ≤ b → b.natAbs < 10 ^ 100 → ∃ p : Shr, (if DivOk (gd t b) then (if DivOk (gd t b) then Rs.ok (D.tup [.int (t.fdiv (gd t b)), .int (b.fdiv (gd t b))]) else rF Res.stuck) else rF Res.stuck) = .ok (shD p) ∧ ShOk p := fun t b h1 h2 h3 => by
    obtain ⟨a, b⟩ := sh_low t b h1 h2 h3
    rw [if_pos a, if_pos a]
    exact ⟨_, rfl, b⟩
  have hs : (1 - 2 * (c.fdiv 8).fmod 2) = 1 ∨ (1 - 2 * (c.fdiv 8).fmod 2) = -1 := by omega
  have hm : IntMulOk 2 ((c.fdiv 8).fmod 2) := by
    rcases (show (c.fdiv 8).fmod 2 = 0 ∨ (c.fdiv 8).fmod 2 = 1 by omega) with h | h <;> rw [h] <;> exact mi (m := 4) (n := 4) (by decide) (by decide)
  have hm2 : IntMulOk (1 - 2 * (c.fdiv 8).fmod 2) g1 := by
    rcases hs with h | h <;> rw [h] <;> exact mi (m := 4) (n := 340) (by decide) (ib_100 q1)
  have ht2 : ((1 - 2 * (c.fdiv 8).fmod 2) * g1).natAbs < 10 ^ 100 := by
    rcases hs with h | h <;> rw [h]
    · rw [Int.one_mul]; exact q1
    · rw [Int.neg_one_mul, Int.natAbs_neg]; exact q1
  unfold lsTail
  have n7 : 7 + 1 = 8 := rfl
  rcases hw with rfl | rfl | rfl | rfl | rfl | rfl | rfl | rfl
  · walk_at "dl"
    rw [if_neg (by decide), if_neg (by decide), if_neg (by decide), if_neg (by decide), if_neg (by decide), if_neg (by decide), if_neg (by decide), e_common]
    walk_at "dl"
    exact key t 1 ht (by decide) (by decide)
  all_goals
    walk_at "dl"
    repeat first | rw [if_neg (by decide)] | rw [if_pos hm] | (rw [eg1]; walk_at "dl") | (rw [if_pos hm2]; walk_at "dl") | (rw [eg2]; walk_at "dl") | (rw [e_common]; walk_at "dl")
  · exact key _ 1 ht2 (by decide) (by decide)
  · exact key t _ ht (by omega) (by omega)
  · exact key t _ ht (by omega) (by omega)
  · exact key t _ ht (by omega) (by omega)
  · exact key _ g2 ht2 p2 q2
  · exact key t 1 ht (by decide) (by decide)
  · exact key t g2 ht p2 q2
theorem e_lshare {c o : Int} (hc : ib c ≤ 1048580) (ho : ib o ≤ 1048590) : ∃ p : Shr, F_law_share [.int c, .int o] = .ok (shD p) ∧ ShOk p := by
  have m31 := fmod_rng (a := c.fdiv 8 + 15) (v := 31) (by decide)
  have m8 := fmod_rng (a := c) (v := 8) (by decide)
  unfold F_law_share
  rw [show b_law_share = (sq (mAsg 2 (m2 (mVar 0) (ret (.int 8)) (g2i iMod)))
  (sq (mAsg 3 (m2 (m2 (m2 (m2 (mVar 0) (ret (.int 8)) (g2i iDiv)) (ret (.int 15)) mAdd) (ret (.int 31)) (g2i iMod)) (ret (.int 15)) (g2i iSub)))
  lsTail)) from rfl]
  walk_at "dl"
  exact e_lsT hc ho (by omega) _ (by omega)
theorem e_word {p : Shr} (hp : ShOk p) : F_law_word [shD p] = .ok (.str (wS p)) := by
  have s1 := strI_ok (i := ((p.1.natAbs : Nat) : Int)) (by rw [Int.natAbs_natCast]; exact hp.1)
  have s2 := strI_ok (i := ((p.2.natAbs : Nat) : Int)) (by rw [Int.natAbs_natCast]; exact hp.2.2.1)
  have l1 := numS_len hp.1
  have l2 := numS_len hp.2.2.1
  have h2 := hp.2.1
  have e2 : p.2 = ((p.2.natAbs : Nat) : Int) := by omega
  have lw := (wN_ok hp).2
  rw [← sign_wd p]
  unfold F_law_word b_law_word
  walk_at "dl"
  rw [iAbs_eq, if_pos s1, num_str]
  walk_at "dl"
  by_cases c : 1 < p.2
  · rw [if_pos c]
    rw [e2, if_pos s2, num_str]
    walk_at "dl"
    rw [if_pos (sz_of (by show _ + 1 ≤ _; omega)), if_pos (sz_of (by rw [ylen_app]; show _ + 1 + _ ≤ _; omega))]
    rw [Int.natAbs_natCast, wd_cat _ _ (by omega)]
    by_cases n : p.1 < 0
    · rw [if_pos n, if_pos n, if_pos (sz_of (by show 1 + _ ≤ _; omega))]
    · rw [if_neg n, if_neg n]
  · rw [if_neg c]
    have ew : wdN p.1.natAbs p.2.natAbs = TL.numL p.1.natAbs := by unfold wdN; rw [if_neg (by omega)]
    rw [ew]
    by_cases n : p.1 < 0
    · rw [if_pos n, if_pos n, if_pos (sz_of (by show 1 + _ ≤ _; omega))]
    · rw [if_neg n, if_neg n]
/-- the drawn places' text is read back -/
theorem pcL_join {ps : List Shr} (hp : ∀ p ∈ ps, ShOk p) (hl : ps.length = 2 ∨ ps.length = 3) : pcL (SX.S (TL.joinL [44] (ps.map wdL))).cps.toList = some ps := by
  show pcL (TL.joinL [44] (ps.map wdL)) = some ps
  have e : TL.spl [44] 0 [] (TL.joinL [44] (ps.map wdL)) = ps.map wdL := SX.spl_join (fun q => by
    have := List.map_eq_nil_iff.mp q
    rw [this] at hl
    simp at hl) fun w m => by
      obtain ⟨p, _, rfl⟩ := List.mem_map.mp m
      exact wdL_free
  unfold pcL
  rw [e, List.length_map, if_pos hl, rdA_wd hp]
/-! the other text -/
def odd : List Str := ["", ",", "0", "0,0,0,0", "0,-0", "0,00", "1,", " 1,2", "1/1,0", "2/4,0", "0/3,0", "1/-2,0", "+1,0", "--1,0", "1/2/3,0", "1/0,0", "01,0", "1.5,0", "x,y", "1/02,5", "1_0,0", "1\t,0"]
theorem odd_ok : ∀ s ∈ odd, tOk 20 s := fun s h => by
  have : odd.all (fun s => PyData.strOk s && decide (s.length ≤ 20)) = true := by decide +kernel
  have := List.all_eq_true.mp this s h
  rw [Bool.and_eq_true, decide_eq_true_eq] at this
  exact this
theorem strs_at {ys : List Str} {q : Int} (h : 0 ≤ q ∧ q < ys.length) : ∃ y, atI (ys.map D.str) q = some (.str y) ∧ y ∈ ys := by
  obtain ⟨n, rfl⟩ := Int.eq_ofNat_of_zero_le h.1
  have hn : n < ys.length := by omega
  exact ⟨ys[n], atI_map h.1 (by rw [show ((n : Nat) : Int).toNat = n by omega]; exact List.getElem?_eq_getElem hn), List.getElem_mem hn⟩
theorem sign_at {z : Str} {q : Int} (h : 0 ≤ q ∧ q < z.length) : ∃ c, atI z.cps.toList q = some c ∧ c ∈ z.cps.toList := by
  obtain ⟨n, rfl⟩ := Int.eq_ofNat_of_zero_le h.1
  have hn : n < z.cps.toList.length := by
    have : z.cps.toList.length = z.length := rfl
    omega
  exact ⟨_, atI_nat (List.getElem?_eq_getElem hn), List.getElem_mem hn⟩
theorem ad4 (q : Int) : ∃ r, atI [D.int 0, .int 1, .int 0, .int 1] (q.fmod 4) = some (.int r) := by
  have h := fmod_rng (a := q) (v := 4) (by decide)
  generalize q.fmod 4 = r at h
  have : r = 0 ∨ r = 1 ∨ r = 2 ∨ r = 3 := by omega
  rcases this with rfl | rfl | rfl | rfl
  · exact ⟨_, at0⟩
  · exact ⟨_, at1⟩
  · exact ⟨_, at2⟩
  · exact ⟨_, at3⟩
theorem tok_cut {m : Nat} {z : Str} (h : tOk m z) (lo hi : Option Int) : tOk m (cutS z lo hi) := by
  refine ⟨?_, Nat.le_trans (cutS_length z lo hi) h.2⟩
  rw [ystrOk_iff]
  intro c hc
  unfold cutS at hc
  simp only [] at hc
  exact ystrOk_iff.mp h.1 c (List.mem_of_mem_drop (List.mem_of_mem_take (by simpa using hc)))
theorem e_other {t : Str} {c g : Int} (tx : tOk 700 t) : ∃ z, F_law_other [.str t, .int c, .int g] = .ok (.str z) ∧ tOk 2000 z := by
  have so : tOk 25 (Str.ofString "0123456789,-/+ x_\n\t") := ⟨by decide +kernel, by decide⟩
  have tl : t.length ≤ sizeLine := Nat.le_trans tx.2 (by decide)
  obtain ⟨y0, a0, b0⟩ := strs_at (ys := odd) (q := (c.fdiv 4).fmod 22) (fmod_rng (by decide))
  obtain ⟨k, a2, b2⟩ := sign_at (z := Str.ofString "0123456789,-/+ x_\n\t") (q := g.fmod 19) (fmod_rng (by decide))
  obtain ⟨r, a3⟩ := ad4 c
  have tn : ¬ ((t.length : Nat) : Int) + 1 = 0 := by omega
  have o1 := tok_one so b2
  have o2 := tok_cut tx none (some ((c.fdiv 4).fmod (t.length + 1)))
  have o3 := tok_cut tx (some ((c.fdiv 4).fmod (t.length + 1) + r)) none
  have o4 : tOk 0 (Str.ofString "") := ⟨by decide +kernel, by decide⟩
  have l1 := o1.2
  have l2 := o2.2
  have l3 := o3.2
  unfold F_law_other b_law_other
  walk_at "dl"
  rw [if_pos (sz_of (by decide)), if_pos (sz_of (by decide)), if_pos (sz_of (by decide))]
  by_cases q0 : c.fmod 4 = 0
  · have a0' := a0
    unfold odd at a0'
    simp only [List.map_cons, List.map_nil] at a0'
    rw [if_pos q0, a0']
    walk_at "dl"
    exact ⟨y0, rfl, (odd_ok y0 b0).mono (by decide)⟩
  rw [if_neg q0]
  rw [if_pos tl, if_pos tn, if_pos (Nat.le_trans so.2 (by decide)), a2, Option.map_some]
  walk_at "dl"
  by_cases q1 : c.fmod 4 = 1
  · have l4 := o4.2
    rw [if_pos q1]
    walk_at "dl"
    rw [if_pos tl, if_pos (sz_of (by omega)), a3]
    walk_at "dl"
    rw [if_pos tl]
    walk_at "dl"
    rw [if_pos (sz_of (by rw [Str.length_append]; omega))]
    exact ⟨_, rfl, ((o2.app o4).app o3).mono (by decide)⟩
  · rw [if_neg q1]
    walk_at "dl"
    rw [if_pos tl, if_pos (sz_of (by omega)), a3]
    walk_at "dl"
    rw [if_pos tl]
    walk_at "dl"
    rw [if_pos (sz_of (by rw [Str.length_append]; omega))]
    exact ⟨_, rfl, ((o2.app o1).app o3).mono (by decide)⟩
/-! the law -/
def cellOf (ns : List Int) (k : Int) : Int := if k < ns.length then ns.getD k.toNat 0 else 0
theorem e_cell (ns : List Int) (k : Int) (h : 0 ≤ k) : F_law_cell_at [.lst (ns.map .int), .int k] = .ok (.int (cellOf ns k)) := by
  unfold F_law_cell_at b_law_cell_at cellOf
  walk_at "dl"
  split
  · rename_i h1
    rw [atI_ints h h1]
    walk_at "dl"
  · rfl
theorem cell_bits {ns : List Int} (hb : ∀ z ∈ ns, Builtin.Int.intBits z ≤ 1048576) (k : Int) : ib (cellOf ns k) ≤ 1048576 := by
  unfold cellOf
  split
  · rw [List.getD_eq_getElem?_getD]
    cases q : ns[k.toNat]? with
    | none => exact (by decide : ib 0 ≤ 1048576)
    | some z => exact hb z (List.mem_of_getElem? q)
  · exact (by decide : ib 0 ≤ 1048576)
abbrev cl7 (ns : List Int) (a : Int) : D := .lst [.int (cellOf ns (a + 0)), .int (cellOf ns (a + 1)), .int (cellOf ns (a + 2)), .int (cellOf ns (a + 3)), .int (cellOf ns (a + 4)), .int (cellOf ns (a + 5)), .int (cellOf ns (a + 6))]
theorem lc_cells {ns : List Int} {at_ : Int} (h0 : 0 ≤ at_) (x2 x4 x5 x6 : Sl) : (mLc [3] (mRng1 (aCons (ret (.int 7)) aNil)) (gN 3) (ret true) (mCall (aCons (mVar 0) (aCons (m2 (mVar 1) (mVar 3) mAdd) aNil)) F_law_cell_at)) [.val (iL ns), .val (.int at_), x2, .no, x4, x5, x6] = .ok (cl7 ns at_) [.val (iL ns), .val (.int at_), x2, .no, x4, x5, x6] := by
  have h := mLc_rng (vs := [3]) (fi := (mRng1 (aCons (ret (.int 7)) aNil))) (g := gN 3) (el := (mCall (aCons (mVar 0) (aCons (m2 (mVar 1) (mVar 3) mAdd) aNil)) F_law_cell_at)) (e := [.val (iL ns), .val (.int at_), x2, .no, x4, x5, x6]) (e0 := [.val (iL ns), .val (.int at_), x2, .no, x4, x5, x6]) (m := 7) (fun k => cellOf ns (at_ + (k : Int))) (by
    walk_at "dl"
    rw [if_pos (by decide)]
    rfl) rfl rfl (by decide) fun k hk => ⟨_, _, rfl, by
      walk_at "dl"
      rw [show F_law_cell_at [iL ns, .int (at_ + (k : Int))] = _ from e_cell ns _ (by omega)]
      walk_at "dl"
      rfl, by rfl⟩
  exact h
theorem mem_rng7 {d : D} {n : Nat} (h : d ∈ rng3D 0 7 n) : ∃ at_ : Int, 0 ≤ at_ ∧ d = .int at_ := by
  unfold rng3D at h
  obtain ⟨k, _, rfl⟩ := List.mem_map.mp h
  exact ⟨_, by omega, rfl⟩
theorem lc_shares {ns : List Int} (hb : ∀ z ∈ ns, Builtin.Int.intBits z ≤ 1048576) (at_ : Int) (x4 x5 x6 : Sl) : ∃ ps : List Shr, (mLc [3] (mRng1 (aCons (m2 (ret (.int 2)) (m2 (mIxN 2 (ret (.int 4))) (ret (.int 2)) (g2i iMod)) mAdd) aNil)) (gN 3) (ret true) (mCall (aCons (mIxN 2 (mVar 3)) (aCons (m2 (m2 (mIxN 2 (ret (.int 3))) (m2 (mVar 3) (ret (.int 1)) mAdd) (g2i iMul)) (mVar 3) mAdd) aNil)) F_law_share)) [.val (iL ns), .val (.int at_), .val (cl7 ns at_), .no, x4, x5, x6] = .ok (.lst (ps.map shD)) [.val (iL ns), .val (.int at_), .val (cl7 ns at_), .no, x4, x5, x6] ∧ (ps.length = 2 ∨ ps.length = 3) ∧ ∀ p ∈ ps, ShOk p := by
  have S : ∀ k : Nat, ∃ p : Shr, k < 3 → F_law_share [.int (cellOf ns (at_ + (k : Int))), .int (cellOf ns (at_ + 3) * ((k : Int) + 1) + (k : Int))] = .ok (shD p) ∧ ShOk p := fun k => by
    by_cases hk : k < 3
    · obtain ⟨p, h⟩ := e_lshare (c := cellOf ns (at_ + (k : Int))) (o := cellOf ns (at_ + 3) * ((k : Int) + 1) + (k : Int)) (Nat.le_trans (cell_bits hb _) (by decide)) (by
        have k1 : ib ((k : Int) + 1) ≤ 3 := ib_of (by omega)
        have k2 : ib (k : Int) ≤ 3 := ib_of (by omega)
        have := intBits_add_le (intBits_mul_le (cell_bits hb (at_ + 3)) k1) k2
        exact Nat.le_trans this (by decide))
      exact ⟨p, fun _ => h⟩
    · exact ⟨(0, 1), fun z => absurd z hk⟩
  obtain ⟨f, hf⟩ := Classical.axiomOfChoice S
  have m2' := fmod_rng (a := cellOf ns (at_ + 4)) (v := 2) (by decide)
  obtain ⟨m, hm⟩ := Int.eq_ofNat_of_zero_le (show 0 ≤ 2 + (cellOf ns (at_ + 4)).fmod 2 by omega)
  refine ⟨(List.range m).map f, ?_, by rw [List.length_map, List.length_range]; omega, fun p h => ?_⟩
  · have h := mLc_rngD (vs := [3]) (fi := (mRng1 (aCons (m2 (ret (.int 2)) (m2 (mIxN 2 (ret (.int 4))) (ret (.int 2)) (g2i iMod)) mAdd) aNil))) (g := gN 3) (el := (mCall (aCons (mIxN 2 (mVar 3)) (aCons (m2 (m2 (mIxN 2 (ret (.int 3))) (m2 (mVar 3) (ret (.int 1)) mAdd) (g2i iMul)) (mVar 3) mAdd) aNil)) F_law_share)) (e := [.val (iL ns), .val (.int at_), .val (cl7 ns at_), .no, x4, x5, x6]) (e0 := [.val (iL ns), .val (.int at_), .val (cl7 ns at_), .no, x4, x5, x6]) (m := m) (fun k => shD (f k)) (by
      walk_at "dl"
      rw [hm]
      rw [if_pos (by unfold rOk; omega)]
      walk_at "dl"
      rw [show ((m : Nat) : Int).toNat = m by omega]) rfl rfl (le_size (by omega)) fun k hk => ⟨_, _, rfl, by
        have k1 : ib ((k : Int) + 1) ≤ 3 := ib_of (by omega)
        have ha : atI [D.int (cellOf ns (at_ + 0)), .int (cellOf ns (at_ + 1)), .int (cellOf ns (at_ + 2)), .int (cellOf ns (at_ + 3)), .int (cellOf ns (at_ + 4)), .int (cellOf ns (at_ + 5)), .int (cellOf ns (at_ + 6))] (k : Int) = some (.int (cellOf ns (at_ + (k : Int)))) := by
          rcases (show k = 0 ∨ k = 1 ∨ k = 2 by omega) with rfl | rfl | rfl <;> exact atI_nat rfl
        walk_at "dl"
        rw [ha]
        walk_at "dl"
        rw [if_pos (big (m := 1048576) (n := 3) (cell_bits hb _) k1)]
        walk_at "dl"
        rw [(hf k (by omega)).1]
        rfl, by rfl⟩
    rw [List.map_map]
    exact h
  · obtain ⟨k, hk, rfl⟩ := List.mem_map.mp h
    have := List.mem_range.mp hk
    exact (hf k (by omega)).2
theorem lc_words {ps : List Shr} (hp : ∀ p ∈ ps, ShOk p) (hl : ps.length ≤ 3) (x0 x1 x2 x5 : Sl) : (mLc [6] (mSeq (mVar 4)) (gN 6) (ret true) (mCall (aCons (mVar 6) aNil) F_law_word)) [x0, x1, x2, .no, .val (.lst (ps.map shD)), x5, .no] = .ok (.lst ((ps.map wS).map .str)) [x0, x1, x2, .no, .val (.lst (ps.map shD)), x5, .no] := by
  have h := mLc_gen (vs := [6]) (fi := mSeq (mVar 4)) (g := gN 6) (el := (mCall (aCons (mVar 6) aNil) F_law_word)) (e := [x0, x1, x2, .no, .val (.lst (ps.map shD)), x5, .no]) (e0 := [x0, x1, x2, .no, .val (.lst (ps.map shD)), x5, .no]) ps shD (fun p => .str (wS p)) (by walk_at "dl") rfl rfl (le_size (by omega)) fun p m => ⟨_, _, rfl, by
    walk_at "dl"
    rw [e_word (hp p m)]
    rfl, by rfl⟩
  rw [List.map_map]
  exact h
theorem lap {ns : List Int} (hb : ∀ z ∈ ns, Builtin.Int.intBits z ≤ 1048576) {at_ : Int} (h0 : 0 ≤ at_) (x2 x4 x5 : Sl) : ∃ y4 y5, (sq (mAsg 2 (mLc [3] (mRng1 (aCons (ret (.int 7)) aNil)) (gN 3) (ret true) (mCall (aCons (mVar 0) (aCons (m2 (mVar 1) (mVar 3) mAdd) aNil)) F_law_cell_at)))
  (sq (mAsg 4 (mLc [3] (mRng1 (aCons (m2 (ret (.int 2)) (m2 (mIxN 2 (ret (.int 4))) (ret (.int 2)) (g2i iMod)) mAdd) aNil)) (gN 3) (ret true) (mCall (aCons (mIxN 2 (mVar 3)) (aCons (m2 (m2 (mIxN 2 (ret (.int 3))) (m2 (mVar 3) (ret (.int 1)) mAdd) (g2i iMul)) (mVar 3) mAdd) aNil)) F_law_share)))
  (sq (mAsg 5 (bnd (ret (.str ",")) (xStr fun s => bnd (mLc [6] (mSeq (mVar 4)) (gN 6) (ret true) (mCall (aCons (mVar 6) aNil) F_law_word)) (dJoin s))))
  (sq (mIf (bOr (bnd (m2 (mCall (aCons (mVar 5) aNil) F_law_due) (mCall (aCons (mVar 4) aNil) F_law_place) mNe) mB) (bNot (bnd (mCall (aCons (mVar 5) aNil) F_law_right) mTru))) (mRet (ret (.bl false))) nx)
  (mIf (bNot (bnd (mCall (aCons (mCall (aCons (mVar 5) (aCons (mIxN 2 (ret (.int 5))) (aCons (mIxN 2 (ret (.int 6))) aNil))) F_law_other) aNil) F_law_right) mTru)) (mRet (ret (.bl false))) nx))))) [.val (iL ns), .val (.int at_), x2, .no, x4, x5, .no] = .ok .nx [.val (iL ns), .val (.int at_), .val (cl7 ns at_), .no, y4, y5, .no] := by
  have l1 := lc_cells (ns := ns) h0 x2 x4 x5 .no
  obtain ⟨ps, l2, hl, hp⟩ := lc_shares hb at_ x4 x5 .no
  have l3 := lc_words hp (by omega) (.val (iL ns)) (.val (.int at_)) (.val (cl7 ns at_)) x5
  have jo : joinOk (Str.ofString ",") (ps.map wS) := joinOk_of (m := 202) (fun y m => by
    obtain ⟨p, hp', rfl⟩ := List.mem_map.mp m
    exact (wS_ok (hp p hp')).2) (by rw [List.length_map]; omega) (by decide) (by decide)
  have tx : tOk 700 (SX.S (TL.joinL [44] (ps.map wdL))) := by
    rw [← join_wS, yjoin_eq]
    refine (tOk_join (m := 202) (tOk_of "," (m := 1) (by decide)) (ps.map wS) fun y m => ?_).mono (by rw [List.length_map]; omega)
    obtain ⟨p, hp', rfl⟩ := List.mem_map.mp m
    exact wS_ok (hp p hp')
  have e1 := e_due (tx.mono (n := 2000) (by decide))
  rw [pcL_join hp hl] at e1
  have e2 := e_lplace hp (by omega)
  have e3 := e_right (tx.mono (n := 2000) (by decide))
  obtain ⟨z, z1, z2⟩ := e_other (c := cellOf ns (at_ + 5)) (g := cellOf ns (at_ + 6)) tx
  have e4 := e_right z2
  have pq := pl_pl ps
  refine ⟨.val (.lst (ps.map shD)), .val (.str (SX.S (TL.joinL [44] (ps.map wdL)))), ?_⟩
  walk_at "dl"
  rw [l1]
  walk_at "dl"
  rw [l2]
  walk_at "dl"
  rw [l3]
  walk_at "dl"
  rw [if_pos jo, join_wS]
  walk_at "dl"
  rw [e1]
  walk_at "dl"
  rw [e2]
  walk_at "dl"
  have pq : D.pl 2 (.tup [iT (tS ps), .int (uS ps)]) = true := pq
  rw [if_pos (eqOk_pl pq pq), deq_self pq]
  walk_at "dl"
  rw [e3]
  walk_at "dl"
  rw [z1]
  walk_at "dl"
  rw [e4]
  walk_at "dl"
theorem rg_ok : ∀ j : Fin 64, RgC 0 ((j : Nat) : Int) 7 (Builtin.Range.rangeSize 0 ((j : Nat) : Int) 7).toNat := by decide +kernel
theorem law_true (ns : List Int) (hl : ns.length ≤ 63) (hb : ∀ z ∈ ns, Builtin.Int.intBits z ≤ 1048576) : F_law [.lst (ns.map .int)] = .ok (.bl true) := by
  obtain ⟨j, hj, ej⟩ : ∃ j : Nat, j < 64 ∧ (if (ns.length : Int) > 1 then (ns.length : Int) else 1) = (j : Int) := by
    by_cases h : (ns.length : Int) > 1
    · exact ⟨ns.length, by omega, if_pos h⟩
    · exact ⟨1, by omega, if_neg h⟩
  have H : ∀ d ∈ rng3D 0 7 (Builtin.Range.rangeSize 0 (j : Int) 7).toNat, ∀ e, (∃ x1 x2 x4 x5, e = [Sl.val (iL ns), x1, x2, .no, x4, x5, .no]) → ∃ e1 e2, gN 1 d e = .ok () e1 ∧ ((sq (mAsg 2 (mLc [3] (mRng1 (aCons (ret (.int 7)) aNil)) (gN 3) (ret true) (mCall (aCons (mVar 0) (aCons (m2 (mVar 1) (mVar 3) mAdd) aNil)) F_law_cell_at)))
  (sq (mAsg 4 (mLc [3] (mRng1 (aCons (m2 (ret (.int 2)) (m2 (mIxN 2 (ret (.int 4))) (ret (.int 2)) (g2i iMod)) mAdd) aNil)) (gN 3) (ret true) (mCall (aCons (mIxN 2 (mVar 3)) (aCons (m2 (m2 (mIxN 2 (ret (.int 3))) (m2 (mVar 3) (ret (.int 1)) mAdd) (g2i iMul)) (mVar 3) mAdd) aNil)) F_law_share)))
  (sq (mAsg 5 (bnd (ret (.str ",")) (xStr fun s => bnd (mLc [6] (mSeq (mVar 4)) (gN 6) (ret true) (mCall (aCons (mVar 6) aNil) F_law_word)) (dJoin s))))
  (sq (mIf (bOr (bnd (m2 (mCall (aCons (mVar 5) aNil) F_law_due) (mCall (aCons (mVar 4) aNil) F_law_place) mNe) mB) (bNot (bnd (mCall (aCons (mVar 5) aNil) F_law_right) mTru))) (mRet (ret (.bl false))) nx)
  (mIf (bNot (bnd (mCall (aCons (mCall (aCons (mVar 5) (aCons (mIxN 2 (ret (.int 5))) (aCons (mIxN 2 (ret (.int 6))) aNil))) F_law_other) aNil) F_law_right) mTru)) (mRet (ret (.bl false))) nx))))) e1 = .ok .nx e2 ∨ (sq (mAsg 2 (mLc [3] (mRng1 (aCons (ret (.int 7)) aNil)) (gN 3) (ret true) (mCall (aCons (mVar 0) (aCons (m2 (mVar 1) (mVar 3) mAdd) aNil)) F_law_cell_at)))
  (sq (mAsg 4 (mLc [3] (mRng1 (aCons (m2 (ret (.int 2)) (m2 (mIxN 2 (ret (.int 4))) (ret (.int 2)) (g2i iMod)) mAdd) aNil)) (gN 3) (ret true) (mCall (aCons (mIxN 2 (mVar 3)) (aCons (m2 (m2 (mIxN 2 (ret (.int 3))) (m2 (mVar 3) (ret (.int 1)) mAdd) (g2i iMul)) (mVar 3) mAdd) aNil)) F_law_share)))
  (sq (mAsg 5 (bnd (ret (.str ",")) (xStr fun s => bnd (mLc [6] (mSeq (mVar 4)) (gN 6) (ret true) (mCall (aCons (mVar 6) aNil) F_law_word)) (dJoin s))))
  (sq (mIf (bOr (bnd (m2 (mCall (aCons (mVar 5) aNil) F_law_due) (mCall (aCons (mVar 4) aNil) F_law_place) mNe) mB) (bNot (bnd (mCall (aCons (mVar 5) aNil) F_law_right) mTru))) (mRet (ret (.bl false))) nx)
  (mIf (bNot (bnd (mCall (aCons (mCall (aCons (mVar 5) (aCons (mIxN 2 (ret (.int 5))) (aCons (mIxN 2 (ret (.int 6))) aNil))) F_law_other) aNil) F_law_right) mTru)) (mRet (ret (.bl false))) nx))))) e1 = .ok .ct e2) ∧ (∃ x1 x2 x4 x5, e2 = [Sl.val (iL ns), x1, x2, .no, x4, x5, .no]) := by
    rintro d hd e ⟨x1, x2, x4, x5, rfl⟩
    obtain ⟨at_, h0, rfl⟩ := mem_rng7 hd
    obtain ⟨y4, y5, h⟩ := lap hb h0 x2 x4 x5
    exact ⟨_, _, rfl, .inl h, _, _, _, _, rfl⟩
  obtain ⟨e', h1, x1, x2, x4, x5, rfl⟩ := forL_inv _ _ H _ ⟨Sl.no, Sl.no, Sl.no, Sl.no, rfl⟩
  unfold F_law b_law
  walk_at "dl"
  rw [ej, if_pos (rg_ok ⟨j, hj⟩)]
  walk_at "dl"
  rw [h1]
  walk_at "dl"
end G_crystalwords_k19_places_written

open PySem PySem.W PyProof.Rows
set_option maxHeartbeats 0 in
theorem PySem.Challenge.cw_crystalwords_k19_places_written_holds : PySem.Challenge.rw_crystalwords_k19_places_written.Holds := by
  w_on; o_law; k_head; (case hw => w_witness2)
  k_fill
  refine L2.walk_ofB (l := PySem.Challenge.rw_crystalwords_k19_places_written) (n := 63) (k := 6) (x := "_law_script") (CX := fun w => L2N.CX (PySem.Challenge.rw_crystalwords_k19_places_written).prog w) (sp := fun w => DL.spL _) rfl (by decide) rfl ⟨rfl, by decide, by decide⟩ (fun w h Y => PySem.W.kIn_of Y) ?F (fun _ _ a ns hl hb _ hS => ⟨a, ns, rfl, hS, hl, hb, fun _ => rfl⟩) (fun w => DL.cx_end (PySem.Challenge.rw_crystalwords_k19_places_written).prog w)
  case F =>
    intro w mg fa h KX G hmg
    refine' G_crystalwords_k19_places_written.all_mk G_crystalwords_k19_places_written.law_true KX G hmg ?a1 ?l1 ?c1 ?k1 ?a2 ?l2 ?c2 ?k2 ?a3 ?l3 ?c3 ?k3 ?a4 ?l4 ?c4 ?k4 ?a5 ?l5 ?c5 ?k5 ?a6 ?l6 ?c6 ?k6 ?a7 ?l7 ?c7 ?k7 ?a8 ?l8 ?c8 ?k8 ?a9 ?l9 ?c9 ?k9 ?a10 ?l10 ?c10 ?k10 ?a11 ?l11 ?c11 ?k11 ?a12 ?l12 ?c12 ?k12 ?a13 ?l13 ?c13 ?k13 ?a14 ?l14 ?c14 ?k14 ?a15 ?l15 ?c15 ?k15 ?a16 ?l16 ?c16 ?k16 ?a17 ?l17 ?c17 ?k17 ?a18 ?l18 ?c18 ?k18 ?a19 ?l19 ?c19 ?k19 ?a20 ?l20 ?c20 ?k20 ?a21 ?l21 ?c21 ?k21 ?a22 ?l22 ?c22 ?k22 ?a23 ?l23 ?c23 ?k23 ?a24 ?l24 ?c24 ?k24 ?e_NoPlace ?e_NoText ?e_NoDeed ?e_NoNumber ?e_TooMany ?e_CrystalError ?ex_NoPlace ?ek_NoPlace ?eb_NoPlace ?et_NoPlace ?hg_NoPlace ?hk_NoPlace ?hd_NoPlace ?ha_NoPlace ?hn_NoPlace ?ht_NoPlace ?hm_NoPlace ?ex_NoText ?ek_NoText ?eb_NoText ?et_NoText ?hg_NoText ?hk_NoText ?hd_NoText ?ha_NoText ?hn_NoText ?ht_NoText ?hm_NoText ?hd_NoDeed ?et_NoDeed ?hd_NoNumber ?et_NoNumber ?hd_TooMany ?et_TooMany ?hd_CrystalError ?et_CrystalError ?eb_CrystalError ?ne_NoPlace_NoDeed ?sb_NoPlace_NoDeed ?ne_NoPlace_NoNumber ?sb_NoPlace_NoNumber ?sb_NoPlace_NoPlace ?ne_NoPlace_NoText ?sb_NoPlace_NoText ?ne_NoPlace_TooMany ?sb_NoPlace_TooMany ?sb_NoPlace_ValueError ?ne_NoPlace_CrystalError ?sb_NoPlace_CrystalError ?ne_NoText_NoDeed ?sb_NoText_NoDeed ?ne_NoText_NoNumber ?sb_NoText_NoNumber ?ne_NoText_NoPlace ?sb_NoText_NoPlace ?sb_NoText_NoText ?ne_NoText_TooMany ?sb_NoText_TooMany ?sb_NoText_ValueError ?ne_NoText_CrystalError ?sb_NoText_CrystalError ?n_FIGURES ?zq_FIGURES ?n_MOST_FIGURES ?n_abs ?n_bool ?n_int ?n_isinstance ?n_len ?n_max ?n_range ?n_str ?n_tuple ?n_ValueError
    (case a1 => k_is); (case l1 => k_is); (case c1 => k_is); (case k1 => k_is); (case a2 => k_is); (case l2 => k_is); (case c2 => k_is); (case k2 => k_is); (case a3 => k_is); (case l3 => k_is); (case c3 => k_is); (case k3 => k_is); (case a4 => k_is); (case l4 => k_is); (case c4 => k_is); (case k4 => k_is); (case a5 => k_is); (case l5 => k_is); (case c5 => k_is); (case k5 => k_is); (case a6 => k_is); (case l6 => k_is); (case c6 => k_is); (case k6 => k_is); (case a7 => k_is); (case l7 => k_is); (case c7 => k_is); (case k7 => k_is); (case a8 => k_is); (case l8 => k_is); (case c8 => k_is); (case k8 => k_is); (case a9 => k_is); (case l9 => k_is); (case c9 => k_is); (case k9 => k_is); (case a10 => k_is); (case l10 => k_is); (case c10 => k_is); (case k10 => k_is); (case a11 => k_is); (case l11 => k_is); (case c11 => k_is); (case k11 => k_is); (case a12 => k_is); (case l12 => k_is); (case c12 => k_is); (case k12 => k_is); (case a13 => k_is); (case l13 => k_is); (case c13 => k_is); (case k13 => k_is); (case a14 => k_is); (case l14 => k_is); (case c14 => k_is); (case k14 => k_is); (case a15 => k_is); (case l15 => k_is); (case c15 => k_is); (case k15 => k_is); (case a16 => k_is); (case l16 => k_is); (case c16 => k_is); (case k16 => k_is); (case a17 => k_is); (case l17 => k_is); (case c17 => k_is); (case k17 => k_is); (case a18 => k_is); (case l18 => k_is); (case c18 => k_is); (case k18 => k_is); (case a19 => k_is); (case l19 => k_is); (case c19 => k_is); (case k19 => k_is); (case a20 => k_is); (case l20 => k_is); (case c20 => k_is); (case k20 => k_is); (case a21 => k_is); (case l21 => k_is); (case c21 => k_is); (case k21 => k_is); (case a22 => k_is); (case l22 => k_is); (case c22 => k_is); (case k22 => k_is); (case a23 => k_is); (case l23 => k_is); (case c23 => k_is); (case k23 => k_is); (case a24 => k_is); (case l24 => k_is); (case c24 => k_is); (case k24 => k_is); (case e_NoPlace => k_is); (case e_NoText => k_is); (case e_NoDeed => k_is); (case e_NoNumber => k_is); (case e_TooMany => k_is); (case e_CrystalError => k_is); (case ex_NoPlace => k_exc); (case ek_NoPlace => k_is); (case eb_NoPlace => k_is); (case et_NoPlace => k_is); (case hg_NoPlace => k_is); (case hk_NoPlace => k_is); (case hd_NoPlace => k_is); (case ha_NoPlace => k_is); (case hn_NoPlace => k_is); (case ht_NoPlace => k_is); (case hm_NoPlace => k_is); (case ex_NoText => k_exc); (case ek_NoText => k_is); (case eb_NoText => k_is); (case et_NoText => k_is); (case hg_NoText => k_is); (case hk_NoText => k_is); (case hd_NoText => k_is); (case ha_NoText => k_is); (case hn_NoText => k_is); (case ht_NoText => k_is); (case hm_NoText => k_is); (case hd_NoDeed => k_is); (case et_NoDeed => k_is); (case hd_NoNumber => k_is); (case et_NoNumber => k_is); (case hd_TooMany => k_is); (case et_TooMany => k_is); (case hd_CrystalError => k_is); (case et_CrystalError => k_is); (case eb_CrystalError => k_is); (case ne_NoPlace_NoDeed => rfl); (case sb_NoPlace_NoDeed => k_is); (case ne_NoPlace_NoNumber => rfl); (case sb_NoPlace_NoNumber => k_is); (case sb_NoPlace_NoPlace => k_is); (case ne_NoPlace_NoText => rfl); (case sb_NoPlace_NoText => k_is); (case ne_NoPlace_TooMany => rfl); (case sb_NoPlace_TooMany => k_is); (case sb_NoPlace_ValueError => k_is); (case ne_NoPlace_CrystalError => rfl); (case sb_NoPlace_CrystalError => k_is); (case ne_NoText_NoDeed => rfl); (case sb_NoText_NoDeed => k_is); (case ne_NoText_NoNumber => rfl); (case sb_NoText_NoNumber => k_is); (case ne_NoText_NoPlace => rfl); (case sb_NoText_NoPlace => k_is); (case sb_NoText_NoText => k_is); (case ne_NoText_TooMany => rfl); (case sb_NoText_TooMany => k_is); (case sb_NoText_ValueError => k_is); (case ne_NoText_CrystalError => rfl); (case sb_NoText_CrystalError => k_is); (case n_FIGURES => k_is); (case zq_FIGURES => (first | rfl | decide +kernel)); (case n_MOST_FIGURES => k_is); (case n_abs => k_is); (case n_bool => k_is); (case n_int => k_is); (case n_isinstance => k_is); (case n_len => k_is); (case n_max => k_is); (case n_range => k_is); (case n_str => k_is); (case n_tuple => k_is); (case n_ValueError => k_is)
