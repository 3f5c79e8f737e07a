import PyProof.Rows.All
import Wide.All
import OpenK.AllK
import Wide.FinOn
import HandS.ForExc
import HandS.ForMost
import HandS.Wide
import HandS.Evl
import HandS.TryOnly
import HandS.SuiteRaise
import HandS.IsInst
import HandS.ExcCtx
import PyProof.NoPylong
import HandS.Zip
import HandS.EndBits
import HandS.ExcIs
import HandS.HotCalls
import HandS.TupAny
import HandS.Text
import HandS.List
import HandS.Iter
import HandS.Deep
import KE.IntBitsLaws
import KE.GoesEnum
import KE.GoesZip
import PyProof.FitsInt
import PySem.Challenge.RW_crystalwords_k23_whole_stairs
set_option Elab.async false
set_option linter.all false
set_option maxRecDepth 100000
/-! DLa: data, what bears it, slots, the state's relation. -/
namespace DL
open PySem PySem.Spec PyProof.Rows L2 Evl

/-- frozen data -/
inductive D where
  | non | bl (b : Bool) | int (i : Int) | str (x : Str) | tup (l : List D) | lst (l : List D)
  | obj (c : Str) (ns : List Str) (vs : List D)
  | opq (a : Addr)
instance : Inhabited D := ⟨.non⟩

mutual
def D.toPy : D → PyData
  | .non => .none | .bl b => .bool b | .int i => .int i | .str x => .str x
  | .tup l => .tuple (D.toPys l) | .lst l => .list (D.toPys l) | .obj _ _ _ => .dict [] | .opq _ => .dict []
def D.toPys : List D → List PyData
  | [] => [] | d :: r => d.toPy :: D.toPys r
end
theorem toPys_map : ∀ l : List D, D.toPys l = l.map D.toPy
  | [] => rfl
  | d :: r => by rw [D.toPys, toPys_map r]; rfl
def deq (d e : D) : Bool := PyData.eqv d.toPy e.toPy
def shp (d : D) : Bool := SeqAt.shaped d.toPy

abbrev MG := Str → Option Value
section
variable (K : PySem.W.Frag) (mg : MG)
mutual
/-- in H the value v is the data d -/
inductive Rp (H : Hp) : V → D → Prop
  | non : Rp H .non .non
  | bl (b : Bool) : Rp H (.bl b) (.bl b)
  | int (i : Int) : Rp H (.int i) (.int i)
  | str (x : Str) : Rp H (.str x) (.str x)
  | tup {a : Addr} {xs : List V} {ds : List D} : SqT K H a xs → Rps H xs ds → Rp H (.ref a) (.tup ds)
  | lst {a : Addr} {xs : List V} {ds : List D} : SqL K H a xs → Rps H xs ds → Rp H (.ref a) (.lst ds)
  | obj {a C dx : Addr} {c : Str} {ns : List Str} {xs : List V} {ds : List D} : H a = some (.ins C dx (ns.zip xs)) → mg c = some (.ref C) → ns.length = xs.length → Rps H xs ds → Rp H (.ref a) (.obj c ns ds)
  | opq (a : Addr) : Rp H (.ref a) (.opq a)
inductive Rps (H : Hp) : List V → List D → Prop
  | nil : Rps H [] []
  | cons {v : V} {vs : List V} {d : D} {ds : List D} : Rp H v d → Rps H vs ds → Rps H (v :: vs) (d :: ds)
end
end
variable {K : PySem.W.Frag} {mg : MG} {H H' H1 H2 Hf Hf' : Hp} {v : V} {d : D} {xs vs : List V} {ds : List D} {σ σ' : L2.St}

mutual
theorem Rp.mono (e : Ex H H') : ∀ {v : V} {d : D}, Rp K mg H v d → Rp K mg H' v d
  | _, _, .non => .non
  | _, _, .bl b => .bl b
  | _, _, .int i => .int i
  | _, _, .str x => .str x
  | _, _, .tup h r => .tup (ex_t e h) (Rps.mono e r)
  | _, _, .lst h r => .lst (ex_l e h) (Rps.mono e r)
  | _, _, .obj h c l r => .obj (e _ _ h) c l (Rps.mono e r)
  | _, _, .opq a => .opq a
theorem Rps.mono (e : Ex H H') : ∀ {v : List V} {d : List D}, Rps K mg H v d → Rps K mg H' v d
  | _, _, .nil => .nil
  | _, _, .cons h r => .cons (Rp.mono e h) (Rps.mono e r)
end
theorem Rps.length : ∀ {xs : List V} {ds : List D}, Rps K mg H xs ds → xs.length = ds.length
  | _, _, .nil => rfl
  | _, _, .cons _ r => congrArg (· + 1) (Rps.length r)
theorem Rps.get : ∀ {xs : List V} {ds : List D} {i : Nat} {d : D}, Rps K mg H xs ds → ds[i]? = some d → ∃ x, xs[i]? = some x ∧ Rp K mg H x d
  | _, _, _, _, .nil, e => by simp at e
  | _, _, 0, _, .cons r _, e => by simp at e; subst e; exact ⟨_, rfl, r⟩
  | _, _, i + 1, d, .cons _ t, e => by
    obtain ⟨u, h1, h2⟩ := Rps.get (i := i) (d := d) t (by simpa using e)
    exact ⟨u, by simpa using h1, h2⟩
theorem Rps.getV : ∀ {xs : List V} {ds : List D} {i : Nat} {x : V}, Rps K mg H xs ds → xs[i]? = some x → ∃ d, ds[i]? = some d ∧ Rp K mg H x d
  | _, _, _, _, .nil, e => by simp at e
  | _, _, 0, _, .cons r _, e => by simp at e; subst e; exact ⟨_, rfl, r⟩
  | _, _, i + 1, d, .cons _ t, e => by
    obtain ⟨u, h1, h2⟩ := Rps.getV (i := i) (x := d) t (by simpa using e)
    exact ⟨u, by simpa using h1, h2⟩
theorem Rps.append : ∀ {xs ys : List V} {ds es : List D}, Rps K mg H xs ds → Rps K mg H ys es → Rps K mg H (xs ++ ys) (ds ++ es)
  | _, _, _, _, .nil, s => s
  | _, _, _, _, .cons r t, s => .cons r (Rps.append t s)
theorem Rps.set {x : V} {d : D} (r : Rp K mg H x d) : ∀ {xs : List V} {ds : List D} (i : Nat), Rps K mg H xs ds → Rps K mg H (xs.set i x) (ds.set i d)
  | _, _, _, .nil => .nil
  | _, _, 0, .cons _ t => .cons r t
  | _, _, i + 1, .cons q t => .cons q (Rps.set r i t)
theorem Rps.take : ∀ {xs : List V} {ds : List D} (n : Nat), Rps K mg H xs ds → Rps K mg H (xs.take n) (ds.take n)
  | _, _, 0, _ => .nil
  | _, _, _ + 1, .nil => .nil
  | _, _, n + 1, .cons r t => .cons r (Rps.take n t)
theorem Rps.drop : ∀ {xs : List V} {ds : List D} (n : Nat), Rps K mg H xs ds → Rps K mg H (xs.drop n) (ds.drop n)
  | _, _, 0, r => r
  | _, _, _ + 1, .nil => .nil
  | _, _, n + 1, .cons _ t => Rps.drop n t
theorem Rps.reverse : ∀ {xs : List V} {ds : List D}, Rps K mg H xs ds → Rps K mg H xs.reverse ds.reverse
  | _, _, .nil => .nil
  | _, _, .cons r t => by
    rw [List.reverse_cons, List.reverse_cons]
    exact (Rps.reverse t).append (.cons r .nil)
theorem Rps.dropLast {xs : List V} {ds : List D} (h : Rps K mg H xs ds) : Rps K mg H xs.dropLast ds.dropLast := by
  rw [List.dropLast_eq_take, List.dropLast_eq_take, h.length]
  exact h.take _
theorem Rps.eraseIdx : ∀ {xs : List V} {ds : List D} (i : Nat), Rps K mg H xs ds → Rps K mg H (xs.eraseIdx i) (ds.eraseIdx i)
  | _, _, _, .nil => .nil
  | _, _, 0, .cons _ t => t
  | _, _, i + 1, .cons q t => .cons q (Rps.eraseIdx i t)

mutual
/-- plain data: no object within -/
def D.py : D → Bool
  | .obj _ _ _ => false
  | .opq _ => false
  | .tup l => D.pys l
  | .lst l => D.pys l
  | _ => true
def D.pys : List D → Bool
  | [] => true
  | d :: r => d.py && D.pys r
end
mutual
theorem Rp.dp : ∀ {v : V} {d : D}, Rp K mg H v d → d.py = true → Dp K H v d.toPy
  | _, _, .non, _ => .non
  | _, _, .bl b, _ => .bl b
  | _, _, .int i, _ => .int i
  | _, _, .str x, _ => .str x
  | _, _, .tup h r, p => .tup h (Rps.dps r (by rw [D.py] at p; exact p))
  | _, _, .lst h r, p => .lst h (Rps.dps r (by rw [D.py] at p; exact p))
  | _, _, .obj _ _ _ _, p => by rw [D.py] at p; cases p
  | _, _, .opq _, p => by rw [D.py] at p; cases p
theorem Rps.dps : ∀ {v : List V} {d : List D}, Rps K mg H v d → D.pys d = true → DpAll K H v (D.toPys d)
  | _, _, .nil, _ => .nil
  | _, _, .cons h r, p => by
    rw [D.pys, Bool.and_eq_true] at p
    exact .cons (Rp.dp h p.1) (Rps.dps r p.2)
end
theorem Rp.int_inv {v : V} {i : Int} (h : Rp K mg H v (.int i)) : v = .int i := by cases h; rfl
theorem Rp.bl_inv {v : V} {i : Bool} (h : Rp K mg H v (.bl i)) : v = .bl i := by cases h; rfl
theorem Rp.str_inv {v : V} {i : Str} (h : Rp K mg H v (.str i)) : v = .str i := by cases h; rfl
theorem Rp.non_inv {v : V} (h : Rp K mg H v .non) : v = .non := by cases h; rfl
theorem Rp.non_iff {v : V} {d : D} (h : Rp K mg H v d) : decide (v = .non) = (match d with | .non => true | _ => false) := by
  cases h <;> simp
theorem Rps.ints : ∀ {vs : List V} {ns : List Int}, Rps K mg H vs (ns.map D.int) → vs = ns.map V.int
  | _, [], .nil => rfl
  | _, n :: ns, .cons h r => by
    rw [h.int_inv, Rps.ints r]; rfl

/-! ### what a slot holds -/
/-- what an owned object holds -/
inductive OD where
  | lst (l : List D)
  | dK (ks : List Key) (ds : List D)
  | dT (ks : List (List Key)) (ds : List D)
  | rows (ll : List (List D))
inductive Sl where
  | no
  | val (d : D)
  | own (k : Option Nat) (o : OD)
abbrev DEnv := List Sl

/-- the lists behind the addresses as -/
def RwR (K : PySem.W.Frag) (mg : MG) (Hf H : Hp) (as : List Addr) (ll : List (List D)) : Prop :=
  as.length = ll.length ∧ ∀ (k : Nat) (a : Addr) (l : List D), as[k]? = some a → ll[k]? = some l → Hf a = none ∧ ∃ vs, H a = some (.lst vs) ∧ Rps K mg Hf vs l
/-- the addresses that an owned object takes up -/
def Ft (H : Hp) (od : OD) (p a : Addr) : Prop := a = p ∨ ∃ (ll : List (List D)) (as : List Addr), od = .rows ll ∧ H p = some (.lst (as.map V.ref)) ∧ a ∈ as
/-- the object o at p is what od says, its parts frozen, or lists of their own -/
def OdR (K : PySem.W.Frag) (mg : MG) (Hf H : Hp) (p : Addr) : OD → HO → Prop
  | .lst l, o => ∃ vs, o = .lst vs ∧ Rps K mg Hf vs l
  | .dK ks l, o => ∃ vs, o = .dK (ks.zip vs) ∧ ks.length = l.length ∧ Rps K mg Hf vs l
  | .dT ks l, o => ∃ vs, o = .dT (ks.zip vs) ∧ ks.length = l.length ∧ Rps K mg Hf vs l
  | .rows ll, o => ∃ as : List Addr, o = .lst (as.map V.ref) ∧ p ∉ as ∧ as.Nodup ∧ RwR K mg Hf H as ll
theorem ref_inj : ∀ {as bs : List Addr}, as.map V.ref = bs.map V.ref → as = bs
  | [], [], _ => rfl
  | [], _ :: _, h => by cases h
  | _ :: _, [], h => by cases h
  | a :: as, b :: bs, h => by
    rw [List.map_cons, List.map_cons] at h
    injection h with h1 h2
    rw [V.ref.inj h1, ref_inj h2]
theorem Ft.self {H : Hp} {od : OD} {p : Addr} : Ft H od p p := .inl rfl
theorem Ft.live {p a : Addr} {o : HO} {od : OD} (hp : H p = some o) (nf : Hf p = none) (h : OdR K mg Hf H p od o) (f : Ft H od p a) : Hf a = none ∧ ∃ u, H a = some u := by
  rcases f with rfl | ⟨ll, as, rfl, h1, h2⟩
  · exact ⟨nf, o, hp⟩
  · obtain ⟨bs, rfl, _, _, l1, l2⟩ := h
    rw [hp] at h1
    have e := ref_inj (HO.lst.inj (Option.some.inj h1))
    subst e
    obtain ⟨k, hk, rfl⟩ := List.mem_iff_getElem.mp h2
    obtain ⟨a1, vs, a2, _⟩ := l2 k bs[k] (ll[k]'(by omega)) (List.getElem?_eq_getElem hk) (List.getElem?_eq_getElem (by omega))
    exact ⟨a1, _, a2⟩
theorem Ft.of_eq {p a : Addr} {od : OD} (hp : H' p = H p) (f : Ft H' od p a) : Ft H od p a := by
  rcases f with rfl | ⟨ll, as, rfl, h1, h2⟩
  · exact .inl rfl
  · exact .inr ⟨ll, as, rfl, by rw [← hp]; exact h1, h2⟩
theorem OdR.keep {p : Addr} {od : OD} {o : HO} (e : Ex Hf Hf') (hp : H p = some o) (k : ∀ a, Ft H od p a → Hf' a = none ∧ H' a = H a) (h : OdR K mg Hf H p od o) : OdR K mg Hf' H' p od o := by
  cases od with
  | lst l => obtain ⟨vs, a, b⟩ := h; exact ⟨vs, a, b.mono e⟩
  | dK ks l => obtain ⟨vs, a, c, b⟩ := h; exact ⟨vs, a, c, b.mono e⟩
  | dT ks l => obtain ⟨vs, a, c, b⟩ := h; exact ⟨vs, a, c, b.mono e⟩
  | rows ll =>
    obtain ⟨as, rfl, a1, a2, l1, l2⟩ := h
    refine ⟨as, rfl, a1, a2, l1, fun i a l h1 h2 => ?_⟩
    obtain ⟨b1, vs, b2, b3⟩ := l2 i a l h1 h2
    obtain ⟨c1, c2⟩ := k a (.inr ⟨ll, as, rfl, hp, List.mem_of_getElem? h1⟩)
    exact ⟨c1, vs, by rw [c2]; exact b2, b3.mono e⟩

/-- ps: the addresses of what the caller handed in to be changed; g: what stands in the heap and is not ours -/
structure Fg where
  ps : List Addr
  g : Hp
def SlR (K : PySem.W.Frag) (mg : MG) (ps : List Addr) (Hf H : Hp) (x : Option V) : Sl → Prop
  | .no => True
  | .val d => ∃ v, x = some v ∧ Rp K mg Hf v d
  | .own k od => ∃ p o, x = some (.ref p) ∧ Hf p = none ∧ H p = some o ∧ OdR K mg Hf H p od o ∧ ∀ j, k = some j → ps[j]? = some p
/-- nobody's: no own slot takes a up -/
def Nob (H : Hp) (σ : L2.St) (e : DEnv) (a : Addr) : Prop := ∀ (i : Nat) (k : Option Nat) (l : OD) (p : Addr), e[i]? = some (.own k l) → σ[i]? = some (some (.ref p)) → Ft H l p a → False

structure SR (K : PySem.W.Frag) (mg : MG) (ps : Fg) (Hf H : Hp) (σ : L2.St) (e : DEnv) : Prop where
  ex : Ex Hf H
  len : σ.length = e.length
  sl : ∀ (i : Nat) (s : Sl), e[i]? = some s → ∃ x, σ[i]? = some x ∧ SlR K mg ps.ps Hf H x s
  apF : ∀ (i j : Nat) (k k' : Option Nat) (l l' : OD) (p q a : Addr), i ≠ j → e[i]? = some (.own k l) → e[j]? = some (.own k' l') → σ[i]? = some (some (.ref p)) → σ[j]? = some (some (.ref q)) → Ft H l p a → Ft H l' q a → False
  fgF : ∀ (a : Addr) (o : HO), ps.g a = some o → H a = some o ∧ Hf a = none ∧ Nob H σ e a

variable {ps : Fg} {e e' : DEnv}
theorem SR.ap (S : SR K mg ps Hf H σ e) (i j : Nat) (k k' : Option Nat) (l l' : OD) (p : Addr) (n : i ≠ j) (h1 : e[i]? = some (.own k l)) (h2 : e[j]? = some (.own k' l')) (h3 : σ[i]? = some (some (.ref p))) (h4 : σ[j]? = some (some (.ref p))) : False :=
  S.apF i j k k' l l' p p p n h1 h2 h3 h4 .self .self
theorem SR.fg (S : SR K mg ps Hf H σ e) (a : Addr) (o : HO) (h : ps.g a = some o) : H a = some o ∧ Hf a = none ∧ ∀ (i : Nat) (k : Option Nat) (l : OD), e[i]? = some (.own k l) → σ[i]? = some (some (.ref a)) → False := by
  obtain ⟨h1, h2, h3⟩ := S.fgF a o h
  exact ⟨h1, h2, fun i k l q1 q2 => h3 i k l a q1 q2 .self⟩
theorem SR.val (S : SR K mg ps Hf H σ e) {i : Nat} {d : D} (h : e[i]? = some (.val d)) : ∃ v, σ[i]? = some (some v) ∧ Rp K mg Hf v d := by
  obtain ⟨x, hx, v, rfl, r⟩ := S.sl i _ h
  exact ⟨v, hx, r⟩
theorem SR.own (S : SR K mg ps Hf H σ e) {i : Nat} {k : Option Nat} {od : OD} (h : e[i]? = some (.own k od)) :
    ∃ p o, σ[i]? = some (some (.ref p)) ∧ Hf p = none ∧ H p = some o ∧ OdR K mg Hf H p od o ∧ ∀ j, k = some j → ps.ps[j]? = some p := by
  obtain ⟨x, hx, p, o, rfl, r⟩ := S.sl i _ h
  exact ⟨p, o, hx, r⟩
theorem SR.live (S : SR K mg ps Hf H σ e) {i : Nat} {k : Option Nat} {od : OD} {p a : Addr} (h : e[i]? = some (.own k od)) (hp : σ[i]? = some (some (.ref p))) (f : Ft H od p a) : Hf a = none ∧ ∃ u, H a = some u := by
  obtain ⟨p', o, h1, h2, h3, h4, _⟩ := S.own h
  rw [hp] at h1; cases h1
  exact f.live h3 h2 h4
/-- an address that H does not bear is nobody's -/
theorem SR.nob_new (S : SR K mg ps Hf H σ e) {p : Addr} (n : H p = none) : Nob H σ e p := fun i k l q h1 h2 f => by
  obtain ⟨_, u, h⟩ := S.live h1 h2 f
  rw [n] at h; cases h
theorem SR.ng_new (S : SR K mg ps Hf H σ e) {p : Addr} (n : H p = none) : ps.g p = none := by
  cases w : ps.g p with
  | none => rfl
  | some o => have := (S.fgF p o w).1; rw [n] at this; cases this
/-- the heaps grow, what is owned or foreign stays -/
theorem SR.frame (S : SR K mg ps Hf H σ e) (x : Ex Hf Hf') (y : Ex Hf' H') (ko : ∀ (i : Nat) (k : Option Nat) (l : OD) (p a : Addr), e[i]? = some (.own k l) → σ[i]? = some (some (.ref p)) → Ft H l p a → Hf' a = none ∧ H' a = H a)
    (kg : ∀ (a : Addr) (o : HO), ps.g a = some o → H' a = some o ∧ Hf' a = none) : SR K mg ps Hf' H' σ e := by
  refine ⟨y, S.len, fun i s h => ?_, fun i j k k' l l' p q a n h1 h2 h3 h4 f1 f2 => ?_, fun a o h => ?_⟩
  · obtain ⟨v, hv, r⟩ := S.sl i s h
    refine ⟨v, hv, ?_⟩
    cases s with
    | no => trivial
    | val d => obtain ⟨u, a, b⟩ := r; exact ⟨u, a, b.mono x⟩
    | own k od =>
      obtain ⟨p, o, rfl, b, c, d, f⟩ := r
      have k0 := ko i k od p p h hv .self
      exact ⟨p, o, rfl, k0.1, by rw [k0.2]; exact c, d.keep x c fun a fa => ko i k od p a h hv fa, f⟩
  · exact S.apF i j k k' l l' p q a n h1 h2 h3 h4 (f1.of_eq (ko i k l p p h1 h3 .self).2) (f2.of_eq (ko j k' l' q q h2 h4 .self).2)
  · obtain ⟨g1, g2⟩ := kg a o h
    exact ⟨g1, g2, fun i k l p q1 q2 f => (S.fgF a o h).2.2 i k l p q1 q2 (f.of_eq (ko i k l p p q1 q2 .self).2)⟩
/-- other slots: the own ones among them stood there -/
theorem SR.slots {σ' : L2.St} (S : SR K mg ps Hf H σ e) (hl : σ'.length = e'.length) (h : ∀ (i : Nat) (s : Sl), e'[i]? = some s → ∃ x, σ'[i]? = some x ∧ SlR K mg ps.ps Hf H x s ∧ ∀ k l, s = .own k l → e[i]? = some s ∧ σ[i]? = some x) : SR K mg ps Hf H σ' e' := by
  have own : ∀ {i : Nat} {k : Option Nat} {l : OD} {p : Addr}, e'[i]? = some (.own k l) → σ'[i]? = some (some (.ref p)) → e[i]? = some (.own k l) ∧ σ[i]? = some (some (.ref p)) := fun {i k l p} h1 h2 => by
    obtain ⟨x, hx, _, h3⟩ := h i _ h1
    rw [h2] at hx; cases hx
    exact h3 k l rfl
  refine ⟨S.ex, hl, fun i s q => ?_, fun i j k k' l l' p q a n h1 h2 h3 h4 f1 f2 => ?_, fun a o q => ?_⟩
  · obtain ⟨x, h1, h2, _⟩ := h i s q
    exact ⟨x, h1, h2⟩
  · exact S.apF i j k k' l l' p q a n (own h1 h3).1 (own h2 h4).1 (own h1 h3).2 (own h2 h4).2 f1 f2
  · obtain ⟨g1, g2, g3⟩ := S.fgF a o q
    exact ⟨g1, g2, fun i k l p q1 q2 f => g3 i k l p (own q1 q2).1 (own q1 q2).2 f⟩
/-- a new object, frozen at once -/
theorem SR.froze (S : SR K mg ps Hf H σ e) {p : Addr} {o : HO} (n : H p = none) : SR K mg ps (upd Hf p o) (upd H p o) σ e := by
  have ne : ∀ q u, H q = some u → q ≠ p := fun q u h => ne_of_none h n
  have nf : Hf p = none := fresh_back S.ex n
  refine S.frame (Ex.new nf) (fun a u h => ?_) (fun i k l q a h1 h2 f => ?_) fun a u h => ?_
  · by_cases hp : a = p
    · subst hp; rw [upd_same] at h ⊢; exact h
    · rw [upd_ne hp] at h ⊢; exact S.ex a u h
  · obtain ⟨f1, u, f2⟩ := S.live h1 h2 f
    rw [upd_ne (ne a u f2), upd_ne (ne a u f2)]
    exact ⟨f1, rfl⟩
  · obtain ⟨h1, h2, h3⟩ := S.fgF a u h
    exact ⟨by rw [upd_ne (ne a u h1)]; exact h1, by rw [upd_ne (ne a u h1)]; exact h2⟩
/-- a new object that nobody names -/
theorem SR.laid (S : SR K mg ps Hf H σ e) {p : Addr} {o : HO} (n : H p = none) : SR K mg ps Hf (upd H p o) σ e := by
  have ne : ∀ q u, H q = some u → q ≠ p := fun q u h => ne_of_none h n
  refine S.frame (Ex.refl _) (S.ex.trans (Ex.new n)) (fun i k l q a h1 h2 f => ?_) fun a u h => ?_
  · obtain ⟨f1, u, f2⟩ := S.live h1 h2 f
    rw [upd_ne (ne a u f2)]
    exact ⟨f1, rfl⟩
  · obtain ⟨h1, h2, h3⟩ := S.fgF a u h
    exact ⟨by rw [upd_ne (ne a u h1)]; exact h1, h2⟩
/-- an object of H that nobody owns is frozen -/
theorem SR.freezes (S : SR K mg ps Hf H σ e) {p : Addr} {o : HO} (h : H p = some o) (nf : Hf p = none) (ng : ps.g p = none)
    (no : Nob H σ e p) : SR K mg ps (upd Hf p o) H σ e := by
  refine S.frame (Ex.new nf) (fun a u q => ?_) (fun i k l q a h1 h2 f => ?_) fun a u q => ?_
  · by_cases hp : a = p
    · subst hp; rw [upd_same] at q; rw [h]; exact q
    · rw [upd_ne hp] at q; exact S.ex a u q
  · have hn : a ≠ p := fun z => by subst z; exact no i k l q h1 h2 f
    exact ⟨by rw [upd_ne hn]; exact (S.live h1 h2 f).1, rfl⟩
  · obtain ⟨h1, h2, h3⟩ := S.fgF a u q
    have hn : a ≠ p := fun z => by subst z; rw [ng] at q; cases q
    exact ⟨h1, by rw [upd_ne hn]; exact h2⟩
theorem Ex.upd2 {Hf : Hp} {p : Addr} {o : HO} (n : Hf p = none) : Ex Hf (upd Hf p o) := Ex.new n
/-- one slot is given another content that is no own one -/
theorem SR.put1 (S : SR K mg ps Hf H σ e) (i : Nat) {x : Option V} {s : Sl} (r : SlR K mg ps.ps Hf H x s) (no : ∀ k l, s = .own k l → False) : SR K mg ps Hf H (σ.set i x) (e.set i s) := by
  refine S.slots (by simp [S.len]) fun j t h => ?_
  by_cases hj : i = j
  · subst hj
    have hl : i < e.length := by
      have := (List.getElem?_eq_some_iff.mp h).1; simpa using this
    rw [List.getElem?_set_self hl] at h
    cases h
    exact ⟨x, List.getElem?_set_self (by rw [S.len]; exact hl), r, fun k l q => (no k l q).elim⟩
  · rw [List.getElem?_set_ne hj] at h ⊢
    obtain ⟨y, h1, h2⟩ := S.sl j t h
    exact ⟨y, h1, h2, fun k l q => ⟨h, h1⟩⟩
/-- a slot is given a value -/
theorem SR.put (S : SR K mg ps Hf H σ e) (i : Nat) {v : V} {d : D} (r : Rp K mg Hf v d) : SR K mg ps Hf H (σ.set i (some v)) (e.set i (.val d)) :=
  S.put1 i (x := some v) (s := .val d) ⟨v, rfl, r⟩ fun _ _ h => by cases h
/-- a slot is forgotten -/
theorem SR.drop (S : SR K mg ps Hf H σ e) (i : Nat) (x : Option V) : SR K mg ps Hf H (σ.set i x) (e.set i .no) :=
  S.put1 i (x := x) (s := .no) trivial fun _ _ h => by cases h
theorem set_back {σ : L2.St} {i : Nat} {x : Option V} (h : σ[i]? = some x) : σ.set i x = σ := by
  apply List.ext_getElem?
  intro j
  by_cases hj : i = j
  · subst hj; rw [List.getElem?_set_self (List.getElem?_eq_some_iff.mp h).1, h]
  · rw [List.getElem?_set_ne hj]
/-- a slot is given a new object of its own, which H bears and nobody else names -/
theorem SR.takeG (S : SR K mg ps Hf H σ e) (i : Nat) {p : Addr} {o : HO} {od : OD} (hp : H p = some o) (nf : Hf p = none) (r : OdR K mg Hf H p od o)
    (no : ∀ a, Ft H od p a → ps.g a = none ∧ Nob H σ e a) : SR K mg ps Hf H (σ.set i (some (.ref p))) (e.set i (.own none od)) := by
  have hlen : ∀ {a : Nat} {s : Sl}, (e.set i (.own none od))[a]? = some s → a < e.length := fun h => by
    have := (List.getElem?_eq_some_iff.mp h).1; simpa using this
  refine ⟨S.ex, by simp [S.len], fun j s h => ?_, fun a b k k' l l' q q' w hab h1 h2 h3 h4 f1 f2 => ?_, fun a u h => ?_⟩
  · by_cases hj : i = j
    · subst hj
      have hl := hlen h
      rw [List.getElem?_set_self hl] at h
      cases h
      exact ⟨some (.ref p), List.getElem?_set_self (by rw [S.len]; exact hl), p, o, rfl, nf, hp, r, fun _ z => by cases z⟩
    · rw [List.getElem?_set_ne hj] at h ⊢
      exact S.sl j s h
  · by_cases ha : i = a
    · subst ha
      have hb : i ≠ b := hab
      have hl := hlen h1
      rw [List.getElem?_set_self hl] at h1
      rw [List.getElem?_set_self (by rw [S.len]; exact hl)] at h3
      rw [List.getElem?_set_ne hb] at h2 h4
      cases h1; cases h3
      exact (no w f1).2 b k' l' q' h2 h4 f2
    · rw [List.getElem?_set_ne ha] at h1 h3
      by_cases hb : i = b
      · subst hb
        have hl := hlen h2
        rw [List.getElem?_set_self hl] at h2
        rw [List.getElem?_set_self (by rw [S.len]; exact hl)] at h4
        cases h2; cases h4
        exact (no w f2).2 a k l q h1 h3 f1
      · rw [List.getElem?_set_ne hb] at h2 h4
        exact S.apF a b k k' l l' q q' w hab h1 h2 h3 h4 f1 f2
  · obtain ⟨h1, h2, h3⟩ := S.fgF a u h
    refine ⟨h1, h2, fun j k l q q1 q2 f => ?_⟩
    by_cases hj : i = j
    · subst hj
      have hl := hlen q1
      rw [List.getElem?_set_self hl] at q1
      rw [List.getElem?_set_self (by rw [S.len]; exact hl)] at q2
      cases q1; cases q2
      rw [(no a f).1] at h; cases h
    · rw [List.getElem?_set_ne hj] at q1 q2
      exact h3 j k l q q1 q2 f
def OD.flat : OD → Bool
  | .rows _ => false
  | _ => true
theorem Ft.flat {od : OD} {p a : Addr} (h : od.flat = true) (f : Ft H od p a) : a = p := by
  rcases f with rfl | ⟨ll, as, rfl, _⟩
  · rfl
  · cases h
theorem OdR.flat {p q : Addr} {od : OD} {o : HO} (hf : od.flat = true) (h : OdR K mg Hf H p od o) : OdR K mg Hf H' q od o := by
  cases od with
  | rows ll => cases hf
  | _ => exact h
theorem SR.take (S : SR K mg ps Hf H σ e) (i : Nat) {p : Addr} {o : HO} {od : OD} (hp : H p = some o) (nf : Hf p = none) (ng : ps.g p = none) (r : OdR K mg Hf H p od o)
    (no : Nob H σ e p) (hf : od.flat = true := by rfl) : SR K mg ps Hf H (σ.set i (some (.ref p))) (e.set i (.own none od)) :=
  S.takeG i hp nf r fun a f => by rw [f.flat hf]; exact ⟨ng, no⟩
/-- what a slot owns is changed, with all its lists -/
theorem SR.turnG (S : SR K mg ps Hf H σ e) {i : Nat} {p : Addr} {o' : HO} {k : Option Nat} {od od' : OD} (h : e[i]? = some (.own k od)) (hp : σ[i]? = some (some (.ref p)))
    (kp : ∀ a, H' a = H a ∨ Ft H od p a ∨ (Hf a = none ∧ ps.g a = none ∧ Nob H σ e a)) (hp' : H' p = some o') (r : OdR K mg Hf H' p od' o')
    (ft : ∀ a, Ft H' od' p a → Ft H od p a ∨ (Hf a = none ∧ ps.g a = none ∧ Nob H σ e a)) : SR K mg ps Hf H' σ (e.set i (.own k od')) := by
  obtain ⟨p', o, hp1, nf, hh, hr, hk⟩ := S.own h
  rw [hp] at hp1; cases hp1
  have hl : i < e.length := (List.getElem?_eq_some_iff.mp h).1
  -- what another slot owns stays
  have other : ∀ {j : Nat} {k2 : Option Nat} {l2 : OD} {q a : Addr}, i ≠ j → e[j]? = some (.own k2 l2) → σ[j]? = some (some (.ref q)) → Ft H l2 q a → H' a = H a := fun {j k2 l2 q a} hj h1 h2 f => by
    rcases kp a with z | z | ⟨_, _, z⟩
    · exact z
    · exact (S.apF i j k k2 od l2 p q a hj h h1 hp h2 z f).elim
    · exact (z j k2 l2 q h1 h2 f).elim
  have fr : ∀ {a : Addr} {o : HO}, ps.g a = some o → H' a = H a := fun {a o} w => by
    rcases kp a with z | z | ⟨_, z, _⟩
    · exact z
    · exact ((S.fgF a o w).2.2 i k od p h hp z).elim
    · rw [z] at w; cases w
  have x : Ex Hf H' := fun a u q => by
    rcases kp a with z | z | ⟨z, _, _⟩
    · rw [z]; exact S.ex a u q
    · rw [(S.live h hp z).1] at q; cases q
    · rw [z] at q; cases q
  -- the own slots of the new environment
  have back : ∀ {a : Nat} {k2 : Option Nat} {l2 : OD}, i ≠ a → (e.set i (.own k od'))[a]? = some (.own k2 l2) → e[a]? = some (.own k2 l2) := fun {a k2 l2} ha q => by
    rw [List.getElem?_set_ne ha] at q; exact q
  have ofi : ∀ {k2 : Option Nat} {l2 : OD}, (e.set i (.own k od'))[i]? = some (.own k2 l2) → k2 = k ∧ l2 = od' := fun {k2 l2} q => by
    rw [List.getElem?_set_self hl] at q
    cases q; exact ⟨rfl, rfl⟩
  refine ⟨x, by simp [S.len], fun j s q => ?_, fun a b k1 k' l l' q q' w hab h1 h2 h3 h4 f1 f2 => ?_, fun a u q => ?_⟩
  · by_cases hj : i = j
    · subst hj
      rw [List.getElem?_set_self hl] at q
      cases q
      exact ⟨_, hp, p, o', rfl, nf, hp', r, hk⟩
    · rw [List.getElem?_set_ne hj] at q
      obtain ⟨y, hy, z⟩ := S.sl j s q
      refine ⟨y, hy, ?_⟩
      cases s with
      | no => trivial
      | val d => exact z
      | own k2 od2 =>
        obtain ⟨q2, u, rfl, b, c, f, g⟩ := z
        refine ⟨q2, u, rfl, b, by rw [other hj q hy .self]; exact c, f.keep (Ex.refl _) c fun a fa => ⟨(S.live q hy fa).1, other hj q hy fa⟩, g⟩
  · by_cases ha : i = a
    · subst ha
      have hb : i ≠ b := hab
      obtain ⟨rfl, rfl⟩ := ofi h1
      rw [hp] at h3; cases h3
      have g2 := back hb h2
      have f2' := f2.of_eq (other hb g2 h4 .self)
      rcases ft w f1 with z | ⟨_, _, z⟩
      · exact S.apF i b _ _ _ _ _ _ w hb h g2 hp h4 z f2'
      · exact z b _ _ _ g2 h4 f2'
    · have g1 := back ha h1
      have f1' := f1.of_eq (other ha g1 h3 .self)
      by_cases hb : i = b
      · subst hb
        obtain ⟨rfl, rfl⟩ := ofi h2
        rw [hp] at h4; cases h4
        rcases ft w f2 with z | ⟨_, _, z⟩
        · exact S.apF a i _ _ _ _ _ _ w hab g1 h h3 hp f1' z
        · exact z a _ _ _ g1 h3 f1'
      · have g2 := back hb h2
        exact S.apF a b _ _ _ _ _ _ w hab g1 g2 h3 h4 f1' (f2.of_eq (other hb g2 h4 .self))
  · obtain ⟨h1, h2, h3⟩ := S.fgF a u q
    refine ⟨by rw [fr q]; exact h1, h2, fun j k2 l2 q' q1 q2 f => ?_⟩
    by_cases hj : i = j
    · subst hj
      obtain ⟨rfl, rfl⟩ := ofi q1
      rw [hp] at q2; cases q2
      rcases ft a f with z | ⟨_, z, _⟩
      · exact h3 i _ _ _ h hp z
      · rw [z] at q; cases q
    · have g1 := back hj q1
      exact h3 j _ _ _ g1 q2 (f.of_eq (other hj g1 q2 .self))
/-- what a slot owns is changed -/
theorem SR.turn (S : SR K mg ps Hf H σ e) {i : Nat} {p : Addr} {o' : HO} {k : Option Nat} {od od' : OD} (h : e[i]? = some (.own k od)) (hp : σ[i]? = some (some (.ref p))) (r : OdR K mg Hf H p od' o') (hf : od'.flat = true := by rfl) :
    SR K mg ps Hf (upd H p o') σ (e.set i (.own k od')) :=
  S.turnG h hp (fun a => by
    by_cases ha : a = p
    · subst ha; exact .inr (.inl .self)
    · exact .inl (upd_ne ha)) upd_same (r.flat hf) fun a f => by rw [f.flat hf]; exact .inl .self
/-- an own slot is frozen -/
def frz1 (e : DEnv) (i : Nat) : DEnv := match e[i]? with
  | some (.own none (.lst l)) => e.set i (.val (.lst l))
  | some (.own none (.rows ll)) => e.set i (.val (.lst (ll.map .lst)))
  | _ => e
theorem SR.frz (S : SR K mg ps Hf H σ e) (i : Nat) : ∃ Hf', Ex Hf Hf' ∧ SR K mg ps Hf' H σ (frz1 e i) := by
  unfold frz1
  split
  · rename_i l h
    obtain ⟨p, o, hp, nf, hh, ⟨vs, rfl, r⟩, hk⟩ := S.own h
    have hl : i < e.length := (List.getElem?_eq_some_iff.mp h).1
    have S1 := S.drop i (some (.ref p))
    rw [set_back hp] at S1
    have ng : ps.g p = none := by
      cases q : ps.g p with
      | none => rfl
      | some u => exact ((S.fg p u q).2.2 i _ _ h hp).elim
    have S2 := S1.freezes hh nf ng (fun j k l2 q q1 q2 f => by
      by_cases hj : i = j
      · subst hj; rw [List.getElem?_set_self hl] at q1; cases q1
      · rw [List.getElem?_set_ne hj] at q1
        exact S.apF i j _ _ _ _ p q p hj h q1 hp q2 .self f)
    refine ⟨upd Hf p (.lst vs), Ex.new nf, ?_⟩
    have S3 := S2.put i (v := .ref p) (d := .lst l) (.lst (.inl (.inl upd_same)) (r.mono (Ex.new nf)))
    rw [List.set_set] at S3
    rw [set_back hp] at S3
    exact S3
  · rename_i ll h
    obtain ⟨p, o, hp, nf, hh, ⟨as, rfl, np, nd, hr⟩, hk⟩ := S.own h
    have hl : i < e.length := (List.getElem?_eq_some_iff.mp h).1
    have S1 := S.drop i (some (.ref p))
    rw [set_back hp] at S1
    have fr : ∀ a, Ft H (.rows ll) p a → ps.g a = none ∧ Nob H σ (e.set i .no) a := fun a f => by
      refine ⟨?_, fun j k l2 q q1 q2 f2 => ?_⟩
      · cases q : ps.g a with
        | none => rfl
        | some u => exact ((S.fgF a u q).2.2 i _ _ p h hp f).elim
      · by_cases hj : i = j
        · subst hj; rw [List.getElem?_set_self hl] at q1; cases q1
        · rw [List.getElem?_set_ne hj] at q1
          exact S.apF i j _ _ _ _ p q a hj h q1 hp q2 f f2
    have hin : ∀ a, a ∈ as → Ft H (.rows ll) p a := fun a m => .inr ⟨ll, as, rfl, hh, m⟩
    clear h hk
    -- the lists first, one by one
    have go : ∀ (bs : List Addr) (ls : List (List D)) (Hf1 : Hp), Ex Hf Hf1 → SR K mg ps Hf1 H σ (e.set i .no) → bs.Nodup → (∀ a ∈ bs, a ∈ as) → p ∉ bs → Hf1 p = none → RwR K mg Hf1 H bs ls →
        ∃ Hf2, Ex Hf1 Hf2 ∧ SR K mg ps Hf2 H σ (e.set i .no) ∧ Hf2 p = none ∧ Rps K mg Hf2 (bs.map V.ref) (ls.map D.lst) := by
      intro bs
      induction bs with
      | nil =>
        intro ls Hf1 x T _ _ _ n r
        cases ls with
        | nil => exact ⟨Hf1, Ex.refl _, T, n, .nil⟩
        | cons l ls => exact absurd r.1 (by simp)
      | cons b bs ih =>
        intro ls Hf1 x T nd' m np' n r
        cases ls with
        | nil => exact absurd r.1 (by simp)
        | cons l ls =>
          obtain ⟨n1, vs, h1, h2⟩ := r.2 0 b l rfl rfl
          have hb := hin b (m b List.mem_cons_self)
          have T1 := T.freezes h1 n1 (fr b hb).1 (fr b hb).2
          have nb := List.nodup_cons.mp nd'
          obtain ⟨Hf2, y, T2, n2, r2⟩ := ih ls (upd Hf1 b (.lst vs)) (x.trans (Ex.new n1)) T1 nb.2 (fun a q => m a (List.mem_cons_of_mem _ q)) (fun q => np' (List.mem_cons_of_mem _ q))
            (by rw [upd_ne (fun q => np' (by rw [q]; exact List.mem_cons_self))]; exact n)
            ⟨by have := r.1; simpa using this, fun k a l' q1 q2 => by
              obtain ⟨z1, ws, z2, z3⟩ := r.2 (k + 1) a l' (by simpa using q1) (by simpa using q2)
              have hne : a ≠ b := fun q => nb.1 (by rw [← q]; exact List.mem_of_getElem? q1)
              exact ⟨by rw [upd_ne hne]; exact z1, ws, z2, z3.mono (Ex.new n1)⟩⟩
          refine ⟨Hf2, (Ex.new n1).trans y, T2, n2, .cons (.lst (.inl (.inl (y b _ upd_same))) (h2.mono ((Ex.new n1).trans y))) r2⟩
    obtain ⟨Hf2, y, T2, n2, r2⟩ := go as ll Hf (Ex.refl _) S1 nd (fun _ m => m) np nf hr
    have T3 := T2.freezes hh n2 (fr p .self).1 (fr p .self).2
    refine ⟨upd Hf2 p (.lst (as.map V.ref)), y.trans (Ex.new n2), ?_⟩
    have T4 := T3.put i (v := .ref p) (d := .lst (ll.map .lst)) (.lst (.inl (.inl upd_same)) (r2.mono (Ex.new n2)))
    rw [List.set_set] at T4
    rw [set_back hp] at T4
    exact T4
  · exact ⟨Hf, Ex.refl Hf, S⟩
end DL

/-! DLb: what an expression, a test, a statement is worth over data; the core's rules. -/
namespace DL
open PySem PySem.Spec PyProof.Rows L2 Evl

inductive Res (α : Type) where
  | ok (a : α) (e : DEnv) | exc (x : Str) (p : Option D) (e : DEnv) | stuck
abbrev M (α : Type) := DEnv → Res α
def ret {α : Type} (a : α) : M α := fun e => .ok a e
def stk {α : Type} : M α := fun _ => .stuck
def bnd {α β : Type} (m : M α) (f : α → M β) : M β := fun e => match m e with
  | .ok a e' => f a e' | .exc x p e' => .exc x p e' | .stuck => .stuck
@[simp] theorem ret_ap {α : Type} (a : α) (e : DEnv) : ret a e = .ok a e := rfl
@[simp] theorem stk_ap {α : Type} (e : DEnv) : (stk e : Res α) = .stuck := rfl
theorem bnd_ok {α β : Type} {m : M α} {f : α → M β} {e e' : DEnv} {a : α} (h : m e = .ok a e') : bnd m f e = f a e' := by unfold bnd; rw [h]
theorem bnd_exc {α β : Type} {m : M α} {f : α → M β} {e e' : DEnv} {x : Str} {p : Option D} (h : m e = .exc x p e') : bnd m f e = .exc x p e' := by unfold bnd; rw [h]

def IsExc (K : PySem.W.Frag) (mg : MG) (Hf : Hp) (x : Str) (p : Option D) (cls : Value) (dd : Option Addr) : Prop :=
  mg x = some cls ∧ match p with
    | none => dd = none
    | some d => ∃ a v, dd = some a ∧ Hf a = some (.xd [("apart", v)]) ∧ Rp K mg Hf v d

section
variable (K : PySem.W.Frag) (mg : MG) (ps : Fg) (W : WX)
/-- what is wanted behind an expression: P of what it is worth -/
def EG {α : Type} (Hf : Hp) (σ : L2.St) (P : α → Hp → Hp → Prop) : Res α → Prop
  | .ok a e' => ∀ Hf' H', Ex Hf Hf' → SR K mg ps Hf' H' σ e' → P a Hf' H'
  | .exc x p e' => ∀ cls dd Hf' H', Ex Hf Hf' → SR K mg ps Hf' H' σ e' → IsExc K mg Hf' x p cls dd → W cls dd σ H'
  | .stuck => False
def Pd (Q : VK) : D → Hp → Hp → Prop := fun d Hf H => ∀ v, Rp K mg Hf v d → Q v H
def Pds (Q : List V → Hp → Prop) : List D → Hp → Hp → Prop := fun d Hf H => ∀ v, Rps K mg Hf v d → Q v H
def Pb (Q : Bool → Hp → Prop) : Bool → Hp → Hp → Prop := fun b _ H => Q b H
end
section
variable {K : PySem.W.Frag} {mg : MG} {ps : Fg} {W : WX} {Hf Hf' H H' : Hp} {σ : L2.St} {α β : Type} {e : DEnv}
theorem EG.mono {P : α → Hp → Hp → Prop} (x : Ex Hf Hf') : ∀ {r : Res α}, EG K mg ps W Hf σ P r → EG K mg ps W Hf' σ P r
  | .ok _ _, h => fun Hf2 H2 y s => h Hf2 H2 (x.trans y) s
  | .exc _ _ _, h => fun c d Hf2 H2 y s z => h c d Hf2 H2 (x.trans y) s z
  | .stuck, h => h
theorem EG.imp {P P' : α → Hp → Hp → Prop} : ∀ {r : Res α}, EG K mg ps W Hf σ P r → (∀ a Hf' H' , Ex Hf Hf' → P a Hf' H' → P' a Hf' H') → EG K mg ps W Hf σ P' r
  | .ok a _, h, i => fun Hf2 H2 y s => i a Hf2 H2 y (h Hf2 H2 y s)
  | .exc _ _ _, h, _ => h
  | .stuck, h, _ => h
/-- first m, then f -/
theorem EG.bnd {P : β → Hp → Hp → Prop} {P1 : α → Hp → Hp → Prop} {m : M α} {f : α → M β} (h : EG K mg ps W Hf σ P (bnd m f e))
    (hk : ∀ a e' Hf' H', Ex Hf Hf' → SR K mg ps Hf' H' σ e' → EG K mg ps W Hf' σ P (f a e') → P1 a Hf' H') : EG K mg ps W Hf σ P1 (m e) := by
  unfold DL.bnd at h
  cases q : m e with
  | ok a e' =>
    rw [q] at h
    exact fun Hf2 H2 y s => hk a e' Hf2 H2 y s (EG.mono y h)
  | exc x p e' => rw [q] at h; exact h
  | stuck => rw [q] at h; exact h
theorem EG.ret {P : α → Hp → Hp → Prop} {a : α} (h : EG K mg ps W Hf σ P (ret a e)) (S : SR K mg ps Hf H σ e) : P a Hf H := h Hf H (Ex.refl Hf) S
end

/-! ### the judgements -/
section
variable (X : Cx) (W : WX)
structure JE (e : Expr) (f : M D) : Prop where
  ex : ∃ t, PE X e t ∧ ∀ (ps : Fg) (σ : L2.St) (Hf H : Hp) (env : DEnv), SR X.K X.mg ps Hf H σ env → ∀ Q : VK, EG X.K X.mg ps W Hf σ (Pd X.K X.mg Q) (f env) → t σ H Q
structure JT (e : Expr) (f : M Bool) : Prop where
  ex : ∃ t, PT X e t ∧ ∀ (ps : Fg) (σ : L2.St) (Hf H : Hp) (env : DEnv), SR X.K X.mg ps Hf H σ env → ∀ Q : Bool → Hp → Prop, EG X.K X.mg ps W Hf σ (Pb Q) (f env) → t σ H Q
structure JW (e : Expr) (f : M Bool) : Prop where
  ex : ∃ t, PW X e t ∧ ∀ (ps : Fg) (σ : L2.St) (Hf H : Hp) (env : DEnv), SR X.K X.mg ps Hf H σ env → ∀ Q : Bool → Hp → Prop, EG X.K X.mg ps W Hf σ (Pb Q) (f env) → t σ H Q
structure JA (es : List Expr) (f : M (List D)) : Prop where
  ex : ∃ t, PA X es t ∧ ∀ (ps : Fg) (σ : L2.St) (Hf H : Hp) (env : DEnv), SR X.K X.mg ps Hf H σ env → ∀ Q : List V → Hp → Prop, EG X.K X.mg ps W Hf σ (Pds X.K X.mg Q) (f env) → t σ H Q
end
/-- room for a long division -/
structure PyX (X : Cx) : Prop where
  tree : X.prog.given.tree = none
  seer : X.base.NoSeer
  st : ∃ (e : Env) (l : List Env), X.stack = e :: l ∧ e.scope.isGenerator = false ∧ e.scope.isCoroutine = false ∧ e.builtins = builtinsNs ∧ e.globals = mainGlobals
  dp : X.A.depth + Builtin.pylongFrames < recursionLimit
theorem PyX.room {X : Cx} (Z : PyX X) {pins : List (Addr × Obj)} {σ : L2.St} {H : Hp} {s : Shared} (I : Inv X pins σ H s) : PySem.PylongRoom (model X.prog X.w) X.A s := by
  obtain ⟨e, l, h1, h2, h3, h4, h5⟩ := Z.st
  exact PySem.PylongRoom.of (PySem.Heap.NoLimit.at I.mod.nolimit fun o => I.bk _ o) Z.dp (PySem.SeerAt.of (PySem.Heap.NoSeer.keeps Z.seer I.bk) Z.tree (I.ok.frames.trans (congrArg some h1)) h2 h3 h4 h5)
/-- what the context bears -/
structure CtxOk (X : Cx) (W : WX) : Prop where
  calm : X.calm = true
  hu : X.A.units + 64 < cLine
  po : PassesOwn (model X.prog X.w) X.A X.env X.xe
  tk : L2N.Takes X W
  py : PyX X


/-! ### names -/
/-- which names the code's block has -/
structure Nm (X : Cx) (N : List Str) (sc raw : Scope) : Prop where
  hN : X.N = N
  hs : X.env.scope = sc
  nd : N.Nodup
  kind : sc.kind = .function
  fn : ∀ x, raw.names.lookup x = some .cell → X.fn x = true
def okV (N : List Str) (sc : Scope) (i : Nat) (x : Str) : Bool := decide (N[i]? = some x) && (decide (sc.names.lookup x = some .local) || decide (sc.names.lookup x = some .cell) || decide (sc.names.lookup x = some .free)) && !(x == ("__debug__" : Str)) && !(x == ("__classdict__" : Str))
def okS (N : List Str) (sc raw : Scope) (i : Nat) (x : Str) : Bool := decide (N[i]? = some x) && (decide (sc.names.lookup x = some .local) || (decide (sc.names.lookup x = some .cell) && decide (raw.names.lookup x = some .cell)))
def okG (sc : Scope) (x : Str) : Bool := decide (sc.names.lookup x = some .globalImplicit) && !(x == ("__debug__" : Str)) && !decide (x = ("__name__" : Str))
section
variable {X : Cx} {N : List Str} {sc raw : Scope} {i : Nat} {x : Str}
theorem Nm.v (V : Nm X N sc raw) (h : okV N sc i x = true) : X.N[i]? = some x ∧ Vis X.env.scope x ∧ (x == ("__debug__" : Str)) = false ∧ (x == ("__classdict__" : Str)) = false := by
  unfold okV at h
  simp only [Bool.and_eq_true, Bool.or_eq_true, decide_eq_true_eq, Bool.not_eq_true'] at h
  obtain ⟨⟨⟨h1, h2⟩, h3⟩, h4⟩ := h
  refine ⟨by rw [V.hN]; exact h1, ?_, h3, h4⟩
  unfold Vis
  rw [V.hs]
  rcases h2 with (h2 | h2) | h2
  · exact .inl h2
  · exact .inr (.inl h2)
  · exact .inr (.inr h2)
theorem Nm.s (V : Nm X N sc raw) (h : okS N sc raw i x = true) : X.N[i]? = some x ∧ L2.Loc X.env.scope x ∧ (X.fn x = true ∨ X.env.scope.names.lookup x = some .local) := by
  unfold okS at h
  simp only [Bool.and_eq_true, Bool.or_eq_true, decide_eq_true_eq] at h
  obtain ⟨h1, h2⟩ := h
  refine ⟨by rw [V.hN]; exact h1, ?_⟩
  unfold L2.Loc
  rw [V.hs]
  rcases h2 with h2 | ⟨h2, h3⟩
  · exact ⟨.inl h2, .inr h2⟩
  · exact ⟨.inr h2, .inl (V.fn x h3)⟩
theorem Nm.g (V : Nm X N sc raw) (h : okG sc x = true) : Gl X x ∧ (x == ("__debug__" : Str)) = false ∧ x ≠ "__name__" := by
  unfold okG at h
  simp only [Bool.and_eq_true, decide_eq_true_eq, Bool.not_eq_true', decide_eq_false_iff_not] at h
  obtain ⟨⟨h1, h2⟩, h3⟩ := h
  refine ⟨?_, h2, h3⟩
  unfold Gl Env.kindOf
  rw [V.hs]; exact h1
theorem Nm.nodup (V : Nm X N sc raw) : X.N.Nodup := by rw [V.hN]; exact V.nd
end
section
variable {X : Cx} {W : WX} {a b c e : Expr} {es : List Expr} {fa fb fc : M D} {pos : Pos} {N : List Str} {sc raw : Scope}
/-! ### constants -/
def mVar (i : Nat) : M D := fun env => match env[i]? with
  | some (.val d) => .ok d env
  | some (.own none (.lst l)) => .ok (.lst l) (frz1 env i)
  | some (.own none (.rows ll)) => .ok (.lst (ll.map .lst)) (frz1 env i)
  | _ => .stuck
theorem je_var (V : Nm X N sc raw) {i : Nat} {x : Str} (hv : okV N sc i x = true) : JE X W (.Name x pos) (mVar i) := by
  obtain ⟨hN, hv, hd, hcd⟩ := V.v hv
  refine ⟨⟨_, pe_var hN hv hd hcd, fun ps σ Hf H env S Q h => ?_⟩⟩
  unfold mVar at h
  split at h
  · rename_i d q
    obtain ⟨v, h1, h2⟩ := S.val q
    exact ⟨v, h1, h Hf H (Ex.refl Hf) S v h2⟩
  · rename_i l q
    obtain ⟨Hf', ex, S'⟩ := S.frz i
    have hl : i < env.length := (List.getElem?_eq_some_iff.mp q).1
    have q' : (frz1 env i)[i]? = some (.val (.lst l)) := by
      unfold frz1; rw [q]; exact List.getElem?_set_self hl
    obtain ⟨v, h1, h2⟩ := S'.val q'
    exact ⟨v, h1, h Hf' H ex S' v h2⟩
  · rename_i l q
    obtain ⟨Hf', ex, S'⟩ := S.frz i
    have hl : i < env.length := (List.getElem?_eq_some_iff.mp q).1
    have q' : (frz1 env i)[i]? = some (.val (.lst (l.map .lst))) := by
      unfold frz1; rw [q]; exact List.getElem?_set_self hl
    obtain ⟨v, h1, h2⟩ := S'.val q'
    exact ⟨v, h1, h Hf' H ex S' v h2⟩
  · exact h.elim
theorem je_c {d : D} {v : V} {t : TE} (h : PE X e (tC v)) (r : ∀ K mg H, Rp K mg H v d) : JE X W e (ret d) :=
  ⟨⟨_, h, fun ps σ Hf H env S Q q => q.ret S v (r _ _ _)⟩⟩
theorem je_int {i : Int} {j : Nat} : JE X W (.Constant (.int i) j pos) (ret (.int i)) := ⟨⟨_, pe_int, fun ps σ Hf H env S Q q => q.ret S _ (.int i)⟩⟩
theorem je_bl {i : Bool} {j : Nat} : JE X W (.Constant (.bool i) j pos) (ret (.bl i)) := ⟨⟨_, pe_bl, fun ps σ Hf H env S Q q => q.ret S _ (.bl i)⟩⟩
theorem je_str {i : Str} {j : Nat} : JE X W (.Constant (.str i) j pos) (ret (.str i)) := ⟨⟨_, pe_str, fun ps σ Hf H env S Q q => q.ret S _ (.str i)⟩⟩
theorem je_non {j : Nat} : JE X W (.Constant .none j pos) (ret .non) := ⟨⟨_, pe_non, fun ps σ Hf H env S Q q => q.ret S _ .non⟩⟩

/-! ### operators -/
/-- a two-place operation's rule is worth g -/
def RJ (X : Cx) (W : WX) (r : R2) (g : D → D → M D) : Prop := ∀ (ps : Fg) (σ : L2.St) (Hf H : Hp) (env : DEnv) (x y : V) (dx dy : D) (Q : VK), SR X.K X.mg ps Hf H σ env → Rp X.K X.mg Hf x dx → Rp X.K X.mg Hf y dy →
  EG X.K X.mg ps W Hf σ (Pd X.K X.mg Q) (g dx dy env) → r x y H Q
def RU1 (X : Cx) (W : WX) (r : V → Hp → VK → Prop) (g : D → M D) : Prop := ∀ (ps : Fg) (σ : L2.St) (Hf H : Hp) (env : DEnv) (x : V) (dx : D) (Q : VK), SR X.K X.mg ps Hf H σ env → Rp X.K X.mg Hf x dx →
  EG X.K X.mg ps W Hf σ (Pd X.K X.mg Q) (g dx env) → r x H Q
def m2 (fa fb : M D) (g : D → D → M D) : M D := bnd fa fun x => bnd fb fun y => g x y
theorem tOp_ok {ta tb : TE} {r : R2} {g : D → D → M D} (ha : ∀ (ps : Fg) (σ : L2.St) (Hf H : Hp) (env : DEnv), SR X.K X.mg ps Hf H σ env → ∀ Q : VK, EG X.K X.mg ps W Hf σ (Pd X.K X.mg Q) (fa env) → ta σ H Q)
    (hb : ∀ (ps : Fg) (σ : L2.St) (Hf H : Hp) (env : DEnv), SR X.K X.mg ps Hf H σ env → ∀ Q : VK, EG X.K X.mg ps W Hf σ (Pd X.K X.mg Q) (fb env) → tb σ H Q) (hr : RJ X W r g)
    {ps : Fg} {σ : L2.St} {Hf H : Hp} {env : DEnv} (S : SR X.K X.mg ps Hf H σ env) {Q : VK} (h : EG X.K X.mg ps W Hf σ (Pd X.K X.mg Q) (m2 fa fb g env)) : tOp r ta tb σ H Q := by
  refine ha ps σ Hf H env S _ (EG.bnd h fun x e1 Hf1 H1 x1 S1 h1 v rv => ?_)
  refine hb ps σ Hf1 H1 e1 S1 _ (EG.bnd h1 fun y e2 Hf2 H2 x2 S2 h2 u ru => ?_)
  exact hr ps σ Hf2 H2 e2 v u x y Q S2 (rv.mono x2) ru h2
theorem je_op {op : Operator} {r : R2} {g : D → D → M D} (ho : OpR X (binaryOp op) r) (hr : RJ X W r g) (ja : JE X W a fa) (jb : JE X W b fb) : JE X W (.BinOp a op b pos) (m2 fa fb g) := by
  obtain ⟨ta, pa, ha⟩ := ja.ex
  obtain ⟨tb, pb, hb⟩ := jb.ex
  exact ⟨⟨_, pe_op ho pa pb, fun ps σ Hf H env S Q h => tOp_ok ha hb hr S h⟩⟩
theorem je_cmp {op : CmpOp} {r : R2} {g : D → D → M D} (ho : OpR X (compareOp op) r) (hr : RJ X W r g) (ja : JE X W a fa) (jb : JE X W b fb) (hm : behindInMarks op b = false := by first | exact nomark _ | rfl) : JE X W (.Compare a [op] [b] pos) (m2 fa fb g) := by
  obtain ⟨ta, pa, ha⟩ := ja.ex
  obtain ⟨tb, pb, hb⟩ := jb.ex
  exact ⟨⟨_, pe_cmpR ho pa pb hm, fun ps σ Hf H env S Q h => tOp_ok ha hb hr S h⟩⟩
theorem je_un {op : UnaryOp} {r : V → Hp → VK → Prop} {g : D → M D} (ho : UnR X (unaryOp op) r) (hr : RU1 X W r g) (ja : JE X W a fa) : JE X W (.UnaryOp op a pos) (bnd fa g) := by
  obtain ⟨ta, pa, ha⟩ := ja.ex
  refine ⟨⟨_, pe_un ho pa, fun ps σ Hf H env S Q h => ?_⟩⟩
  exact ha ps σ Hf H env S _ (EG.bnd h fun x e1 Hf1 H1 x1 S1 h1 v rv => hr ps σ Hf1 H1 e1 v x Q S1 rv h1)

/-- on two whole numbers -/
def g2i (g : Int → Int → M D) : D → D → M D := fun x y => match x, y with
  | .int i, .int j => g i j
  | _, _ => stk
theorem rj_i {r : R2} {g : Int → Int → M D} (h : ∀ (ps : Fg) (σ : L2.St) (Hf H : Hp) (env : DEnv) (i j : Int) (Q : VK), SR X.K X.mg ps Hf H σ env → EG X.K X.mg ps W Hf σ (Pd X.K X.mg Q) (g i j env) → r (.int i) (.int j) H Q) : RJ X W r (g2i g) := by
  intro ps σ Hf H env x y dx dy Q S rx ry q
  unfold g2i at q
  split at q
  · rw [rx.int_inv, ry.int_inv]; exact h ps σ Hf H env _ _ Q S q
  · exact q.elim
instance (i j : Int) : Decidable (IntMulOk i j) := by unfold IntMulOk; infer_instance
def iAdd : Int → Int → M D := fun i j => ret (.int (i + j))
def iSub : Int → Int → M D := fun i j => ret (.int (i - j))
def iMul : Int → Int → M D := fun i j => if IntMulOk i j then ret (.int (i * j)) else stk
def DivOk (j : Int) : Prop := j ≠ 0
instance (j : Int) : Decidable (DivOk j) := by unfold DivOk; infer_instance
def iDiv : Int → Int → M D := fun i j => if DivOk j then ret (.int (i.fdiv j)) else stk
def iMod : Int → Int → M D := fun i j => if j ≠ 0 then ret (.int (i.fmod j)) else stk
def PowOk (i j : Int) : Prop := 0 ≤ j ∧ j ≤ 1000000 ∧ i.natAbs < 2 ^ 64
instance (i j : Int) : Decidable (PowOk i j) := by unfold PowOk; infer_instance
def iPow : Int → Int → M D := fun i j => if PowOk i j then ret (.int (i ^ j.toNat)) else stk
def iCmp (p : Int → Int → Bool) : Int → Int → M D := fun i j => ret (.bl (p i j))
theorem op_mulX : OpR X (binaryOp .Mult) (rI IntMulOk fun i j => .int (i * j)) := opI fun _ _ _ _ _ _ _ hc q => mul_int q hc
theorem op_fdivX (Z : PyX X) : OpR X (binaryOp .FloorDiv) (rI (fun _ j => DivOk j) fun i j => .int (i.fdiv j)) := by
  intro pins s σ H x y v u Q I rx ry h
  obtain ⟨i, j, rfl, rfl, hc, q⟩ := h
  obtain ⟨t, rfl⟩ := rx
  obtain ⟨t', rfl⟩ := ry
  exact floordiv_int hc ⟨.int _, H, I.tok _, ⟨_, rfl⟩, q⟩ (.inr (Z.room I))
theorem rj_rI0 {g : Int → Int → V} {gd : Int → Int → D} (h : ∀ K mg H i j, Rp K mg H (g i j) (gd i j)) : RJ X W (rI0 g) (g2i fun i j => ret (gd i j)) :=
  rj_i fun ps σ Hf H env i j Q S q => ⟨i, j, rfl, rfl, q.ret S _ (h _ _ _ _ _)⟩
theorem rj_rI {C : Int → Int → Prop} [∀ i j, Decidable (C i j)] {g : Int → Int → V} {gd : Int → Int → D} (h : ∀ K mg H i j, Rp K mg H (g i j) (gd i j)) : RJ X W (rI C g) (g2i fun i j => if C i j then ret (gd i j) else stk) :=
  rj_i fun ps σ Hf H env i j Q S q => by
    split at q
    · rename_i hc; exact ⟨i, j, rfl, rfl, hc, q.ret S _ (h _ _ _ _ _)⟩
    · exact q.elim
theorem je_sub (ja : JE X W a fa) (jb : JE X W b fb) : JE X W (.BinOp a .Sub b pos) (m2 fa fb (g2i iSub)) := je_op op_sub (rj_rI0 fun _ _ _ _ _ => .int _) ja jb
theorem je_fdiv (C : CtxOk X W) (ja : JE X W a fa) (jb : JE X W b fb) : JE X W (.BinOp a .FloorDiv b pos) (m2 fa fb (g2i iDiv)) := je_op (op_fdivX C.py) (rj_rI (C := fun _ j => DivOk j) fun _ _ _ _ _ => .int _) ja jb
theorem je_mod (ja : JE X W a fa) (jb : JE X W b fb) : JE X W (.BinOp a .Mod b pos) (m2 fa fb (g2i iMod)) := je_op op_modN (rj_rI (C := fun _ j => j ≠ 0) fun _ _ _ _ _ => .int _) ja jb
theorem je_pow (ja : JE X W a fa) (jb : JE X W b fb) : JE X W (.BinOp a .Pow b pos) (m2 fa fb (g2i iPow)) := je_op op_pow (rj_rI (C := PowOk) fun _ _ _ _ _ => .int _) ja jb
def iShr : Int → Int → M D := fun i j => if 0 ≤ j then ret (.int (i / 2 ^ j.toNat)) else stk
def iShl : Int → Int → M D := fun i j => if PowOk i j then ret (.int (i * 2 ^ j.toNat)) else stk
theorem je_shr (ja : JE X W a fa) (jb : JE X W b fb) : JE X W (.BinOp a .RShift b pos) (m2 fa fb (g2i iShr)) := je_op op_shr (rj_rI (C := fun _ j => 0 ≤ j) fun _ _ _ _ _ => .int _) ja jb
theorem je_shl (ja : JE X W a fa) (jb : JE X W b fb) : JE X W (.BinOp a .LShift b pos) (m2 fa fb (g2i iShl)) := je_op op_shl (rj_rI (C := PowOk) fun _ _ _ _ _ => .int _) ja jb
theorem je_band (ja : JE X W a fa) (jb : JE X W b fb) : JE X W (.BinOp a .BitAnd b pos) (m2 fa fb (g2i fun i j => ret (.int (Builtin.bitAnd i j)))) := je_op op_and (rj_rI0 fun _ _ _ _ _ => .int _) ja jb
theorem je_bor (ja : JE X W a fa) (jb : JE X W b fb) : JE X W (.BinOp a .BitOr b pos) (m2 fa fb (g2i fun i j => ret (.int (Builtin.bitOr i j)))) := je_op op_or (rj_rI0 fun _ _ _ _ _ => .int _) ja jb
theorem je_bxor (ja : JE X W a fa) (jb : JE X W b fb) : JE X W (.BinOp a .BitXor b pos) (m2 fa fb (g2i fun i j => ret (.int (Builtin.bitXor i j)))) := je_op op_xor (rj_rI0 fun _ _ _ _ _ => .int _) ja jb
theorem je_lt (ja : JE X W a fa) (jb : JE X W b fb) : JE X W (.Compare a [.Lt] [b] pos) (m2 fa fb (g2i (iCmp fun i j => decide (i < j)))) := je_cmp op_lt (rj_rI0 fun _ _ _ _ _ => .bl _) ja jb
theorem je_le (ja : JE X W a fa) (jb : JE X W b fb) : JE X W (.Compare a [.LtE] [b] pos) (m2 fa fb (g2i (iCmp fun i j => decide (i ≤ j)))) := je_cmp op_le (rj_rI0 fun _ _ _ _ _ => .bl _) ja jb
theorem je_gt (ja : JE X W a fa) (jb : JE X W b fb) : JE X W (.Compare a [.Gt] [b] pos) (m2 fa fb (g2i (iCmp fun i j => decide (j < i)))) := je_cmp op_gt (rj_rI0 fun _ _ _ _ _ => .bl _) ja jb
theorem je_ge (ja : JE X W a fa) (jb : JE X W b fb) : JE X W (.Compare a [.GtE] [b] pos) (m2 fa fb (g2i (iCmp fun i j => decide (j ≤ i)))) := je_cmp op_ge (rj_rI0 fun _ _ _ _ _ => .bl _) ja jb
/-- == of data -/
def eqOk (x y : D) : Bool := x.py && y.py && shp x && shp y
def mEq (x y : D) : M D := if eqOk x y then ret (.bl (deq x y)) else stk
def mNe (x y : D) : M D := if eqOk x y then ret (.bl (!deq x y)) else stk
theorem eqOk_of {x y : D} (h : eqOk x y = true) : x.py = true ∧ y.py = true ∧ shp x = true ∧ shp y = true := by
  unfold eqOk at h
  simp only [Bool.and_eq_true] at h
  exact ⟨h.1.1.1, h.1.1.2, h.1.2, h.2⟩
theorem rj_eq : RJ X W (rEqD X.K) mEq := by
  intro ps σ Hf H env x y dx dy Q S rx ry q
  unfold mEq at q
  split at q
  · rename_i hc
    obtain ⟨p1, p2, s1, s2⟩ := eqOk_of hc
    exact ⟨_, _, (rx.mono S.ex).dp p1, (ry.mono S.ex).dp p2, s1, s2, q.ret S _ (.bl _)⟩
  · exact q.elim
theorem rj_ne : RJ X W (rNeD X.K) mNe := by
  intro ps σ Hf H env x y dx dy Q S rx ry q
  unfold mNe at q
  split at q
  · rename_i hc
    obtain ⟨p1, p2, s1, s2⟩ := eqOk_of hc
    exact ⟨_, _, (rx.mono S.ex).dp p1, (ry.mono S.ex).dp p2, s1, s2, q.ret S _ (.bl _)⟩
  · exact q.elim
theorem je_eq (C : CtxOk X W) (ja : JE X W a fa) (jb : JE X W b fb) : JE X W (.Compare a [.Eq] [b] pos) (m2 fa fb mEq) := je_cmp (op_eqD C.hu) rj_eq ja jb
theorem je_ne (C : CtxOk X W) (ja : JE X W a fa) (jb : JE X W b fb) : JE X W (.Compare a [.NotEq] [b] pos) (m2 fa fb mNe) := je_cmp (op_neD C.hu) rj_ne ja jb
def isNon : D → Bool | .non => true | _ => false
theorem je_isN {j : Nat} {p2 : Pos} (ja : JE X W a fa) : JE X W (.Compare a [.Is] [.Constant .none j p2] pos) (bnd fa fun x => ret (.bl (isNon x))) := by
  obtain ⟨ta, pa, ha⟩ := ja.ex
  refine ⟨⟨_, pe_cmpR op_isN pa pe_non (nomark _), fun ps σ Hf H env S Q h => ?_⟩⟩
  refine ha ps σ Hf H env S _ (EG.bnd h fun x e1 Hf1 H1 x1 S1 h1 v rv => ⟨rfl, ?_⟩)
  rw [rv.non_iff]
  exact h1.ret S1 _ (by cases x <;> exact .bl _)
theorem je_isNN {j : Nat} {p2 : Pos} (ja : JE X W a fa) : JE X W (.Compare a [.IsNot] [.Constant .none j p2] pos) (bnd fa fun x => ret (.bl (!isNon x))) := by
  obtain ⟨ta, pa, ha⟩ := ja.ex
  refine ⟨⟨_, pe_cmpR op_notN pa pe_non (nomark _), fun ps σ Hf H env S Q h => ?_⟩⟩
  refine ha ps σ Hf H env S _ (EG.bnd h fun x e1 Hf1 H1 x1 S1 h1 v rv => ⟨rfl, ?_⟩)
  rw [rv.non_iff]
  exact h1.ret S1 _ (by cases x <;> exact .bl _)
def u1i (g : Int → M D) : D → M D := fun x => match x with | .int i => g i | _ => stk
theorem je_neg (ja : JE X W a fa) : JE X W (.UnaryOp .USub a pos) (bnd fa (u1i fun i => ret (.int (-i)))) := by
  refine je_un un_neg (fun ps σ Hf H env x dx Q S rx q => ?_) ja
  unfold u1i at q
  split at q
  · rw [rx.int_inv]; exact ⟨_, rfl, q.ret S _ (.int _)⟩
  · exact q.elim

/-! ### tests -/
def mB : D → M Bool := fun x => match x with | .bl b => ret b | _ => stk
theorem jt_val (ja : JE X W a fa) (he : ∀ whole, isTrue a X.env whole = (do let v ← whole; standAt a.pos; holding [v] (truthy v)) := by intro _; rfl) : JT X W a (bnd fa mB) := by
  obtain ⟨ta, pa, ha⟩ := ja.ex
  refine ⟨⟨_, pt_val pa he, fun ps σ Hf H env S Q h => ?_⟩⟩
  refine ha ps σ Hf H env S _ (EG.bnd h fun x e1 Hf1 H1 x1 S1 h1 v rv => ?_)
  unfold mB at h1
  split at h1
  · exact ⟨_, rv.bl_inv, h1.ret S1⟩
  · exact h1.elim
/-- truth of any kind -/
def mTru : D → M Bool := fun x => match x with
  | .bl b => ret b
  | .int i => ret (i != 0)
  | .non => ret false
  | .str s => if s.length ≤ sizeLine then ret ((s.length : Int) != 0) else stk
  | .lst l => ret (!l.isEmpty)
  | .tup l => ret (!l.isEmpty)
  | _ => stk
theorem isEmpty_rps {K : PySem.W.Frag} {mg : MG} {H : Hp} {vs : List V} {ds : List D} (r : Rps K mg H vs ds) : (!vs.isEmpty) = !ds.isEmpty := by
  cases r <;> rfl
theorem jt_tru (ja : JE X W a fa) (he : ∀ whole, isTrue a X.env whole = (do let v ← whole; standAt a.pos; holding [v] (truthy v)) := by intro _; rfl) : JT X W a (bnd fa mTru) := by
  obtain ⟨ta, pa, ha⟩ := ja.ex
  refine ⟨⟨_, pt_truth pa he, fun ps σ Hf H env S Q h => ?_⟩⟩
  refine ha ps σ Hf H env S _ (EG.bnd h fun x e1 Hf1 H1 x1 S1 h1 v rv => ?_)
  cases x with
  | bl b => rw [rv.bl_inv]; exact ⟨b, rfl, h1.ret S1⟩
  | int i => rw [rv.int_inv]; exact ⟨_, rfl, h1.ret S1⟩
  | non => rw [rv.non_inv]; exact ⟨_, rfl, h1.ret S1⟩
  | str s =>
    rw [rv.str_inv]
    unfold mTru at h1
    dsimp only at h1
    split at h1
    · rename_i hs; exact ⟨_, ⟨hs, rfl⟩, h1.ret S1⟩
    · exact h1.elim
  | lst l =>
    cases rv with
    | lst hq r => exact ⟨_, .inl ⟨_, ex_l S1.ex hq, isEmpty_rps r ▸ rfl⟩, (isEmpty_rps r) ▸ h1.ret S1⟩
  | tup l =>
    cases rv with
    | tup hq r => exact ⟨_, .inr (.inl ⟨_, ex_t S1.ex hq, isEmpty_rps r ▸ rfl⟩), (isEmpty_rps r) ▸ h1.ret S1⟩
  | obj c ns vs => exact h1.elim
  | opq a => exact h1.elim
def bAnd (f g : M Bool) : M Bool := bnd f fun c => if c = true then g else ret false
def bOr (f g : M Bool) : M Bool := bnd f fun c => if c = true then ret true else g
variable {ga gb : M Bool} {rest : List Expr}
theorem JW.jt (j : JW X W a ga) : JT X W a ga := by
  obtain ⟨t, p, h⟩ := j.ex
  exact ⟨⟨t, p.pt, h⟩⟩
theorem jw_and1 (ja : JT X W a ga) : JW X W (.BoolOp .And [a] pos) ga := by
  obtain ⟨t, p, h⟩ := ja.ex
  exact ⟨⟨t, pw_and1 p, h⟩⟩
theorem jw_or1 (ja : JT X W a ga) : JW X W (.BoolOp .Or [a] pos) ga := by
  obtain ⟨t, p, h⟩ := ja.ex
  exact ⟨⟨t, pw_or1 p, h⟩⟩
theorem jw_and (ja : JT X W a ga) (jb : JW X W (.BoolOp .And (b :: rest) pos) gb) : JW X W (.BoolOp .And (a :: b :: rest) pos) (bAnd ga gb) := by
  obtain ⟨t, p, h⟩ := ja.ex
  obtain ⟨u, q, k⟩ := jb.ex
  refine ⟨⟨_, pw_and p q, fun ps σ Hf H env S Q z => ?_⟩⟩
  refine h ps σ Hf H env S _ (EG.bnd z fun x e1 Hf1 H1 x1 S1 h1 => ?_)
  cases x with
  | true => show (if true = true then u σ H1 Q else Q false H1); rw [if_pos rfl]; exact k ps σ Hf1 H1 e1 S1 _ h1
  | false => show (if false = true then u σ H1 Q else Q false H1); rw [if_neg Bool.false_ne_true]; exact EG.ret (W := W) (P := Pb Q) h1 S1
theorem jw_or (ja : JT X W a ga) (jb : JW X W (.BoolOp .Or (b :: rest) pos) gb) : JW X W (.BoolOp .Or (a :: b :: rest) pos) (bOr ga gb) := by
  obtain ⟨t, p, h⟩ := ja.ex
  obtain ⟨u, q, k⟩ := jb.ex
  refine ⟨⟨_, pw_or p q, fun ps σ Hf H env S Q z => ?_⟩⟩
  refine h ps σ Hf H env S _ (EG.bnd z fun x e1 Hf1 H1 x1 S1 h1 => ?_)
  cases x with
  | true => show (if true = true then Q true H1 else u σ H1 Q); rw [if_pos rfl]; exact EG.ret (W := W) (P := Pb Q) h1 S1
  | false => show (if false = true then Q true H1 else u σ H1 Q); rw [if_neg Bool.false_ne_true]; exact k ps σ Hf1 H1 e1 S1 _ h1
def bNot (f : M Bool) : M Bool := bnd f fun c => ret (!c)
theorem jt_not (ja : JT X W a ga) : JT X W (.UnaryOp .Not a pos) (bNot ga) := by
  obtain ⟨t, p, h⟩ := ja.ex
  refine ⟨⟨_, pt_not p, fun ps σ Hf H env S Q z => ?_⟩⟩
  exact h ps σ Hf H env S _ (EG.bnd z fun x e1 Hf1 H1 x1 S1 h1 => EG.ret (W := W) (P := Pb Q) (a := !x) h1 S1)
/-- and, or, not as values: all but the last True or False -/
def vAnd (f g : M D) : M D := bnd f fun x => match x with | .bl c => if c = true then g else ret (.bl false) | _ => stk
def vOr (f g : M D) : M D := bnd f fun x => match x with | .bl c => if c = true then ret (.bl true) else g | _ => stk
def vNot (f : M D) : M D := bnd f fun x => match x with | .bl c => ret (.bl (!c)) | _ => stk
theorem je_one {op : BoolOp} (ja : JE X W a fa) : JE X W (.BoolOp op [a] pos) fa := by
  obtain ⟨t, p, h⟩ := ja.ex
  exact ⟨⟨t, pe_one p, h⟩⟩
theorem je_and (ja : JE X W a fa) (jb : JE X W (.BoolOp .And (b :: rest) pos) fb) : JE X W (.BoolOp .And (a :: b :: rest) pos) (vAnd fa fb) := by
  obtain ⟨t, p, h⟩ := ja.ex
  obtain ⟨u, q, k⟩ := jb.ex
  refine ⟨⟨_, pe_and p q, fun ps σ Hf H env S Q z => ?_⟩⟩
  refine h ps σ Hf H env S _ (EG.bnd z fun x e1 Hf1 H1 x1 S1 h1 v rv => ?_)
  split at h1
  · rename_i c
    refine ⟨c, rv.bl_inv, ?_⟩
    cases c with
    | true => exact iteT (k ps σ Hf1 H1 e1 S1 _ h1)
    | false => exact iteF (EG.ret h1 S1 _ (.bl _))
  · exact h1.elim
theorem je_or (ja : JE X W a fa) (jb : JE X W (.BoolOp .Or (b :: rest) pos) fb) : JE X W (.BoolOp .Or (a :: b :: rest) pos) (vOr fa fb) := by
  obtain ⟨t, p, h⟩ := ja.ex
  obtain ⟨u, q, k⟩ := jb.ex
  refine ⟨⟨_, pe_or p q, fun ps σ Hf H env S Q z => ?_⟩⟩
  refine h ps σ Hf H env S _ (EG.bnd z fun x e1 Hf1 H1 x1 S1 h1 v rv => ?_)
  split at h1
  · rename_i c
    refine ⟨c, rv.bl_inv, ?_⟩
    cases c with
    | true => exact iteT (EG.ret h1 S1 _ (.bl _))
    | false => exact iteF (k ps σ Hf1 H1 e1 S1 _ h1)
  · exact h1.elim
theorem je_not (ja : JE X W a fa) : JE X W (.UnaryOp .Not a pos) (vNot fa) := by
  obtain ⟨t, p, h⟩ := ja.ex
  refine ⟨⟨_, pe_not p, fun ps σ Hf H env S Q z => ?_⟩⟩
  refine h ps σ Hf H env S _ (EG.bnd z fun x e1 Hf1 H1 x1 S1 h1 v rv => ?_)
  split at h1
  · exact ⟨_, rv.bl_inv, EG.ret h1 S1 _ (.bl _)⟩
  · exact h1.elim
def mIf {α : Type} (c : M Bool) (f g : M α) : M α := bnd c fun b => if b = true then f else g
theorem je_if {t : Expr} (jc : JT X W t ga) (ja : JE X W a fa) (jb : JE X W b fb) : JE X W (.IfExp t a b pos) (mIf ga fa fb) := by
  obtain ⟨tc, pc, hc⟩ := jc.ex
  obtain ⟨ta, pa, ha⟩ := ja.ex
  obtain ⟨tb, pb, hb⟩ := jb.ex
  refine ⟨⟨_, pe_ifExp pc pa pb, fun ps σ Hf H env S Q z => ?_⟩⟩
  refine hc ps σ Hf H env S _ (EG.bnd z fun x e1 Hf1 H1 x1 S1 h1 => ?_)
  cases x with
  | true => show (if true = true then ta σ H1 Q else tb σ H1 Q); rw [if_pos rfl]; exact ha ps σ Hf1 H1 e1 S1 _ h1
  | false => show (if false = true then ta σ H1 Q else tb σ H1 Q); rw [if_neg Bool.false_ne_true]; exact hb ps σ Hf1 H1 e1 S1 _ h1

/-! ### arguments, displays -/
def aNil : M (List D) := ret []
def aCons (f : M D) (g : M (List D)) : M (List D) := bnd f fun d => bnd g fun ds => ret (d :: ds)
theorem ja_nil : JA X W [] aNil := ⟨⟨_, pa_nil, fun ps σ Hf H env S Q z => z.ret S [] .nil⟩⟩
theorem ja_cons {g : M (List D)} (je : JE X W e fa) (jr : JA X W es g) (hs : starEach (e :: es) X.env = (false, eval e X.env) :: starEach es X.env := by rfl) : JA X W (e :: es) (aCons fa g) := by
  obtain ⟨t, p, h⟩ := je.ex
  obtain ⟨u, q, k⟩ := jr.ex
  refine ⟨⟨_, pa_cons p q hs, fun ps σ Hf H env S Q z => ?_⟩⟩
  refine h ps σ Hf H env S _ (EG.bnd z fun x e1 Hf1 H1 x1 S1 h1 v rv => ?_)
  refine k ps σ Hf1 H1 e1 S1 _ (EG.bnd h1 fun xs e2 Hf2 H2 x2 S2 h2 vs rvs => ?_)
  exact h2.ret S2 _ (.cons (rv.mono x2) rvs)
def szOk (n : Nat) : Prop := n ≤ sizeLine
instance (n : Nat) : Decidable (szOk n) := by unfold szOk; infer_instance
def mTup (g : M (List D)) : M D := bnd g fun ds => if szOk ds.length then ret (.tup ds) else stk
def mLst (g : M (List D)) : M D := bnd g fun ds => if szOk ds.length then ret (.lst ds) else stk
theorem je_tup {g : M (List D)} {x1 : Nat} (j : JA X W es g) : JE X W (.Tuple es x1 pos) (mTup g) := by
  obtain ⟨t, p, h⟩ := j.ex
  refine ⟨⟨_, pe_tup p, fun ps σ Hf H env S Q z => ?_⟩⟩
  refine h ps σ Hf H env S _ (EG.bnd z fun xs e1 Hf1 H1 x1 S1 h1 vs rvs => ?_)
  split at h1
  · rename_i hz
    refine ⟨by rw [rvs.length]; exact hz, fun p np => ?_⟩
    exact h1 _ _ (Ex.new (fresh_back S1.ex np)) (S1.froze np) _ (.tup (.inl (.inl upd_same)) (rvs.mono (Ex.new (fresh_back S1.ex np))))
  · exact h1.elim
theorem je_lst {g : M (List D)} (j : JA X W es g) : JE X W (.List es pos) (mLst g) := by
  obtain ⟨t, p, h⟩ := j.ex
  refine ⟨⟨_, pe_lst p, fun ps σ Hf H env S Q z => ?_⟩⟩
  refine h ps σ Hf H env S _ (EG.bnd z fun xs e1 Hf1 H1 x1 S1 h1 vs rvs => ?_)
  split at h1
  · rename_i hz
    refine ⟨by rw [rvs.length]; exact hz, fun p np => ?_⟩
    exact h1 _ _ (Ex.new (fresh_back S1.ex np)) (S1.froze np) _ (.lst (.inl (.inl upd_same)) (rvs.mono (Ex.new (fresh_back S1.ex np))))
  · exact h1.elim

/-! ### calls of built-ins -/
def CJ (X : Cx) (W : WX) (r : List V → Hp → VK → Prop) (g : List D → M D) : Prop := ∀ (ps : Fg) (σ : L2.St) (Hf H : Hp) (env : DEnv) (xs : List V) (ds : List D) (Q : VK), SR X.K X.mg ps Hf H σ env → Rps X.K X.mg Hf xs ds →
  EG X.K X.mg ps W Hf σ (Pd X.K X.mg Q) (g ds env) → r xs H Q
theorem je_callB {id : String} {r : List V → Hp → VK → Prop} {g : List D → M D} {x : Str} {p : Pos} {f : M (List D)} (hc : CallR X (.builtin id) r) (hj : CJ X W r g) (V : Nm X N sc raw) (hG : okG sc x = true) (hm : X.mg x = none) (ja : JA X W (e :: es) f) (hv : bootBuiltins x = some (.builtin id) := by decide +kernel)
    (he : starEach (e :: es) X.env = (false, eval e X.env) :: starEach es X.env := by rfl) (hpl : (backTo pos (starEach es X.env)).any (·.1) = false := by rfl) : JE X W (.Call (.Name x p) (e :: es) [] pos) (bnd f g) := by
  obtain ⟨hg, hdb, hn⟩ := V.g hG
  obtain ⟨t, q, h⟩ := ja.ex
  refine ⟨⟨_, pe_callB hc hg hm hv q hn hdb he hpl, fun ps σ Hf H env S Q z => ?_⟩⟩
  exact h ps σ Hf H env S _ (EG.bnd z fun xs e1 Hf1 H1 x1 S1 h1 vs rvs => hj ps σ Hf1 H1 e1 vs xs Q S1 rvs h1)
theorem je_callTy {T : String} {r : List V → Hp → VK → Prop} {g : List D → M D} {x : Str} {p : Pos} {f : M (List D)} (hc : CallR X (.type T) r) (hj : CJ X W r g) (V : Nm X N sc raw) (hG : okG sc x = true) (hm : X.mg x = none) (ja : JA X W (e :: es) f) (hv : bootBuiltins x = some (.type T) := by decide +kernel)
    (he : starEach (e :: es) X.env = (false, eval e X.env) :: starEach es X.env := by rfl) (hpl : (backTo pos (starEach es X.env)).any (·.1) = false := by rfl) : JE X W (.Call (.Name x p) (e :: es) [] pos) (bnd f g) := by
  obtain ⟨hg, hdb, hn⟩ := V.g hG
  obtain ⟨t, q, h⟩ := ja.ex
  refine ⟨⟨_, pe_callTy hc hg hm hv q hn hdb he hpl, fun ps σ Hf H env S Q z => ?_⟩⟩
  exact h ps σ Hf H env S _ (EG.bnd z fun xs e1 Hf1 H1 x1 S1 h1 vs rvs => hj ps σ Hf1 H1 e1 vs xs Q S1 rvs h1)
def c1i (g : Int → M D) : List D → M D := fun ds => match ds with | [.int i] => g i | _ => stk
theorem cj_i {r : List V → Hp → VK → Prop} {g : Int → M D} (h : ∀ (ps : Fg) (σ : L2.St) (Hf H : Hp) (env : DEnv) (i : Int) (Q : VK), SR X.K X.mg ps Hf H σ env → EG X.K X.mg ps W Hf σ (Pd X.K X.mg Q) (g i env) → r [.int i] H Q) : CJ X W r (c1i g) := by
  intro ps σ Hf H env xs ds Q S rx q
  unfold c1i at q
  split at q
  · cases rx with
    | cons r1 r2 => cases r2; rw [r1.int_inv]; exact h ps σ Hf H env _ Q S q
  · exact q.elim
def c2i (g : Int → Int → M D) : List D → M D := fun ds => match ds with | [.int i, .int j] => g i j | _ => stk
theorem cj_i2 {r : List V → Hp → VK → Prop} {g : Int → Int → M D} (h : ∀ (ps : Fg) (σ : L2.St) (Hf H : Hp) (env : DEnv) (i j : Int) (Q : VK), SR X.K X.mg ps Hf H σ env → EG X.K X.mg ps W Hf σ (Pd X.K X.mg Q) (g i j env) → r [.int i, .int j] H Q) : CJ X W r (c2i g) := by
  intro ps σ Hf H env xs ds Q S rx q
  unfold c2i at q
  split at q
  · cases rx with
    | cons r1 r2 => cases r2 with
      | cons r3 r4 => cases r4; rw [r1.int_inv, r3.int_inv]; exact h ps σ Hf H env _ _ Q S q
  · exact q.elim
def iAbs (i : Int) : Int := if i < 0 then -i else i
theorem je_abs {p : Pos} {f : M (List D)} (V : Nm X N sc raw) (hG : okG sc "abs" = true) (hm : X.mg "abs" = none) (ja : JA X W [a] f) (he : starEach [a] X.env = (false, eval a X.env) :: starEach [] X.env := by rfl) : JE X W (.Call (.Name "abs" p) [a] [] pos) (bnd f (c1i fun i => ret (.int (iAbs i)))) :=
  je_callB call_abs (cj_i fun ps σ Hf H env i Q S q => ⟨i, rfl, q.ret S _ (.int _)⟩) V hG hm ja (by decide +kernel) he
theorem je_max2 {p : Pos} {f : M (List D)} (C : CtxOk X W) (V : Nm X N sc raw) (hG : okG sc "max" = true) (hm : X.mg "max" = none) (ja : JA X W [a, b] f) (he : starEach [a, b] X.env = (false, eval a X.env) :: starEach [b] X.env := by rfl) (hpl : (backTo pos (starEach [b] X.env)).any (·.1) = false := by rfl) :
    JE X W (.Call (.Name "max" p) [a, b] [] pos) (bnd f (c2i fun i j => ret (.int (if j > i then j else i)))) :=
  je_callB (call_max2 C.calm) (cj_i2 fun ps σ Hf H env i j Q S q => ⟨i, j, rfl, q.ret S _ (.int _)⟩) V hG hm ja (by decide +kernel) he hpl
theorem je_min2 {p : Pos} {f : M (List D)} (C : CtxOk X W) (V : Nm X N sc raw) (hG : okG sc "min" = true) (hm : X.mg "min" = none) (ja : JA X W [a, b] f) (he : starEach [a, b] X.env = (false, eval a X.env) :: starEach [b] X.env := by rfl) (hpl : (backTo pos (starEach [b] X.env)).any (·.1) = false := by rfl) :
    JE X W (.Call (.Name "min" p) [a, b] [] pos) (bnd f (c2i fun i j => ret (.int (if j < i then j else i)))) :=
  je_callB (call_min2 C.calm) (cj_i2 fun ps σ Hf H env i j Q S q => ⟨i, j, rfl, q.ret S _ (.int _)⟩) V hG hm ja (by decide +kernel) he hpl
/-- int(n), int(flag) -/
def cInt : List D → M D := fun ds => match ds with | [.int i] => ret (.int i) | [.bl k] => ret (.int (if k then 1 else 0)) | _ => stk
theorem je_intC {p : Pos} {f : M (List D)} (V : Nm X N sc raw) (hG : okG sc "int" = true) (hm : X.mg "int" = none) (ja : JA X W [a] f) (he : starEach [a] X.env = (false, eval a X.env) :: starEach [] X.env := by rfl) : JE X W (.Call (.Name "int" p) [a] [] pos) (bnd f cInt) := by
  refine je_callTy call_int1 (fun ps σ Hf H env xs ds Q S rx q => ?_) V hG hm ja (by decide +kernel) he
  unfold cInt at q
  split at q
  · cases rx with
    | cons r1 r2 => cases r2; rw [r1.int_inv]; exact .inl ⟨_, rfl, q.ret S _ (.int _)⟩
  · cases rx with
    | cons r1 r2 => cases r2; rw [r1.bl_inv]; exact .inr ⟨_, rfl, q.ret S _ (.int _)⟩
  · exact q.elim
/-- len of text, list, tuple -/
def cLen : List D → M D := fun ds => match ds with | [.lst l] => ret (.int l.length) | [.tup l] => ret (.int l.length) | [.str s] => if s.length ≤ sizeLine then ret (.int s.length) else stk | _ => stk
theorem je_len {p : Pos} {f : M (List D)} (V : Nm X N sc raw) (hG : okG sc "len" = true) (hm : X.mg "len" = none) (ja : JA X W [a] f) (he : starEach [a] X.env = (false, eval a X.env) :: starEach [] X.env := by rfl) : JE X W (.Call (.Name "len" p) [a] [] pos) (bnd f cLen) := by
  refine je_callB (call_len_seq.or call_len_str) (fun ps σ Hf H env xs ds Q S rx q => ?_) V hG hm ja (by decide +kernel) he
  unfold cLen at q
  split at q
  · cases rx with
    | cons r1 r2 => cases r2; cases r1 with
      | lst hq r => exact .inl ⟨_, _, rfl, .inl (ex_l S.ex hq), by rw [r.length]; exact q.ret S _ (.int _)⟩
  · cases rx with
    | cons r1 r2 => cases r2; cases r1 with
      | tup hq r => exact .inl ⟨_, _, rfl, .inr (ex_t S.ex hq), by rw [r.length]; exact q.ret S _ (.int _)⟩
  · cases rx with
    | cons r1 r2 =>
      cases r2; rw [r1.str_inv]
      split at q
      · rename_i hz; exact .inr ⟨_, rfl, hz, q.ret S _ (.int _)⟩
      · exact q.elim
  · exact q.elim
/-- isinstance(x, T) for a built-in T -/
def tyD : D → String
  | .non => "NoneType" | .bl _ => "bool" | .int _ => "int" | .str _ => "str" | .tup _ => "tuple" | .lst _ => "list" | .obj _ _ _ => "object" | .opq _ => "object"
def cIsi (T : String) : List D → M D := fun ds => match ds with
  | [.obj _ _ _] => stk
  | [.opq _] => stk
  | [d] => match kitB (tyD d) T with | some b => ret (.bl b) | none => stk
  | _ => stk
end
end DL

/-! DLc: statements, targets, loops, raise, defs and their calls. -/
namespace DL
open PySem PySem.Spec PyProof.Rows L2 Evl

inductive Fl where
  | nx | rt (d : D) | bk | ct | ro (l : List D)
section
variable (K : PySem.W.Frag) (mg : MG) (ps : Fg) (W : WX)
def FP (De : Ends) : Fl → Hp → L2.St → Hp → Prop
  | .ro l, Hf, _, H => ∀ p vs, H p = some (.lst vs) → Hf p = none → ps.g p = none → Rps K mg Hf vs l → De.rt (.ref p) H
  | .nx, _, σ, H => De.nx σ H
  | .rt d, Hf, _, H => ∀ v, Rp K mg Hf v d → De.rt v H
  | .bk, _, σ, H => De.bk σ H
  | .ct, _, σ, H => De.ct σ H
def SG (De : Ends) (Hf : Hp) : Res Fl → Prop
  | .ok fl e' => ∀ σ' Hf' H', Ex Hf Hf' → SR K mg ps Hf' H' σ' e' → FP K mg ps De fl Hf' σ' H'
  | .exc x p e' => ∀ cls dd σ' Hf' H', Ex Hf Hf' → SR K mg ps Hf' H' σ' e' → IsExc K mg Hf' x p cls dd → W cls dd σ' H'
  | .stuck => False
def UG (Q : L2.St → Hp → Prop) (Hf : Hp) : Res Unit → Prop
  | .ok _ e' => ∀ σ' Hf' H', Ex Hf Hf' → SR K mg ps Hf' H' σ' e' → Q σ' H'
  | .exc x p e' => ∀ cls dd σ' Hf' H', Ex Hf Hf' → SR K mg ps Hf' H' σ' e' → IsExc K mg Hf' x p cls dd → W cls dd σ' H'
  | .stuck => False
end
section
variable {K : PySem.W.Frag} {mg : MG} {ps : Fg} {W : WX} {Hf Hf' H H' : Hp} {σ : L2.St} {α β : Type} {e : DEnv} {De De' : Ends} {Q : L2.St → Hp → Prop}
theorem SG.mono (x : Ex Hf Hf') : ∀ {r : Res Fl}, SG K mg ps W De Hf r → SG K mg ps W De Hf' r
  | .ok _ _, h => fun σ' Hf2 H2 y s => h σ' Hf2 H2 (x.trans y) s
  | .exc _ _ _, h => fun c d σ' Hf2 H2 y s z => h c d σ' Hf2 H2 (x.trans y) s z
  | .stuck, h => h
theorem UG.mono (x : Ex Hf Hf') : ∀ {r : Res Unit}, UG K mg ps W Q Hf r → UG K mg ps W Q Hf' r
  | .ok _ _, h => fun σ' Hf2 H2 y s => h σ' Hf2 H2 (x.trans y) s
  | .exc _ _ _, h => fun c d σ' Hf2 H2 y s z => h c d σ' Hf2 H2 (x.trans y) s z
  | .stuck, h => h
theorem SG.bnd {P1 : α → Hp → Hp → Prop} {m : M α} {f : α → M Fl} (h : SG K mg ps W De Hf (DL.bnd m f e))
    (hk : ∀ a e' Hf' H', Ex Hf Hf' → SR K mg ps Hf' H' σ e' → SG K mg ps W De Hf' (f a e') → P1 a Hf' H') : EG K mg ps W Hf σ P1 (m e) := by
  unfold DL.bnd at h
  cases q : m e with
  | ok a e' => rw [q] at h; exact fun Hf2 H2 y s => hk a e' Hf2 H2 y s (SG.mono y h)
  | exc x p e' => rw [q] at h; exact fun c d Hf2 H2 y s z => h c d σ Hf2 H2 y s z
  | stuck => rw [q] at h; exact h
theorem SG.ubnd {m : M Unit} {f : Unit → M Fl} (h : SG K mg ps W De Hf (DL.bnd m f e))
    (hk : ∀ e' σ' Hf' H', Ex Hf Hf' → SR K mg ps Hf' H' σ' e' → SG K mg ps W De Hf' (f () e') → Q σ' H') : UG K mg ps W Q Hf (m e) := by
  unfold DL.bnd at h
  cases q : m e with
  | ok a e' => rw [q] at h; exact fun σ2 Hf2 H2 y s => hk e' σ2 Hf2 H2 y s (SG.mono y h)
  | exc x p e' => rw [q] at h; exact h
  | stuck => rw [q] at h; exact h
theorem UG.bnd {P1 : α → Hp → Hp → Prop} {m : M α} {f : α → M Unit} (h : UG K mg ps W Q Hf (DL.bnd m f e))
    (hk : ∀ a e' Hf' H', Ex Hf Hf' → SR K mg ps Hf' H' σ e' → UG K mg ps W Q Hf' (f a e') → P1 a Hf' H') : EG K mg ps W Hf σ P1 (m e) := by
  unfold DL.bnd at h
  cases q : m e with
  | ok a e' => rw [q] at h; exact fun Hf2 H2 y s => hk a e' Hf2 H2 y s (UG.mono y h)
  | exc x p e' => rw [q] at h; exact fun c d Hf2 H2 y s z => h c d σ Hf2 H2 y s z
  | stuck => rw [q] at h; exact h
theorem UG.ubnd {Q' : L2.St → Hp → Prop} {m : M Unit} {f : Unit → M Unit} (h : UG K mg ps W Q Hf (DL.bnd m f e))
    (hk : ∀ e' σ' Hf' H', Ex Hf Hf' → SR K mg ps Hf' H' σ' e' → UG K mg ps W Q Hf' (f () e') → Q' σ' H') : UG K mg ps W Q' Hf (m e) := by
  unfold DL.bnd at h
  cases q : m e with
  | ok a e' => rw [q] at h; exact fun σ2 Hf2 H2 y s => hk e' σ2 Hf2 H2 y s (UG.mono y h)
  | exc x p e' => rw [q] at h; exact h
  | stuck => rw [q] at h; exact h
theorem UG.ret {e : DEnv} (h : UG K mg ps W Q Hf (ret () e)) (S : SR K mg ps Hf H σ e) : Q σ H := h σ Hf H (Ex.refl Hf) S
theorem SG.ret {e : DEnv} {fl : Fl} (h : SG K mg ps W De Hf (ret fl e)) (S : SR K mg ps Hf H σ e) : FP K mg ps De fl Hf σ H := h σ Hf H (Ex.refl Hf) S
end
section
variable (X : Cx) (W : WX)
structure JS (s : Stmt) (f : M Fl) : Prop where
  ex : ∃ t, PS X s t ∧ ∀ (ps : Fg) (σ : L2.St) (Hf H : Hp) (env : DEnv), SR X.K X.mg ps Hf H σ env → ∀ De : Ends, SG X.K X.mg ps W De Hf (f env) → t De σ H
structure JSs (s : List Stmt) (f : M Fl) : Prop where
  ex : ∃ t, PSs X s t ∧ ∀ (ps : Fg) (σ : L2.St) (Hf H : Hp) (env : DEnv), SR X.K X.mg ps Hf H σ env → ∀ De : Ends, SG X.K X.mg ps W De Hf (f env) → t De σ H
structure JG (tg : Expr) (g : D → M Unit) : Prop where
  ex : ∃ t, PG X tg t ∧ ∀ (ps : Fg) (σ : L2.St) (Hf H : Hp) (env : DEnv) (v : V) (d : D), SR X.K X.mg ps Hf H σ env → Rp X.K X.mg Hf v d → ∀ Q : L2.St → Hp → Prop, UG X.K X.mg ps W Q Hf (g d env) → t v σ H Q
structure JGs (tgs : List Expr) (g : List D → M Unit) : Prop where
  ex : ∃ t, PGs X tgs t ∧ ∀ (ps : Fg) (σ : L2.St) (Hf H : Hp) (env : DEnv) (v : List V) (d : List D), SR X.K X.mg ps Hf H σ env → Rps X.K X.mg Hf v d → ∀ Q : L2.St → Hp → Prop, UG X.K X.mg ps W Q Hf (g d env) → t v σ H Q
end
section
variable {X : Cx} {W : WX} {a b c e : Expr} {es : List Expr} {fa fb fc : M D} {pos : Pos} {s : Stmt} {ss : List Stmt} {f g : M Fl} {ga : M Bool} {N : List Str} {sc raw : Scope}
/-! ### blocks -/
def nx : M Fl := ret .nx
def sq (f g : M Fl) : M Fl := fun env => match f env with | .ok .nx e' => g e' | r => r
theorem jss_nil : JSs X W [] nx := ⟨⟨_, pss_nil, fun ps σ Hf H env S De h => h.ret S⟩⟩
theorem sq_ok {t u : TS} (ht : ∀ (ps : Fg) (σ : L2.St) (Hf H : Hp) (env : DEnv), SR X.K X.mg ps Hf H σ env → ∀ De : Ends, SG X.K X.mg ps W De Hf (f env) → t De σ H)
    (hu : ∀ (ps : Fg) (σ : L2.St) (Hf H : Hp) (env : DEnv), SR X.K X.mg ps Hf H σ env → ∀ De : Ends, SG X.K X.mg ps W De Hf (g env) → u De σ H)
    {ps : Fg} {σ : L2.St} {Hf H : Hp} {env : DEnv} (S : SR X.K X.mg ps Hf H σ env) {De : Ends} (h : SG X.K X.mg ps W De Hf (sq f g env)) : tSeq t u De σ H := by
  refine ht ps σ Hf H env S _ ?_
  unfold sq at h
  cases q : f env with
  | ok fl e' =>
    rw [q] at h
    cases fl with
    | nx => exact fun σ' Hf' H' x S' => hu ps σ' Hf' H' e' S' De (SG.mono x h)
    | rt d => exact h
    | ro l => exact h
    | bk => exact h
    | ct => exact h
  | exc x p e' => rw [q] at h; exact h
  | stuck => rw [q] at h; exact h
theorem jss_cons (j : JS X W s f) (k : JSs X W ss g) : JSs X W (s :: ss) (sq f g) := by
  obtain ⟨t, p, h⟩ := j.ex
  obtain ⟨u, q, r⟩ := k.ex
  exact ⟨⟨_, pss_cons p q, fun ps σ Hf H env S De z => sq_ok h r S z⟩⟩
theorem jss_one (j : JS X W s f) : JSs X W [s] f := by
  obtain ⟨t, p, h⟩ := j.ex
  exact ⟨⟨_, pss_one p, h⟩⟩
theorem js_pass : JS X W (.Pass pos) nx := ⟨⟨_, ps_pass, fun ps σ Hf H env S De h => h.ret S⟩⟩
theorem js_break : JS X W (.Break pos) (ret .bk) := ⟨⟨_, ps_break, fun ps σ Hf H env S De h => h.ret S⟩⟩
theorem js_continue : JS X W (.Continue pos) (ret .ct) := ⟨⟨_, ps_continue, fun ps σ Hf H env S De h => h.ret S⟩⟩
theorem js_doc {x : Str} {j : Nat} {pos' : Pos} : JS X W (.Expr (.Constant (.str x) j pos) pos') nx := ⟨⟨_, ps_doc, fun ps σ Hf H env S De h => h.ret S⟩⟩
/-! ### simple statements -/
def mAsg (i : Nat) (f : M D) : M Fl := bnd f fun d env => .ok .nx (env.set i (.val d))
theorem js_asg (V : Nm X N sc raw) {i : Nat} {x : Str} {pos' : Pos} (hS : okS N sc raw i x = true) (j : JE X W e fa)
    (hs : swapsWith e (some (.Name x pos')) pos.line X.env = pure false := by rfl) : JS X W (.Assign [.Name x pos'] e pos) (mAsg i fa) := by
  obtain ⟨hi, hx, hf⟩ := V.s hS
  have hN := V.nodup
  obtain ⟨t, p, h⟩ := j.ex
  refine ⟨⟨_, ps_set (i := i) hN hi hx p hs hf, fun ps σ Hf H env S De z => ?_⟩⟩
  exact h ps σ Hf H env S _ (SG.bnd z fun d e' Hf' H' x S' h1 v r => h1 _ Hf' H' (Ex.refl _) (S'.put i r))
def mRet (f : M D) : M Fl := bnd f fun d => ret (.rt d)
theorem js_ret (j : JE X W e fa) : JS X W (.Return (some e) pos) (mRet fa) := by
  obtain ⟨t, p, h⟩ := j.ex
  refine ⟨⟨_, ps_ret p, fun ps σ Hf H env S De z => ?_⟩⟩
  exact h ps σ Hf H env S _ (SG.bnd z fun d e' Hf' H' x S' h1 v r => h1.ret S' v r)
theorem js_retN : JS X W (.Return none pos) (ret (.rt .non)) := ⟨⟨_, ps_retN, fun ps σ Hf H env S De h => h.ret S _ .non⟩⟩
def mDrop (f : M D) : M Fl := bnd f fun _ => nx
theorem js_expr (j : JE X W e fa) (hs : swapsWith e none pos.line X.env = pure false := by rfl) : JS X W (.Expr e pos) (mDrop fa) := by
  obtain ⟨t, p, h⟩ := j.ex
  refine ⟨⟨_, ps_expr p hs, fun ps σ Hf H env S De z => ?_⟩⟩
  exact h ps σ Hf H env S _ (SG.bnd z fun d e' Hf' H' x S' h1 v r => h1.ret S')
theorem js_if {A B : List Stmt} (jc : JT X W c ga) (ja : JSs X W A f) (jb : JSs X W B g) : JS X W (.If c A B pos) (mIf ga f g) := by
  obtain ⟨tc, pc, hc⟩ := jc.ex
  obtain ⟨t, p, h⟩ := ja.ex
  obtain ⟨u, q, r⟩ := jb.ex
  refine ⟨⟨_, ps_if pc p q, fun ps σ Hf H env S De z => ?_⟩⟩
  refine hc ps σ Hf H env S _ (SG.bnd z fun c0 e' Hf' H' x S' h1 => ?_)
  cases c0 with
  | true => show (if true = true then t De σ H' else u De σ H'); rw [if_pos rfl]; exact h ps σ Hf' H' e' S' De h1
  | false => show (if false = true then t De σ H' else u De σ H'); rw [if_neg Bool.false_ne_true]; exact r ps σ Hf' H' e' S' De h1
/-- x += e, whole numbers -/
def mAug (i : Nat) (f : M D) (g : Int → Int → D) : M Fl := fun env => match env[i]? with
  | some (.val (.int a)) => bnd f (fun d env' => match d with | .int b => .ok .nx (env'.set i (.val (g a b))) | _ => .stuck) env
  | _ => .stuck
theorem js_add (V : Nm X N sc raw) {i : Nat} {x : Str} {pos' : Pos} (hS : okS N sc raw i x = true) (j : JE X W e fa) : JS X W (.AugAssign (.Name x pos') .Add e pos) (mAug i fa fun a b => .int (a + b)) := by
  obtain ⟨hi, hx, hf⟩ := V.s hS
  have hN := V.nodup
  obtain ⟨t, p, h⟩ := j.ex
  refine ⟨⟨_, ps_aug (i := i) hN hi hx p ip_add hf, fun ps σ Hf H env S De z => ?_⟩⟩
  unfold mAug at z
  split at z
  · rename_i k q
    obtain ⟨v, h1, h2⟩ := S.val q
    refine ⟨v, h1, h ps σ Hf H env S _ (SG.bnd z fun d e' Hf' H' x S' z1 v2 r => ?_)⟩
    split at z1
    · rw [h2.int_inv, r.int_inv]
      exact ⟨_, _, rfl, rfl, z1 _ Hf' H' (Ex.refl _) (S'.put i (.int _))⟩
    · exact z1.elim
  · exact z.elim

/-! ### targets -/
def gN (i : Nat) : D → M Unit := fun d env => .ok () (env.set i (.val d))
theorem jg_name (V : Nm X N sc raw) {i : Nat} {x : Str} (hS : okS N sc raw i x = true) : JG X W (.Name x pos) (gN i) :=
  ⟨⟨_, pg_name (i := i) V.nodup (V.s hS).1 (V.s hS).2.1 (V.s hS).2.2, fun ps σ Hf H env v d S r Q z => z _ Hf H (Ex.refl _) (S.put i r)⟩⟩
def gsNil : List D → M Unit := fun ds => match ds with | [] => ret () | _ => stk
def gsCons (g : D → M Unit) (gs : List D → M Unit) : List D → M Unit := fun ds => match ds with | d :: r => bnd (g d) fun _ => gs r | [] => stk
theorem jgs_nil : JGs X W [] gsNil := ⟨⟨_, pgs_nil, fun ps σ Hf H env v d S r Q z => by
  cases r with
  | nil => exact ⟨rfl, z.ret S⟩
  | cons _ _ => exact z.elim⟩⟩
theorem jgs_cons {g1 : D → M Unit} {gs : List D → M Unit} (j : JG X W e g1) (k : JGs X W es gs) (hs : (assignEach (e :: es) X.env).map (·.2) = assign e X.env :: (assignEach es X.env).map (·.2) := by rfl) : JGs X W (e :: es) (gsCons g1 gs) := by
  obtain ⟨t, p, h⟩ := j.ex
  obtain ⟨u, q, hu⟩ := k.ex
  refine ⟨⟨_, pgs_cons p q hs, fun ps σ Hf H env v d S r Q z => ?_⟩⟩
  cases r with
  | nil => exact z.elim
  | cons r1 r2 => exact ⟨_, _, rfl, h ps σ Hf H env _ _ S r1 _ (UG.ubnd z fun e' σ' Hf' H' x S' z1 => hu ps σ' Hf' H' e' _ _ S' (r2.mono x) Q z1)⟩
def gTp (n : Nat) (gs : List D → M Unit) : D → M Unit := fun d => match d with
  | .tup ds => if ds.length = n then gs ds else stk
  | .lst ds => if ds.length = n then gs ds else stk
  | _ => stk
theorem pg_or {tg : Expr} {t u : TG} (h : PG X tg t) (k : PG X tg u) : PG X tg (fun v σ H Q => t v σ H Q ∨ u v σ H Q) :=
  ⟨fun pins s σ H v w Q I r z => z.elim (h.run pins s σ H v w Q I r) (k.run pins s σ H v w Q I r)⟩
theorem jg_tup {gs : List D → M Unit} {k n : Nat} (C : CtxOk X W) (j : JGs X W es gs) (hn : (assignEach es X.env).length = n := by rfl) (hst : (assignEach es X.env).findIdx? (·.1) = none := by rfl) : JG X W (.Tuple es k pos) (gTp n gs) := by
  obtain ⟨t, p, h⟩ := j.ex
  refine ⟨⟨_, pg_or (pg_tup C.calm p hn hst) (pg_lst C.calm p hn hst), fun ps σ Hf H env v d S r Q z => ?_⟩⟩
  unfold gTp at z
  split at z
  · split at z
    · rename_i hl
      cases r with
      | tup hq rr => exact .inl ⟨_, _, rfl, ex_t S.ex hq, by rw [rr.length]; exact hl, h ps σ Hf H env _ _ S rr Q z⟩
    · exact z.elim
  · split at z
    · rename_i hl
      cases r with
      | lst hq rr => exact .inr ⟨_, _, rfl, ex_l S.ex hq, by rw [rr.length]; exact hl, h ps σ Hf H env _ _ S rr Q z⟩
    · exact z.elim
  · exact z.elim
def mAsgT (f : M D) (g : D → M Unit) : M Fl := bnd f fun d => bnd (g d) fun _ => nx
theorem js_asgT {tg : Expr} {g1 : D → M Unit} (j : JE X W e fa) (k : JG X W tg g1) (hs : swapsWithSole [tg] e pos.line X.env = pure false := by rfl) (hw : swappedStores [tg] e X.env = pure none := by rfl) (h1 : (assignEach [tg] X.env).map (·.2) = [assign tg X.env] := by rfl) : JS X W (.Assign [tg] e pos) (mAsgT fa g1) := by
  obtain ⟨t, p, h⟩ := j.ex
  obtain ⟨u, q, hu⟩ := k.ex
  refine ⟨⟨_, ps_asg p q hs hw h1, fun ps σ Hf H env S De z => ?_⟩⟩
  refine h ps σ Hf H env S _ (SG.bnd z fun d e' Hf' H' x S' h1 v r => ?_)
  exact hu ps σ Hf' H' e' v d S' r _ (SG.ubnd h1 fun e2 σ2 Hf2 H2 x2 S2 z2 => z2.ret S2)
/-- a, b = e1, e2 -/
def mPar (i j : Nat) (f : M (List D)) : M Fl := bnd f fun ds env => match ds with | [d, d'] => .ok .nx ((env.set i (.val d)).set j (.val d')) | _ => .stuck
/-- two local names, one line, the values no constants alone -/
def okP (sc : Scope) (x y : Str) (px py : Pos) (a b : Expr) : Bool := decide (sc.names.lookup x = some .local) && decide (sc.names.lookup y = some .local) && !(x == y) && (px.line == py.line) && !([a, b].all (foldedForSure 8)) && !([a, b].all (constantsAlone 8)) &&
  !([a, b].any fun | .Starred .. => true | _ => false)
theorem sw_par {x y : Str} {px py pt pt2 : Pos} {kt k2 : Nat} (V : Nm X N sc raw) (h : okP sc x y px py a b = true) : swappedStores [.Tuple [.Name x px, .Name y py] kt pt] (.Tuple [a, b] k2 pt2) X.env = pure (some [x, y]) := by
  unfold okP at h
  simp only [Bool.and_eq_true, decide_eq_true_eq, Bool.not_eq_true'] at h
  obtain ⟨⟨⟨⟨⟨⟨h1, h2⟩, h3⟩, h4⟩, h5⟩, h6⟩, h7⟩ := h
  have e1 : X.env.kindOf x = some .local := by unfold Env.kindOf; rw [V.hs]; exact h1
  have e2 : X.env.kindOf y = some .local := by unfold Env.kindOf; rw [V.hs]; exact h2
  have e3 : X.env.blockKind = .function := by unfold Env.blockKind; rw [V.hs, V.kind]; rfl
  have h3' : (y == x) = false := by
    cases q : (y == x) with
    | false => rfl
    | true => rw [beq_iff_eq] at q; subst q; simp at h3
  have h4' : (py.line == px.line) = true := by rw [beq_iff_eq] at h4 ⊢; exact h4.symm
  unfold swappedStores
  simp only [e3, h5, h6, h7, List.filterMap_cons, List.filterMap_nil, e1, e2, List.length_cons, List.length_nil, List.head?_cons, Option.map_some, Option.getD_some, Expr.pos, h4', beq_self_eq_true, Bool.and_self, if_true, List.eraseDups_cons, List.eraseDups_nil, List.filter_cons, List.filter_nil, h3', Bool.not_false]
  rw [if_neg (by decide)]
  refine (if_neg fun z => ?_).trans rfl
  exact Bool.false_ne_true (h7.symm.trans z)
theorem js_par {i j : Nat} {x y : Str} {px py pt pt2 : Pos} {kt k2 : Nat} {f : M (List D)} (C : CtxOk X W) (V : Nm X N sc raw) (hi : okS N sc raw i x = true) (hj : okS N sc raw j y = true) (hP : okP sc x y px py a b = true) (ja : JA X W [a, b] f)  (hij : i ≠ j := by decide)
    (hs : swapsWithSole [.Tuple [.Name x px, .Name y py] kt pt] (.Tuple [a, b] k2 pt2) pos.line X.env = pure false := by rfl) :
    JS X W (.Assign [.Tuple [.Name x px, .Name y py] kt pt] (.Tuple [a, b] k2 pt2) pos) (mPar i j f) := by
  have hw := sw_par (pt := pt) (pt2 := pt2) (kt := kt) (k2 := k2) V hP
  have hN := V.nodup
  have hi := (V.s hi).1
  have hj := (V.s hj).1
  unfold okP at hP
  simp only [Bool.and_eq_true, decide_eq_true_eq] at hP
  have hx : X.env.scope.names.lookup x = some .local := by rw [V.hs]; exact hP.1.1.1.1.1.1
  have hy : X.env.scope.names.lookup y = some .local := by rw [V.hs]; exact hP.1.1.1.1.1.2
  obtain ⟨t, p, h⟩ := ja.ex
  refine ⟨⟨_, ps_par C.calm hN hi hj hij hx hy p hw hs, fun ps σ Hf H env S De z => ?_⟩⟩
  refine h ps σ Hf H env S _ (SG.bnd z fun ds e' Hf' H' x S' h1 vs r => ?_)
  split at h1
  · cases r with
    | cons r1 r2 => cases r2 with
      | cons r3 r4 => cases r4; exact ⟨_, _, rfl, h1 _ Hf' H' (Ex.refl _) ((S'.put i r1).put j r3)⟩
  · exact h1.elim

/-! ### while -/
/-- one more turn behind a body -/
def again (b : M Fl) (k : M Fl) : M Fl := fun env => match b env with
  | .ok .nx e' => k e' | .ok .ct e' => k e' | .ok .bk e' => .ok .nx e' | r => r
def whN (c : M Bool) (b : M Fl) : Nat → M Fl
  | 0 => stk
  | n + 1 => mIf c (again b (whN c b n)) nx
theorem again_lift {b k k' : M Fl} {env : DEnv} {r : Res Fl} (h : again b k env = r) (hr : r ≠ .stuck) (hk : ∀ e' r, k e' = r → r ≠ .stuck → k' e' = r) : again b k' env = r := by
  unfold again at h ⊢
  cases q : b env with
  | ok fl e' =>
    rw [q] at h
    cases fl with
    | nx => exact hk _ _ h hr
    | ct => exact hk _ _ h hr
    | bk => exact h
    | rt d => exact h
    | ro l => exact h
  | exc x p e' => rw [q] at h; exact h
  | stuck => rw [q] at h; exact h
theorem whN_succ {c : M Bool} {b : M Fl} : ∀ {n : Nat} {env : DEnv} {r : Res Fl}, whN c b n env = r → r ≠ .stuck → whN c b (n + 1) env = r
  | 0, env, r, h, hr => absurd h.symm hr
  | n + 1, env, r, h, hr => by
    unfold whN mIf bnd at h ⊢
    cases q : c env with
    | ok t e' =>
      rw [q] at h
      cases t with
      | true => exact again_lift h hr fun e' r h hr => whN_succ h hr
      | false => exact h
    | exc x p e' => rw [q] at h; exact h
    | stuck => rw [q] at h; exact h
theorem whN_le {c : M Bool} {b : M Fl} {n m : Nat} {env : DEnv} {r : Res Fl} (h : whN c b n env = r) (hr : r ≠ .stuck) (hm : n ≤ m) : whN c b m env = r := by
  induction hm with
  | refl => exact h
  | step _ ih => exact whN_succ ih hr
open Classical in
noncomputable def mWh (c : M Bool) (b : M Fl) : M Fl := fun env => if h : ∃ n, whN c b n env ≠ .stuck then whN c b (choose h) env else .stuck
theorem mWh_of {c : M Bool} {b : M Fl} {n : Nat} {env : DEnv} {r : Res Fl} (h : whN c b n env = r) (hr : r ≠ .stuck) : mWh c b env = r := by
  have hx : ∃ n, whN c b n env ≠ .stuck := ⟨n, by rw [h]; exact hr⟩
  unfold mWh
  rw [dif_pos hx]
  have hc := Classical.choose_spec hx
  rcases Nat.le_total n (Classical.choose hx) with hle | hle
  · exact whN_le h hr hle
  · have := whN_le (rfl : whN c b (Classical.choose hx) env = _) hc hle
    rw [h] at this; exact this.symm
theorem mWh_ex {c : M Bool} {b : M Fl} {env : DEnv} (h : mWh c b env ≠ .stuck) : ∃ n, whN c b n env = mWh c b env := by
  unfold mWh at h ⊢
  split
  · rename_i hx; exact ⟨_, rfl⟩
  · rename_i hx; rw [dif_neg hx] at h; exact absurd rfl h
theorem SG.ns {K : PySem.W.Frag} {mg : MG} {ps : Fg} {W : WX} {Hf : Hp} {De : Ends} {r : Res Fl} (h : SG K mg ps W De Hf r) : r ≠ .stuck := fun z => by subst z; exact h
theorem js_while {B : List Stmt} (C : CtxOk X W) (jc : JT X W c ga) (jb : JSs X W B f) : JS X W (.While c B [] pos) (mWh ga f) := by
  obtain ⟨tc, pc, hc⟩ := jc.ex
  obtain ⟨t, p, h⟩ := jb.ex
  refine ⟨⟨_, ps_while C.po pc p, fun ps σ Hf H env S De z => ?_⟩⟩
  obtain ⟨n, hn⟩ := mWh_ex z.ns
  rw [← hn] at z
  refine ⟨fun m σ H => ∃ env Hf, SR X.K X.mg ps Hf H σ env ∧ SG X.K X.mg ps W De Hf (whN ga f m env), ⟨n, env, Hf, S, z⟩, ?_⟩
  rintro m σ H ⟨env, Hf, S, z⟩
  cases m with
  | zero => exact z.elim
  | succ m =>
    refine hc ps σ Hf H env S _ (SG.bnd z fun x e' Hf' H' x1 S' h1 => ?_)
    cases x with
    | false =>
      unfold Pb
      dsimp only
      rw [if_neg Bool.false_ne_true]; exact h1.ret S'
    | true =>
      unfold Pb
      dsimp only
      rw [if_pos rfl]
      refine ⟨fun σ H => ∃ env Hf, SR X.K X.mg ps Hf H σ env ∧ SG X.K X.mg ps W De Hf (whN ga f m env), fun σ' H' w => ⟨m, Nat.lt_succ_self _, w⟩, ?_⟩
      refine h ps σ Hf' H' e' S' _ ?_
      have h1 : SG X.K X.mg ps W De Hf' (again f (whN ga f m) e') := h1
      unfold again at h1
      cases q : f e' with
      | ok fl e2 =>
        rw [q] at h1
        cases fl with
        | nx => exact fun σ2 Hf2 H2 x2 S2 => ⟨e2, Hf2, S2, SG.mono x2 h1⟩
        | ct => exact fun σ2 Hf2 H2 x2 S2 => ⟨e2, Hf2, S2, SG.mono x2 h1⟩
        | bk => exact h1
        | rt d => exact h1
        | ro l => exact h1
      | exc x p e' => rw [q] at h1; exact h1
      | stuck => rw [q] at h1; exact h1

/-! ### for -/
/-- the walk J yields ds, one after another, from Hf on -/
structure ItOk (K : PySem.W.Frag) (mg : MG) (Hf : Hp) (J : It) (ds : List D) : Prop where
  go : ∀ (i : Nat) (d : D), ds[i]? = some d → ∀ (ps : Fg) (σ : L2.St) (env : DEnv) (Hf2 H2 : Hp), Ex Hf Hf2 → SR K mg ps Hf2 H2 σ env → J.go i H2 ∧ ∀ x H3, J.yld i H2 x H3 → ∃ Hf3, Ex Hf2 Hf3 ∧ SR K mg ps Hf3 H3 σ env ∧ Rp K mg Hf3 x d
  stop : ∀ (i : Nat), ds.length ≤ i → ∀ (ps : Fg) (σ : L2.St) (env : DEnv) (Hf2 H2 : Hp), Ex Hf Hf2 → SR K mg ps Hf2 H2 σ env → J.stop i H2
structure JI (X : Cx) (W : WX) (tg iter : Expr) (f : M (List D)) : Prop where
  ex : ∃ wi, PI X tg iter wi ∧ ∀ (ps : Fg) (σ : L2.St) (Hf H : Hp) (env : DEnv), SR X.K X.mg ps Hf H σ env → ∀ R : It → Hp → Prop, EG X.K X.mg ps W Hf σ (fun ds Hf' H' => ∀ J, ItOk X.K X.mg Hf' J ds → R J H') (f env) → wi σ H R
def forL (g : D → M Unit) (b : M Fl) : List D → M Fl
  | [] => nx
  | d :: r => bnd (g d) fun _ => again b (forL g b r)
theorem js_for {B : List Stmt} {tg iter : Expr} {fi : M (List D)} {g1 : D → M Unit} (C : CtxOk X W) (ji : JI X W tg iter fi) (jg : JG X W tg g1) (jb : JSs X W B f) (hs : ∀ x, foldedSetIterable iter X.env x = pure x := by intro _; rfl) :
    JS X W (.For tg iter B [] pos) (bnd fi (forL g1 f)) := by
  obtain ⟨wi, pi, hi⟩ := ji.ex
  obtain ⟨tg, pg, hg⟩ := jg.ex
  obtain ⟨t, p, h⟩ := jb.ex
  refine ⟨⟨_, ps_for C.po C.calm pi pg p hs, fun ps σ Hf H env S De z => ?_⟩⟩
  refine hi ps σ Hf H env S _ (SG.bnd z fun ds e1 Hf1 H1 x1 S1 z1 J ok => ?_)
  refine ⟨fun i m σ H => i + m = ds.length ∧ ∃ env Hf, Ex Hf1 Hf ∧ SR X.K X.mg ps Hf H σ env ∧ SG X.K X.mg ps W De Hf (forL g1 f (ds.drop i) env), ⟨ds.length, Nat.zero_add _, e1, Hf1, Ex.refl _, S1, z1⟩, ?_⟩
  rintro i m σ H ⟨hm, env, Hf, x, S, z⟩
  by_cases hlt : i < ds.length
  · obtain ⟨d, hd⟩ : ∃ d, ds[i]? = some d := ⟨ds[i], List.getElem?_eq_getElem hlt⟩
    obtain ⟨go, yld⟩ := ok.go i d hd ps σ env Hf H x S
    have e0 : ds.drop i = d :: ds.drop (i + 1) := by
      rw [List.drop_eq_getElem_cons hlt]
      have := List.getElem?_eq_getElem hlt
      rw [hd] at this; cases this; rfl
    rw [e0] at z
    refine .inr ⟨go, fun σ H => i + 1 + (m - 1) = ds.length ∧ ∃ env Hf, Ex Hf1 Hf ∧ SR X.K X.mg ps Hf H σ env ∧ SG X.K X.mg ps W De Hf (forL g1 f (ds.drop (i + 1)) env), fun σ' H' w => ⟨m - 1, by omega, w⟩, fun v H3 y => ?_⟩
    obtain ⟨Hf3, x3, S3, r3⟩ := yld v H3 y
    refine hg ps σ Hf3 H3 env v d S3 r3 _ (SG.ubnd (SG.mono x3 z) fun e4 σ4 Hf4 H4 x4 S4 z4 => ?_)
    refine h ps σ4 Hf4 H4 e4 S4 _ ?_
    unfold again at z4
    cases q : f e4 with
    | ok fl e5 =>
      rw [q] at z4
      cases fl with
      | nx => exact fun σ2 Hf2 H2 x2 S2 => ⟨by omega, e5, Hf2, ((x.trans x3).trans x4).trans x2, S2, SG.mono x2 z4⟩
      | ct => exact fun σ2 Hf2 H2 x2 S2 => ⟨by omega, e5, Hf2, ((x.trans x3).trans x4).trans x2, S2, SG.mono x2 z4⟩
      | bk => exact z4
      | rt d => exact z4
      | ro l => exact z4
    | exc x p e' => rw [q] at z4; exact z4
    | stuck => rw [q] at z4; exact z4
  · refine .inl ⟨ok.stop i (by omega) ps σ env Hf H x S, ?_⟩
    rw [List.drop_eq_nil_of_le (by omega)] at z
    exact z.ret S
/-! ### what is walked -/
def rngD (lo : Int) (n : Nat) : List D := (List.range n).map fun k => .int (lo + (k : Nat))
theorem itok_range {K : PySem.W.Frag} {mg : MG} {Hf : Hp} {lo : Int} {n : Nat} : ItOk K mg Hf (Itr lo n) (rngD lo n) where
  go := fun i d hd ps σ env Hf2 H2 x S => by
    unfold rngD at hd
    rw [List.getElem?_map] at hd
    have hi : i < n := by
      cases q : (List.range n)[i]? with
      | none => rw [q] at hd; cases hd
      | some k => have := (List.getElem?_eq_some_iff.mp q).1; simpa using this
    rw [List.getElem?_range hi] at hd
    cases hd
    exact ⟨hi, fun x H3 y => ⟨Hf2, Ex.refl _, by rw [y.1]; exact S, by rw [y.2]; exact .int _⟩⟩
  stop := fun i hi ps σ env Hf2 H2 x S => by
    unfold rngD at hi
    have hi' : n ≤ i := by simpa using hi
    exact hi'
def rOk (j : Int) : Prop := -(2 ^ 62) ≤ j ∧ j < 2 ^ 62
instance (j : Int) : Decidable (rOk j) := by unfold rOk; infer_instance
def mRng1 (f : M (List D)) : M (List D) := bnd f fun ds => match ds with | [.int j] => if rOk j then ret (rngD 0 j.toNat) else stk | _ => stk
def mRng2 (f : M (List D)) : M (List D) := bnd f fun ds => match ds with | [.int i, .int j] => if rOk i ∧ rOk j then ret (rngD i (j - i).toNat) else stk | _ => stk
theorem ji_range1 {tg : Expr} {p : Pos} {f : M (List D)} (V : Nm X N sc raw) (hG : okG sc "range" = true) (hm : X.mg "range" = none) (ja : JA X W [a] f) (hs : starEach [a] X.env = [(false, eval a X.env)] := by rfl) : JI X W tg (.Call (.Name "range" p) [a] [] pos) (mRng1 f) := by
  have hg := (V.g hG).1
  obtain ⟨t, q, h⟩ := ja.ex
  refine ⟨⟨_, pi_range1 hg hm q hs, fun ps σ Hf H env S R z => ?_⟩⟩
  refine h ps σ Hf H env S _ (EG.bnd z fun ds e1 Hf1 H1 x1 S1 h1 vs r => ?_)
  split at h1
  · rename_i j
    split at h1
    · rename_i hc
      cases r with
      | cons r1 r2 => cases r2; rw [r1.int_inv]; exact ⟨j, rfl, hc.1, hc.2, h1.ret S1 _ itok_range⟩
    · exact h1.elim
  · exact h1.elim
theorem ji_range2 {tg : Expr} {p : Pos} {f : M (List D)} (V : Nm X N sc raw) (hG : okG sc "range" = true) (hm : X.mg "range" = none) (ja : JA X W [a, b] f) (hs : starEach [a, b] X.env = [(false, eval a X.env), (false, eval b X.env)] := by rfl) (hs2 : starEach [b] X.env = [(false, eval b X.env)] := by rfl) :
    JI X W tg (.Call (.Name "range" p) [a, b] [] pos) (mRng2 f) := by
  have hg := (V.g hG).1
  obtain ⟨t, q, h⟩ := ja.ex
  refine ⟨⟨_, pi_range2 hg hm q hs hs2, fun ps σ Hf H env S R z => ?_⟩⟩
  refine h ps σ Hf H env S _ (EG.bnd z fun ds e1 Hf1 H1 x1 S1 h1 vs r => ?_)
  split at h1
  · rename_i i j
    split at h1
    · rename_i hc
      cases r with
      | cons r1 r2 => cases r2 with
        | cons r3 r4 => cases r4; rw [r1.int_inv, r3.int_inv]; exact ⟨i, j, rfl, ⟨hc.1.1, hc.1.2, hc.2.1, hc.2.2⟩, h1.ret S1 _ itok_range⟩
    · exact h1.elim
  · exact h1.elim
theorem sqL_inj_len : True := trivial

/-! ### raise -/
/-- what a class over ValueError without __init__ bears -/
structure ExcR (K : PySem.W.Frag) (mg : MG) (x : Str) (C : Addr) : Prop where
  xP : PySem.W.excIn K C [.type "ValueError", .type "Exception", .type "BaseException", .type "object"] "ValueError.__new__" = true
  gP : mg x = some (.ref C)
  kP : PySem.W.keepIn K (.ref C) = true
  bP : PySem.W.subIn K (.ref C) (.type "BaseException") = some true
  tP : PySem.W.typeIn K (.ref C) = some (.type "type")
def mRaise (x : Str) : M Fl := fun env => .exc x none env
theorem js_raise {x m : Str} {j : Nat} {p p2 pos2 : Pos} {Cc : Addr} (C : CtxOk X W) (V : Nm X N sc raw) (hG : okG sc x = true) (E : ExcR X.K X.mg x Cc) :
    JS X W (.Raise (some (.Call (.Name x p) [.Constant (.str m) j p2] [] pos)) none pos2) (mRaise x) := by
  obtain ⟨hg, hdb, _⟩ := V.g hG
  refine ⟨⟨_, L2N.ps_raise C.calm C.tk (L2N.pmk_own PySem.F.excBase_ValueError E.xP E.gP E.kP (raises_own E.bP E.tP) hg hdb), fun ps σ Hf H env S De z => ?_⟩⟩
  exact z _ _ σ Hf H (Ex.refl _) S ⟨E.gP, rfl⟩
end

/-! ### defs -/
inductive Rs where
  | ok (d : D) | exc (x : Str) (p : Option D) | stuck
/-- a def is worth F: it takes what stands as it stands, and hands back what is new (or what it was handed) -/
def spP (K : PySem.W.Frag) (mg : MG) (n : Nat) (F : List D → Rs) : Sp := fun vs H Q E => vs.length = n ∧ ∃ Hf ds, Ex Hf H ∧ Rps K mg Hf vs ds ∧ match F ds with
  | .ok d => ∀ v Hf' H', Ex Hf Hf' → Ex Hf' H' → (∀ a o, H a = some o → Hf a = none → H' a = some o ∧ Hf' a = none) → Rp K mg Hf' v d → Q v H'
  | .exc x p => ∀ cls dd Hf' H', Ex Hf Hf' → Ex Hf' H' → (∀ a o, H a = some o → Hf a = none → H' a = some o ∧ Hf' a = none) → IsExc K mg Hf' x p cls dd → E cls dd H'
  | .stuck => False
def envOf (n : Nat) (ds : List D) : DEnv := ds.map Sl.val ++ List.replicate (n - ds.length) .no
/-- the body's worth, as a function of what is handed in; n: how many names the def has -/
def runF (n : Nat) (f : M Fl) (ds : List D) : Rs := match f (envOf n ds) with
  | .ok (.rt d) _ => .ok d
  | .ok (.ro l) _ => .ok (.lst l)
  | .ok .nx _ => .ok .non
  | .exc x p _ => .exc x p
  | _ => .stuck
theorem sr_start {K : PySem.W.Frag} {mg : MG} {Hf H : Hp} {vs : List V} {ds : List D} {N : List Str} (x : Ex Hf H) (r : Rps K mg Hf vs ds) (hn : vs.length ≤ N.length) :
    SR K mg ⟨[], fun a => if (Hf a).isSome then none else H a⟩ Hf H (L2.start N vs) (envOf N.length ds) := by
  have hl := r.length
  have noown : ∀ (i : Nat) (k : Option Nat) (l : OD), (envOf N.length ds)[i]? ≠ some (.own k l) := fun i k l h => by
    unfold envOf at h
    by_cases hi : i < ds.length
    · rw [List.getElem?_append_left (by simpa using hi), List.getElem?_map] at h
      cases q : ds[i]? with
      | none => rw [q] at h; cases h
      | some d => rw [q] at h; cases h
    · rw [List.getElem?_append_right (by simpa using hi), List.getElem?_replicate] at h
      split at h <;> cases h
  refine ⟨x, ?_, fun i s h => ?_, fun i j k k' l l' p _ _ _ h1 => (noown i k l h1).elim, fun a o h => ?_⟩
  · unfold L2.start envOf
    simp only [List.length_append, List.length_map, List.length_replicate, hl]
  · unfold envOf at h
    unfold L2.start
    by_cases hi : i < ds.length
    · rw [List.getElem?_append_left (by simpa using hi), List.getElem?_map] at h
      cases q : ds[i]? with
      | none => rw [q] at h; cases h
      | some d =>
        rw [q] at h; cases h
        obtain ⟨v, h1, h2⟩ := r.get q
        exact ⟨some v, by rw [List.getElem?_append_left (by simp; omega), List.getElem?_map, h1]; rfl, v, rfl, h2⟩
    · rw [List.getElem?_append_right (by simpa using hi), List.getElem?_replicate] at h
      split at h
      · rename_i hlt
        cases h
        refine ⟨none, ?_, trivial⟩
        rw [List.getElem?_append_right (by simp; omega), List.getElem?_replicate]
        simp only [List.length_map] at hlt ⊢
        rw [if_pos (by omega)]
      · cases h
  · dsimp only at h
    split at h
    · cases h
    · rename_i hn
      refine ⟨h, ?_, fun i k l _ q => (noown i k l q).elim⟩
      cases q : Hf a with
      | none => rfl
      | some u => rw [q] at hn; exact absurd rfl hn
theorem fg_back {K : PySem.W.Frag} {mg : MG} {Hf H Hf' H' : Hp} {σ : L2.St} {env : DEnv} (S : SR K mg ⟨[], fun a => if (Hf a).isSome then none else H a⟩ Hf' H' σ env) : ∀ a o, H a = some o → Hf a = none → H' a = some o ∧ Hf' a = none := fun a o h n => by
  obtain ⟨h1, h2, _⟩ := S.fg a o (by dsimp only; rw [n]; exact h)
  exact ⟨h1, h2⟩
theorem ro_new {Hf H : Hp} {p : Addr} (nf : Hf p = none) (ng : (if (Hf p).isSome then none else H p) = none) : H p = none := by
  rw [nf] at ng; exact ng
theorem ro_back {K : PySem.W.Frag} {mg : MG} {Hf H Hf' H' : Hp} {σ : L2.St} {env : DEnv} {p : Addr} {vs : List V} {l : List D} {Q : VK} (x : Ex Hf H) (x' : Ex Hf Hf') (S : SR K mg ⟨[], fun a => if (Hf a).isSome then none else H a⟩ Hf' H' σ env)
    (hp : H' p = some (.lst vs)) (nf : Hf' p = none) (ng : (fun a => if (Hf a).isSome then none else H a) p = none) (r : Rps K mg Hf' vs l)
    (hF : ∀ v Hf' H', Ex Hf Hf' → Ex Hf' H' → (∀ a o, H a = some o → Hf a = none → H' a = some o ∧ Hf' a = none) → Rp K mg Hf' v (.lst l) → Q v H') : Q (.ref p) H' := by
  have n0 : Hf p = none := fresh_back x' nf
  have nH : H p = none := ro_new n0 ng
  refine hF (.ref p) (upd Hf' p (.lst vs)) H' (x'.trans (Ex.new nf)) (fun a u h => ?_) (fun a o h n => ?_) (.lst (.inl (.inl upd_same)) (r.mono (Ex.new nf)))
  · by_cases ha : a = p
    · subst ha; rw [upd_same] at h; rw [hp]; exact h
    · rw [upd_ne ha] at h; exact S.ex a u h
  · obtain ⟨h1, h2⟩ := fg_back S a o h n
    exact ⟨h1, by rw [upd_ne (fun e => by subst e; rw [nH] at h; cases h)]; exact h2⟩
section
variable {P : Program} {w : World} {K : PySem.W.Frag} {mg : MG} {base : Heap}
/-- as Fun.okX, the exceptions' context told -/
theorem okN {x qual : Str} {st : Stmt} {f : Addr} {fd : FuncData} {N ps : List Str} {k : Nat} {sp : Sp} (F : Fun K x qual st f fd) (S : FnScope N ps (defScope st)) (len : ∀ vs H Q E, sp vs H Q E → vs.length = ps.length)
    (hb : ∀ (cdv : Value) (A : Around) (outer : List Env) (s : Shared) (H : Hp) (vs : List V) (Q : VK) (E : XK), Room k (A.deeper (envOfC qual (defScope st) s.heap.objs.size f cdv)) → sp vs H Q E →
      ∃ t, PSs (cxOf (L2N.CX P w) P w K mg base N qual (defScope st) f cdv A outer s H E) (defBody st) t ∧ t { nx := fun _ H' => Q .non H', rt := Q } (L2.start N vs) H) : FnOk P w K mg base (L2N.CX P w) (k + 1) f fd ps sp := by
  obtain ⟨oc, od, kV, doc, pm, an, cdv, ct, osl, e1, lk, hc⟩ := F.ex
  subst e1
  exact fn_of lk hc S len fun A outer s H vs Q E r h => hb cdv A outer s H vs Q E r h
/-- the context of a def's own body -/
structure Df (X : Cx) : Prop where
  hs : X.stack = X.env :: X.outer
  hf : X.env.frame = some X.env.locals
/-- what a division of any numbers wants of the program, of what stands at the start, and of the level -/
structure Big (P : Program) (base : Heap) (k : Nat) : Prop where
  tree : P.given.tree = none
  seer : base.NoSeer
  k : 40 ≤ k
/-- THE RULE for a def -/
theorem fn_ok {x qual : Str} {st : Stmt} {f : Addr} {fd : FuncData} {N ps : List Str} {k : Nat} {g : M Fl} (F : Fun K x qual st f fd) (NS : Big P base k) (S : FnScope N ps (defScope st))
    (hbody : ∀ (X : Cx) (W : WX), X.prog = P → X.w = w → X.K = K → X.mg = mg → X.base = base → Room k X.A → CtxOk X W → Nm X N (defScope st) (defScope st) → Df X → JSs X W (defBody st) g) (hle : ps.length ≤ N.length := by decide) :
    FnOk P w K mg base (L2N.CX P w) (k + 1) f fd ps (spP K mg ps.length (runF N.length g)) := by
  refine okN F S (fun vs H Q E h => h.1) (fun cdv A outer s H vs Q E hr h => ?_)
  obtain ⟨hl, Hf, ds, x, r, hF⟩ := h
  obtain ⟨t, p, ht⟩ := (hbody (cxOf (L2N.CX P w) P w K mg base N qual (defScope st) f cdv A outer s H E) (fun cls d _ H => E cls d H) rfl rfl rfl rfl rfl hr ⟨rfl, hr.units, passes_of rfl, L2N.takes_of rfl rfl rfl rfl, ⟨NS.tree, NS.seer, ⟨_, _, rfl, S.gen, S.co, rfl, rfl⟩, by show (A.deeper (envOfC qual (defScope st) s.heap.objs.size f cdv)).depth + Builtin.pylongFrames < recursionLimit; have := hr.dp; have e : Builtin.pylongFrames = 100 := rfl; have := NS.k; omega⟩⟩ ⟨rfl, rfl, S.nd, S.kind, fun _ _ => rfl⟩ ⟨rfl, rfl⟩).ex
  refine ⟨t, p, ht _ _ Hf H _ (sr_start x r (by omega)) _ ?_⟩
  unfold runF at hF
  cases q : g (envOf N.length ds) with
  | ok fl e' =>
    rw [q] at hF
    cases fl with
    | nx => exact fun σ' Hf' H' x' S' => hF _ Hf' H' x' S'.ex (fg_back S') .non
    | rt d => exact fun σ' Hf' H' x' S' v rv => hF v Hf' H' x' S'.ex (fg_back S') rv
    | ro l => exact fun σ' Hf' H' x' S' p vs hp nf ng rv => ro_back x x' S' hp nf ng rv hF
    | bk => exact hF.elim
    | ct => exact hF.elim
  | exc y p e' => rw [q] at hF; exact fun cls dd σ' Hf' H' x' S' z => hF cls dd Hf' H' x' S'.ex (fg_back S') z
  | stuck => rw [q] at hF; exact hF.elim
/-- another function that is as much where it is not stuck -/
theorem fn_imp {f : Addr} {fd : FuncData} {ps : List Str} {k n : Nat} {F F' : List D → Rs} (h : FnOk P w K mg base (L2N.CX P w) k f fd ps (spP K mg n F)) (e : ∀ ds, ds.length = n → F' ds ≠ .stuck → F ds = F' ds) :
    FnOk P w K mg base (L2N.CX P w) k f fd ps (spP K mg n F') := by
  refine h.imp fun vs H Q E q => ?_
  obtain ⟨hl, Hf, ds, x, r, hF⟩ := q
  refine ⟨hl, Hf, ds, x, r, ?_⟩
  rw [e ds (by rw [← r.length]; exact hl) (fun z => by rw [z] at hF; exact hF)]
  exact hF
end

/-! ### calls of defs -/
structure Cal (X : Cx) (x : Str) (n : Nat) (F : List D → Rs) : Prop where
  ex : ∃ k f fd ps, FnOk X.prog X.w X.K X.mg X.base (L2N.CX X.prog X.w) k f fd ps (spP X.K X.mg n F) ∧ Room k X.A ∧ X.mg x = some (.ref f) ∧ PySem.W.keepIn X.K (.ref f) = true ∧ Binds X.K fd ps []
def mCall (f : M (List D)) (F : List D → Rs) : M D := bnd f fun ds env => match F ds with
  | .ok d => .ok d env | .exc x p => .exc x p env | .stuck => .stuck
section
variable {X : Cx} {W : WX} {e : Expr} {es : List Expr} {pos : Pos} {N : List Str} {sc raw : Scope}
/-- behind a call: what the caller had stands -/
theorem SR.after {K : PySem.W.Frag} {mg : MG} {ps : Fg} {Hf H Hf' H' : Hp} {σ : L2.St} {env : DEnv} (S : SR K mg ps Hf H σ env) (x : Ex Hf Hf') (y : Ex Hf' H') (z : ∀ a o, H a = some o → Hf a = none → H' a = some o ∧ Hf' a = none) : SR K mg ps Hf' H' σ env := by
  refine S.frame x y (fun i k l p a h1 h2 f => ?_) fun a o h => ?_
  · obtain ⟨z1, u, z2⟩ := S.live h1 h2 f
    obtain ⟨z3, z4⟩ := z a u z2 z1
    exact ⟨z4, by rw [z3, z2]⟩
  · obtain ⟨h1, h2, h3⟩ := S.fgF a o h
    exact z a o h1 h2
theorem sp_use {n : Nat} {F : List D → Rs} {ps : Fg} {σ : L2.St} {Hf H : Hp} {env : DEnv} {vs : List V} {ds : List D} {Q : VK} (S : SR X.K X.mg ps Hf H σ env) (r : Rps X.K X.mg Hf vs ds) (hn : ds.length = n)
    (h : EG X.K X.mg ps W Hf σ (Pd X.K X.mg Q) ((match F ds with | .ok d => fun env => Res.ok d env | .exc x p => fun env => .exc x p env | .stuck => fun _ => .stuck : M D) env)) : spP X.K X.mg n F vs H Q (WE W σ) := by
  refine ⟨by rw [r.length]; exact hn, Hf, ds, S.ex, r, ?_⟩
  cases q : F ds with
  | ok d => rw [q] at h; exact fun v Hf' H' x y z rv => h Hf' H' x (S.after x y z) v rv
  | exc c p => rw [q] at h; exact fun cls dd Hf' H' x y z w => h cls dd Hf' H' x (S.after x y z) w
  | stuck => rw [q] at h; exact h
theorem je_call {x : Str} {p : Pos} {n : Nat} {F : List D → Rs} {f : M (List D)} (C : CtxOk X W) (V : Nm X N sc raw) (hG : okG sc x = true) (c : Cal X x n F) (ja : JA X W (e :: es) f) (hn : ∀ env ds env', f env = .ok ds env' → ds.length = n)
    (he : starEach (e :: es) X.env = (false, eval e X.env) :: starEach es X.env := by rfl) (hpl : (backTo pos (starEach es X.env)).any (·.1) = false := by rfl) :
    JE X W (.Call (.Name x p) (e :: es) [] pos) (mCall f F) := by
  obtain ⟨hg, hdb, _⟩ := V.g hG
  obtain ⟨k, fa, fd, ps', G, hr, hm, hk, hb⟩ := c.ex
  obtain ⟨t, q, h⟩ := ja.ex
  refine ⟨⟨_, pe_callS G hr hg hm hk hb (fun σ => L2N.passAt C.tk σ) q hdb he hpl, fun ps σ Hf H env S Q z => ?_⟩⟩
  have hq : ∀ ds env', f env = .ok ds env' → ds.length = n := fun ds env' w => hn env ds env' w
  unfold mCall bnd at z
  refine h ps σ Hf H env S _ ?_
  cases w : f env with
  | ok ds e1 =>
    rw [w] at z
    intro Hf1 H1 x1 S1 vs r
    refine sp_use (W := W) S1 r (hq ds e1 w) ?_
    have z := EG.mono x1 z
    cases q : F ds with
    | ok d => simp only [q] at z ⊢; exact z
    | exc c p => simp only [q] at z ⊢; exact z
    | stuck => simp only [q] at z ⊢; exact z
  | exc y p e1 => rw [w] at z; exact z
  | stuck => rw [w] at z; exact z
end
/-- how many arguments come -/
def alen (n : Nat) (f : M (List D)) : Prop := ∀ env ds env', f env = .ok ds env' → ds.length = n
theorem alen_nil : alen 0 aNil := fun env ds env' h => by
  unfold aNil ret at h; cases h; rfl
theorem alen_cons {n : Nat} {f : M D} {g : M (List D)} (h : alen n g) : alen (n + 1) (aCons f g) := fun env ds env' q => by
  unfold aCons bnd at q
  cases w : f env with
  | ok d e1 =>
    rw [w] at q
    dsimp only at q
    cases w2 : g e1 with
    | ok ds2 e2 => rw [w2] at q; cases q; rw [List.length_cons, h _ _ _ w2]
    | exc x p e => rw [w2] at q; cases q
    | stuck => rw [w2] at q; cases q
  | exc x p e => rw [w] at q; cases q
  | stuck => rw [w] at q; cases q
end DL

/-! DLd: sequences: +, *, subscripts, slices, own lists, comprehensions, walks, isinstance. -/
namespace DL
open PySem PySem.Spec PyProof.Rows L2 Evl
section
variable {X : Cx} {W : WX} {a b c e : Expr} {es : List Expr} {fa fb fc : M D} {pos : Pos} {f : M (List D)} {N : List Str} {sc raw : Scope}

/-! ### + -/
def rCatL (K : PySem.W.Frag) : R2 := fun x y H Q => ∃ l b xs zs, x = .ref l ∧ y = .ref b ∧ SqL K H l xs ∧ SqL K H b zs ∧ xs.length + zs.length ≤ sizeLine ∧ ∀ p, H p = none → Q (.ref p) (upd H p (.lst (xs ++ zs)))
theorem op_catL : OpR X (binaryOp .Add) (rCatL X.K) := by
  intro pins s σ H x y v u Q I rx ry h
  obtain ⟨l, b, xs, zs, rfl, rfl, hH, hB, hz, q⟩ := h
  cases rx
  cases ry
  obtain ⟨its, r, ⟨⟨cls, dd, data, sl⟩, n, ho, hc, hdd, hd⟩, _⟩ := I.list hH
  obtain ⟨its2, r2, ⟨⟨cls2, dd2, data2, sl2⟩, n2, ho2, hc2, hdd2, hd2⟩, _⟩ := I.list hB
  simp only at hc hd hc2 hd2
  subst hc hd hc2 hd2
  have e : its.toArray ++ its2.toArray = (its ++ its2).toArray := by simp
  have hl := r.length
  have hl2 := r2.length
  refine concat_meets ⟨_, ho, rfl⟩ ⟨_, ho2, rfl⟩ noFill_list_add seq_list_add PySem.F.slot_list_add PySem.F.entry_list_add (PySem.F.args_list_add_2 _ _) (list_addW _ _ its.toArray its2.toArray n n2 dd dd2 sl sl2 (by simp only [List.size_toArray]; omega)) ⟨ho, ho2, ?_⟩
  rw [e]
  exact ⟨.ref _, _, I.lnew (t' := s.toks) (r.append r2) (by rw [List.length_append]; omega), rfl, q _ I.fresh⟩
def mAdd (x y : D) : M D := match x, y with
  | .int i, .int j => ret (.int (i + j))
  | .str s, .str t => if szOk (s.length + t.length) then ret (.str (s ++ t)) else stk
  | .lst l, .lst m => if szOk (l.length + m.length) then ret (.lst (l ++ m)) else stk
  | .tup l, .tup m => if l.isEmpty = false ∧ szOk (l.length + m.length) then ret (.tup (l ++ m)) else stk
  | _, _ => stk
theorem new_lst {ps : Fg} {σ : L2.St} {Hf H : Hp} {env : DEnv} {Q : VK} {l : List D} {vs : List V} (S : SR X.K X.mg ps Hf H σ env) (r : Rps X.K X.mg Hf vs l)
    (q : EG X.K X.mg ps W Hf σ (Pd X.K X.mg Q) (ret (D.lst l) env)) : ∀ p, H p = none → Q (.ref p) (upd H p (.lst vs)) := fun p np =>
  q _ _ (Ex.new (fresh_back S.ex np)) (S.froze np) _ (.lst (.inl (.inl upd_same)) (r.mono (Ex.new (fresh_back S.ex np))))
theorem new_tup {ps : Fg} {σ : L2.St} {Hf H : Hp} {env : DEnv} {Q : VK} {l : List D} {vs : List V} (S : SR X.K X.mg ps Hf H σ env) (r : Rps X.K X.mg Hf vs l)
    (q : EG X.K X.mg ps W Hf σ (Pd X.K X.mg Q) (ret (D.tup l) env)) : ∀ p, H p = none → Q (.ref p) (upd H p (.tup vs)) := fun p np =>
  q _ _ (Ex.new (fresh_back S.ex np)) (S.froze np) _ (.tup (.inl (.inl upd_same)) (r.mono (Ex.new (fresh_back S.ex np))))
theorem je_add (ja : JE X W a fa) (jb : JE X W b fb) : JE X W (.BinOp a .Add b pos) (m2 fa fb mAdd) := by
  refine je_op (op_add.or (op_add_str.or (op_catL.or op_catT))) (fun ps σ Hf H env x y dx dy Q S rx ry q => ?_) ja jb
  unfold mAdd at q
  split at q
  · rw [rx.int_inv, ry.int_inv]; exact .inl ⟨_, _, rfl, rfl, q.ret S _ (.int _)⟩
  · split at q
    · rename_i hz
      rw [rx.str_inv, ry.str_inv]; exact .inr (.inl ⟨_, _, rfl, rfl, hz, q.ret S _ (.str _)⟩)
    · exact q.elim
  · split at q
    · rename_i hz
      cases rx with
      | lst hx r1 => cases ry with
        | lst hy r2 => exact .inr (.inr (.inl ⟨_, _, _, _, rfl, rfl, ex_l S.ex hx, ex_l S.ex hy, by rw [r1.length, r2.length]; exact hz, new_lst S (r1.append r2) q⟩))
    · exact q.elim
  · split at q
    · rename_i l m hz
      cases rx with
      | tup hx r1 => cases ry with
        | tup hy r2 =>
          refine .inr (.inr (.inr ⟨_, _, _, _, rfl, rfl, ex_t S.ex hx, ex_t S.ex hy, ?_, by rw [r1.length, r2.length]; exact hz.2, fun w => ?_, fun _ => new_tup S (r1.append r2) q⟩))
          · intro w; subst w; cases r1; cases hz.1
          · subst w
            cases r2
            rw [List.append_nil] at q
            exact q.ret S _ (.tup hx r1)
    · exact q.elim
  · exact q.elim
/-! ### * -/
theorem je_mul (ja : JE X W a fa) (jb : JE X W b fb) : JE X W (.BinOp a .Mult b pos) (m2 fa fb (g2i iMul)) := je_op op_mulX (rj_rI (C := IntMulOk) fun _ _ _ _ _ => .int _) ja jb
def repOk (n : Nat) (k : Int) : Prop := -(2 ^ 63) ≤ k ∧ k < 2 ^ 63 ∧ n * k.toNat ≤ sizeLine
instance (n : Nat) (k : Int) : Decidable (repOk n k) := by unfold repOk; infer_instance
theorem rps_rep {K : PySem.W.Frag} {mg : MG} {H : Hp} {vs : List V} {ds : List D} (r : Rps K mg H vs ds) : ∀ n, Rps K mg H (List.replicate n vs).flatten (List.replicate n ds).flatten
  | 0 => .nil
  | n + 1 => by
    rw [List.replicate_succ, List.replicate_succ, List.flatten_cons, List.flatten_cons]
    exact r.append (rps_rep r n)
/-- [..] * n -/
def mRep (f : M (List D)) (fb : M D) : M D := bnd f fun ds => if szOk ds.length then bnd fb fun y => match y with
  | .int k => if repOk ds.length k then ret (.lst (List.replicate k.toNat ds).flatten) else stk
  | _ => stk else stk
theorem je_rep {p2 : Pos} (ja : JA X W es f) (jb : JE X W b fb) : JE X W (.BinOp (.List es p2) .Mult b pos) (mRep f fb) := by
  obtain ⟨t, p, h⟩ := ja.ex
  obtain ⟨tb, pb, hb⟩ := jb.ex
  refine ⟨⟨_, pe_op op_rep (pe_lst p) pb, fun ps σ Hf H env S Q z => ?_⟩⟩
  refine h ps σ Hf H env S _ (EG.bnd z fun ds e1 Hf1 H1 x1 S1 h1 vs r => ?_)
  split at h1
  · rename_i hz
    refine ⟨by rw [r.length]; exact hz, fun l nl => ?_⟩
    have S2 := S1.froze (o := .lst vs) nl
    have x2 : Ex Hf1 (upd Hf1 l (.lst vs)) := Ex.new (fresh_back S1.ex nl)
    refine hb ps σ _ _ e1 S2 _ (EG.bnd (EG.mono x2 h1) fun y e3 Hf3 H3 x3 S3 h3 v rv => ?_)
    split at h3
    · rename_i k
      split at h3
      · rename_i hc
        rw [rv.int_inv]
        refine ⟨l, k, vs, rfl, rfl, S3.ex _ _ (x3 _ _ upd_same), hc.1, hc.2.1, by rw [r.length]; exact hc.2.2, ?_⟩
        exact new_lst S3 ((rps_rep (r.mono (x2.trans x3)) _)) h3
      · exact h3.elim
    · exact h3.elim
  · exact h1.elim

/-! ### subscripts -/
def ixE {α : Type} (l : List α) (k : Int) : Option α := atI l k
theorem rps_at {K : PySem.W.Frag} {mg : MG} {H : Hp} {vs : List V} {ds : List D} {k : Int} {d : D} (r : Rps K mg H vs ds) (h : atI ds k = some d) : ∃ v, atI vs k = some v ∧ Rp K mg H v d := by
  unfold atI at h ⊢
  rw [r.length]
  cases q : ixN ds.length k with
  | none => rw [q] at h; cases h
  | some j =>
    rw [q] at h
    exact r.get h
def oM : Option D → M D
  | some d => ret d
  | none => stk
def dIx (x : D) (k : Int) : M D := match x with
  | .lst l => oM (atI l k)
  | .tup l => oM (atI l k)
  | .str z => if z.length ≤ sizeLine then oM ((atI z.cps.toList k).map fun c => .str ⟨#[c]⟩) else stk
  | _ => stk
def mIx (x y : D) : M D := match y with | .int k => dIx x k | _ => stk
theorem rj_ix : RJ X W (rIx X.K) mIx := by
  intro ps σ Hf H env x y dx dy Q S rx ry q
  unfold mIx at q
  split at q
  · rename_i k
    rw [ry.int_inv]
    cases dx with
    | lst l =>
      have q : EG X.K X.mg ps W Hf σ (Pd X.K X.mg Q) (oM (atI l k) env) := q
      cases hd : atI l k with
      | some d =>
        rw [hd] at q
        cases rx with
        | lst hx r => obtain ⟨v, hv, rv⟩ := rps_at r hd; exact .inl ⟨_, _, _, _, rfl, rfl, ex_l S.ex hx, hv, q.ret S _ rv⟩
      | none => rw [hd] at q; exact q.elim
    | tup l =>
      have q : EG X.K X.mg ps W Hf σ (Pd X.K X.mg Q) (oM (atI l k) env) := q
      cases hd : atI l k with
      | some d =>
        rw [hd] at q
        cases rx with
        | tup hx r => obtain ⟨v, hv, rv⟩ := rps_at r hd; exact .inr (.inl ⟨_, _, _, _, rfl, rfl, ex_t S.ex hx, hv, q.ret S _ rv⟩)
      | none => rw [hd] at q; exact q.elim
    | str z =>
      have q : EG X.K X.mg ps W Hf σ (Pd X.K X.mg Q) ((if z.length ≤ sizeLine then oM ((atI z.cps.toList k).map fun c => .str ⟨#[c]⟩) else stk) env) := q
      by_cases hz : z.length ≤ sizeLine
      · rw [if_pos hz] at q
        cases hc : atI z.cps.toList k with
        | some c => rw [hc] at q; rw [rx.str_inv]; exact .inr (.inr ⟨_, _, _, rfl, rfl, hz, hc, q.ret S _ (.str _)⟩)
        | none => rw [hc] at q; exact q.elim
      · rw [if_neg hz] at q; exact q.elim
    | non => exact q.elim
    | bl b => exact q.elim
    | int i => exact q.elim
    | obj c ns vs => exact q.elim
    | opq a => exact q.elim
  · exact q.elim
theorem je_ix (ja : JE X W a fa) (jb : JE X W b fb) (hs : PlainIx b := by exact fun _ _ => rfl) : JE X W (.Subscript a b pos) (m2 fa fb mIx) := by
  obtain ⟨ta, pa, ha⟩ := ja.ex
  obtain ⟨tb, pb, hb⟩ := jb.ex
  exact ⟨⟨_, pe_ix ix_seq pa pb hs, fun ps σ Hf H env S Q h => tOp_ok ha hb rj_ix S h⟩⟩
/-- the slot bears something -/
def has (i : Nat) {α : Type} (f : M α) : M α := fun env => match env[i]? with
  | some (.val _) => f env
  | some (.own _ _) => f env
  | _ => .stuck
/-- what the slot holds, read as data -/
def slD (env : DEnv) (i : Nat) : Option D := match env[i]? with
  | some (.val d) => some d
  | some (.own _ (.lst l)) => some (.lst l)
  | _ => none
def onSl (i : Nat) (g : D → M D) : M D := fun env => match slD env i with | some d => g d env | none => .stuck
theorem has_slot {K : PySem.W.Frag} {mg : MG} {ps : Fg} {Hf H : Hp} {σ : L2.St} {env : DEnv} {α : Type} {P : α → Hp → Hp → Prop} {f : M α} {i : Nat} (S : SR K mg ps Hf H σ env) (h : EG K mg ps W Hf σ P (has i f env)) :
    ∃ v, σ[i]? = some (some v) ∧ EG K mg ps W Hf σ P (f env) := by
  unfold has at h
  split at h
  · rename_i d q; obtain ⟨v, h1, _⟩ := S.val q; exact ⟨v, h1, h⟩
  · rename_i k o q; obtain ⟨p, _, h1, _⟩ := S.own q; exact ⟨_, h1, h⟩
  · exact h.elim
/-- the slot's value, seen where its object may still be changed -/
theorem sl_see {K : PySem.W.Frag} {mg : MG} {ps : Fg} {Hf H : Hp} {σ : L2.St} {env : DEnv} {i : Nat} {v : V} {d : D} (S : SR K mg ps Hf H σ env) (hv : σ[i]? = some (some v)) (h : slD env i = some d) :
    Rp K mg Hf v d ∨ ∃ p vs l, v = .ref p ∧ d = .lst l ∧ H p = some (.lst vs) ∧ Rps K mg Hf vs l := by
  unfold slD at h
  split at h
  · rename_i d' q
    cases h
    obtain ⟨u, h1, h2⟩ := S.val q
    rw [hv] at h1; cases h1
    exact .inl h2
  · rename_i k l q
    cases h
    obtain ⟨p, o, h1, _, h3, ⟨vs, rfl, r⟩, _⟩ := S.own q
    rw [hv] at h1; cases h1
    exact .inr ⟨p, vs, l, rfl, rfl, h3, r⟩
  · cases h
/-- x[e], x a name that may own its list -/
def mIxN (i : Nat) (fb : M D) : M D := has i (bnd fb fun y => onSl i fun x => mIx x y)
theorem je_ixN (V : Nm X N sc raw) {i : Nat} {x : Str} {p2 : Pos} (hv : okV N sc i x = true) (jb : JE X W b fb) (hs : PlainIx b := by exact fun _ _ => rfl) : JE X W (.Subscript (.Name x p2) b pos) (mIxN i fb) := by
  obtain ⟨hN, hv, hd, hcd⟩ := V.v hv
  obtain ⟨tb, pb, hb⟩ := jb.ex
  refine ⟨⟨_, pe_ix ix_seq (pe_var hN hv hd hcd) pb hs, fun ps σ Hf H env S Q z => ?_⟩⟩
  obtain ⟨v, hσ, z⟩ := has_slot S z
  refine ⟨v, hσ, hb ps σ Hf H env S _ (EG.bnd z fun y e1 Hf1 H1 x1 S1 h1 u ru => ?_)⟩
  unfold onSl at h1
  cases q : slD e1 i with
  | none => rw [q] at h1; exact h1.elim
  | some d =>
    rw [q] at h1
    rcases sl_see S1 hσ q with r | ⟨p, vs, l, rfl, rfl, hp, r⟩
    · exact rj_ix ps σ Hf1 H1 e1 v u d y Q S1 r ru h1
    · cases y with
      | int k =>
        have h1 : EG X.K X.mg ps W Hf1 σ (Pd X.K X.mg Q) (oM (atI l k) e1) := h1
        cases hd : atI l k with
        | some d =>
          rw [hd] at h1
          obtain ⟨v, hv, rv⟩ := rps_at r hd
          rw [ru.int_inv]
          exact .inl ⟨_, _, _, _, rfl, rfl, .inl (.inl hp), hv, h1.ret S1 _ rv⟩
        | none => rw [hd] at h1; exact h1.elim
      | non => exact h1.elim
      | bl b => exact h1.elim
      | str s => exact h1.elim
      | tup s => exact h1.elim
      | lst s => exact h1.elim
      | obj c ns vs => exact h1.elim
      | opq a => exact h1.elim
/-- len(x), x a name that may own its list -/
theorem je_lenN (V : Nm X N sc raw) {i : Nat} {x : Str} {p p2 : Pos} (hv : okV N sc i x = true) (hG : okG sc "len" = true) (hm : X.mg "len" = none) (he : starEach [.Name x p2] X.env = [(false, eval (.Name x p2) X.env)] := by rfl) : JE X W (.Call (.Name "len" p) [.Name x p2] [] pos) (has i (onSl i fun d => cLen [d])) := by
  obtain ⟨hN, hv, hd, hcd⟩ := V.v hv
  obtain ⟨hg, _, _⟩ := V.g hG
  refine ⟨⟨_, pe_callB (call_len_seq.or call_len_str) hg hm (by decide +kernel) (pa_cons (pe_var hN hv hd hcd) pa_nil he) (by decide) (by decide) he rfl, fun ps σ Hf H env S Q z => ?_⟩⟩
  obtain ⟨v, hσ, z⟩ := has_slot S z
  refine ⟨v, hσ, ?_⟩
  unfold onSl at z
  cases q : slD env i with
  | none => rw [q] at z; exact z.elim
  | some d =>
    rw [q] at z
    rcases sl_see S hσ q with r | ⟨p, vs, l, rfl, rfl, hp, r⟩
    · cases d with
      | lst l => cases r with
        | lst hq r => exact .inl ⟨_, _, rfl, .inl (ex_l S.ex hq), by rw [r.length]; exact z.ret S _ (.int _)⟩
      | tup l => cases r with
        | tup hq r => exact .inl ⟨_, _, rfl, .inr (ex_t S.ex hq), by rw [r.length]; exact z.ret S _ (.int _)⟩
      | str s =>
        rw [r.str_inv]
        have z : EG X.K X.mg ps W Hf σ (Pd X.K X.mg Q) ((if s.length ≤ sizeLine then ret (D.int s.length) else stk) env) := z
        by_cases hz : s.length ≤ sizeLine
        · rw [if_pos hz] at z; exact .inr ⟨_, rfl, hz, z.ret S _ (.int _)⟩
        · rw [if_neg hz] at z; exact z.elim
      | non => exact z.elim
      | bl b => exact z.elim
      | int b => exact z.elim
      | obj c ns vs => exact z.elim
      | opq a => exact z.elim
    · exact .inl ⟨_, _, rfl, .inl (.inl (.inl hp)), by rw [r.length]; exact z.ret S _ (.int _)⟩
/-! ### isinstance, for a built-in type -/
theorem je_isi {T : String} {p p2 : Pos} {x : Str} (V : Nm X N sc raw) (hG : okG sc "isinstance" = true) (hGT : okG sc x = true) (hm : X.mg "isinstance" = none) (hT : X.mg x = none) (hv : bootBuiltins x = some (.type T)) (ja : JE X W a fa)
    (he : starEach [a, .Name x p2] X.env = (false, eval a X.env) :: starEach [.Name x p2] X.env := by rfl) (he2 : starEach [.Name x p2] X.env = [(false, eval (.Name x p2) X.env)] := by rfl) (hpl : (backTo pos (starEach [.Name x p2] X.env)).any (·.1) = false := by rfl) :
    JE X W (.Call (.Name "isinstance" p) [a, .Name x p2] [] pos) (bnd fa fun d => cIsi T [d]) := by
  obtain ⟨hg, _, _⟩ := V.g hG
  obtain ⟨hgT, hd, hnn⟩ := V.g hGT
  obtain ⟨t, q, h⟩ := ja.ex
  refine ⟨⟨_, pe_callB call_isi hg hm (by decide +kernel) (pa_cons q (pa_cons (pe_bltn hgT hT hv (v := L2.V.ty T) rfl hnn hd) pa_nil he2) he) (by decide) (by decide) he hpl, fun ps σ Hf H env S Q z => ?_⟩⟩
  refine h ps σ Hf H env S _ (EG.bnd z fun d e1 Hf1 H1 x1 S1 h1 v rv => ?_)
  have key : ∀ (b : Bool), kitB (tyD d) T = some b → (∀ c ns vs, d ≠ .obj c ns vs) → (∀ a, d ≠ .opq a) → EG X.K X.mg ps W Hf1 σ (Pd X.K X.mg Q) (ret (D.bl b) e1) → rIsi X.K [v, L2.V.ty T] H1 Q := fun b hb hno hno2 q => by
    have rv' := rv.mono S1.ex
    have ty : TyX X.K H1 v (.type (tyD d)) := by
      cases rv' with
      | non => exact .base .non
      | bl b => exact .base (.bl b)
      | int b => exact .base (.int b)
      | str b => exact .base (.str b)
      | tup hq r =>
        rcases hq with (hq | ⟨o, hq⟩) | ⟨o, its, n, hk, hc, _⟩
        · exact .base (.tup hq)
        · exact .fTuple hq
        · exact .kTuple hk hc
      | lst hq r =>
        rcases hq with (hq | ⟨o, hq⟩) | ⟨o, its, n, hk, hc, _⟩
        · exact .base (.lst hq)
        · exact .base (.frz hq)
        · exact .kList hk hc
      | obj _ _ _ _ => exact (hno _ _ _ rfl).elim
      | opq _ => exact (hno2 _ rfl).elim
    exact ⟨v, .ty T, _, _, b, rfl, .ty T, ty, kit_ty hb, q.ret S1 _ (.bl _)⟩
  cases d with
  | obj c ns vs => exact h1.elim
  | opq a => exact h1.elim
  | non => unfold cIsi at h1; cases q : kitB (tyD .non) T with
    | none => simp only [q] at h1; exact h1.elim
    | some b => simp only [q] at h1; exact key b q (fun _ _ _ z => nomatch z) (fun _ z => nomatch z) h1
  | bl x => unfold cIsi at h1; cases q : kitB (tyD (.bl x)) T with
    | none => simp only [q] at h1; exact h1.elim
    | some b => simp only [q] at h1; exact key b q (fun _ _ _ z => nomatch z) (fun _ z => nomatch z) h1
  | int x => unfold cIsi at h1; cases q : kitB (tyD (.int x)) T with
    | none => simp only [q] at h1; exact h1.elim
    | some b => simp only [q] at h1; exact key b q (fun _ _ _ z => nomatch z) (fun _ z => nomatch z) h1
  | str x => unfold cIsi at h1; cases q : kitB (tyD (.str x)) T with
    | none => simp only [q] at h1; exact h1.elim
    | some b => simp only [q] at h1; exact key b q (fun _ _ _ z => nomatch z) (fun _ z => nomatch z) h1
  | tup x => unfold cIsi at h1; cases q : kitB (tyD (.tup x)) T with
    | none => simp only [q] at h1; exact h1.elim
    | some b => simp only [q] at h1; exact key b q (fun _ _ _ z => nomatch z) (fun _ z => nomatch z) h1
  | lst x => unfold cIsi at h1; cases q : kitB (tyD (.lst x)) T with
    | none => simp only [q] at h1; exact h1.elim
    | some b => simp only [q] at h1; exact key b q (fun _ _ _ z => nomatch z) (fun _ z => nomatch z) h1
/-! ### comparisons as tests -/
theorem jt_cmp {op : CmpOp} {r : R2} {g : D → D → M D} (ho : OpR X (compareOp op) r) (hr : RJ X W r g) (ja : JE X W a fa) (jb : JE X W b fb) (hm : behindInMarks op b = false := by first | exact nomark _ | rfl) : JT X W (.Compare a [op] [b] pos) (bnd (m2 fa fb g) mB) := by
  obtain ⟨ta, pa, ha⟩ := ja.ex
  obtain ⟨tb, pb, hb⟩ := jb.ex
  refine ⟨⟨_, pt_cmpR ho pa pb hm, fun ps σ Hf H env S Q h => ?_⟩⟩
  refine ha ps σ Hf H env S _ ?_
  have h : EG X.K X.mg ps W Hf σ (Pb Q) (bnd fa (fun x => bnd fb fun y => bnd (g x y) mB) env) := by
    have e : bnd (m2 fa fb g) mB env = bnd fa (fun x => bnd fb fun y => bnd (g x y) mB) env := by
      unfold m2 bnd
      cases fa env with
      | ok x e1 =>
        dsimp only
        cases fb e1 with
        | ok y e2 => rfl
        | exc _ _ _ => rfl
        | stuck => rfl
      | exc _ _ _ => rfl
      | stuck => rfl
    rw [← e]; exact h
  refine EG.bnd h fun x e1 Hf1 H1 x1 S1 h1 v rv => ?_
  refine hb ps σ Hf1 H1 e1 S1 _ (EG.bnd h1 fun y e2 Hf2 H2 x2 S2 h2 u ru => ?_)
  refine hr ps σ Hf2 H2 e2 v u x y _ S2 (rv.mono x2) ru (EG.bnd h2 fun z e3 Hf3 H3 x3 S3 h3 v3 rv3 => ?_)
  unfold mB at h3
  split at h3
  · exact ⟨_, rv3.bl_inv, EG.ret (W := W) (P := Pb Q) h3 S3⟩
  · exact h3.elim
theorem jt_lt (ja : JE X W a fa) (jb : JE X W b fb) : JT X W (.Compare a [.Lt] [b] pos) (bnd (m2 fa fb (g2i (iCmp fun i j => decide (i < j)))) mB) := jt_cmp op_lt (rj_rI0 fun _ _ _ _ _ => .bl _) ja jb
theorem jt_le (ja : JE X W a fa) (jb : JE X W b fb) : JT X W (.Compare a [.LtE] [b] pos) (bnd (m2 fa fb (g2i (iCmp fun i j => decide (i ≤ j)))) mB) := jt_cmp op_le (rj_rI0 fun _ _ _ _ _ => .bl _) ja jb
theorem jt_gt (ja : JE X W a fa) (jb : JE X W b fb) : JT X W (.Compare a [.Gt] [b] pos) (bnd (m2 fa fb (g2i (iCmp fun i j => decide (j < i)))) mB) := jt_cmp op_gt (rj_rI0 fun _ _ _ _ _ => .bl _) ja jb
theorem jt_ge (ja : JE X W a fa) (jb : JE X W b fb) : JT X W (.Compare a [.GtE] [b] pos) (bnd (m2 fa fb (g2i (iCmp fun i j => decide (j ≤ i)))) mB) := jt_cmp op_ge (rj_rI0 fun _ _ _ _ _ => .bl _) ja jb
theorem jt_eq (C : CtxOk X W) (ja : JE X W a fa) (jb : JE X W b fb) : JT X W (.Compare a [.Eq] [b] pos) (bnd (m2 fa fb mEq) mB) := jt_cmp (op_eqD C.hu) rj_eq ja jb
theorem jt_ne (C : CtxOk X W) (ja : JE X W a fa) (jb : JE X W b fb) : JT X W (.Compare a [.NotEq] [b] pos) (bnd (m2 fa fb mNe) mB) := jt_cmp (op_neD C.hu) rj_ne ja jb
theorem jt_isN {j : Nat} {p2 : Pos} (ja : JE X W a fa) : JT X W (.Compare a [.Is] [.Constant .none j p2] pos) (bnd fa fun x => ret (isNon x)) := by
  obtain ⟨ta, pa, ha⟩ := ja.ex
  refine ⟨⟨_, pt_cmpR op_isN pa pe_non (nomark _), fun ps σ Hf H env S Q h => ?_⟩⟩
  refine ha ps σ Hf H env S _ (EG.bnd h fun x e1 Hf1 H1 x1 S1 h1 v rv => ⟨rfl, _, rfl, ?_⟩)
  rw [rv.non_iff]
  have q : Q (isNon x) H1 := EG.ret (W := W) (P := Pb Q) h1 S1
  cases x <;> exact q
theorem jt_isNN {j : Nat} {p2 : Pos} (ja : JE X W a fa) : JT X W (.Compare a [.IsNot] [.Constant .none j p2] pos) (bnd fa fun x => ret (!isNon x)) := by
  obtain ⟨ta, pa, ha⟩ := ja.ex
  refine ⟨⟨_, pt_cmpR op_notN pa pe_non (nomark _), fun ps σ Hf H env S Q h => ?_⟩⟩
  refine ha ps σ Hf H env S _ (EG.bnd h fun x e1 Hf1 H1 x1 S1 h1 v rv => ⟨rfl, _, rfl, ?_⟩)
  rw [rv.non_iff]
  have q : Q (!isNon x) H1 := EG.ret (W := W) (P := Pb Q) h1 S1
  cases x <;> exact q
end
end DL

/-! DLe: callees, the law's own promise, its end. -/
namespace DL
open PySem PySem.Spec PyProof.Rows L2 Evl
/-- a def that stands at the module's name x and is worth F, by level k -/
structure Callee (P : Program) (w : World) (K : PySem.W.Frag) (mg : MG) (base : Heap) (x : Str) (k n : Nat) (F : List D → Rs) : Prop where
  ex : ∃ f fd ps, FnOk P w K mg base (L2N.CX P w) k f fd ps (spP K mg n F) ∧ mg x = some (.ref f) ∧ PySem.W.keepIn K (.ref f) = true ∧ Binds K fd ps []
theorem Callee.cal {X : Cx} {x : Str} {k k' n : Nat} {F : List D → Rs} (c : Callee X.prog X.w X.K X.mg X.base x k n F) (hr : Room k' X.A) (h : k ≤ k' := by decide) : Cal X x n F := by
  obtain ⟨f, fd, ps, G, hm, hk, hb⟩ := c.ex
  exact ⟨⟨k, f, fd, ps, G, hr.mono h, hm, hk, hb⟩⟩
section
variable {P : Program} {w : World} {K : PySem.W.Frag} {mg : MG} {base : Heap}
theorem Callee.imp {x : Str} {k n : Nat} {F F' : List D → Rs} (c : Callee P w K mg base x k n F) (e : ∀ ds, ds.length = n → F' ds ≠ .stuck → F ds = F' ds) : Callee P w K mg base x k n F' := by
  obtain ⟨f, fd, ps, G, hm, hk, hb⟩ := c.ex
  exact ⟨⟨f, fd, ps, fn_imp G e, hm, hk, hb⟩⟩
theorem callee_of {x : Str} {f : Addr} {fd : FuncData} {ps : List Str} {k n : Nat} {F : List D → Rs} (G : FnOk P w K mg base (L2N.CX P w) k f fd ps (spP K mg n F)) (hm : mg x = some (.ref f)) (hk : PySem.W.keepIn K (.ref f) = true) (hb : Binds K fd ps []) : Callee P w K mg base x k n F := ⟨⟨f, fd, ps, G, hm, hk, hb⟩⟩
end
/-- the law's promise: the script, its bits; it hands back True -/
def spL (K : PySem.W.Frag) : Sp := fun vs H Q _ => ∃ (a : Addr) (ns : List Int), vs = [.ref a] ∧ SqL K H a (ns.map V.int) ∧ ns.length ≤ 63 ∧ (∀ z ∈ ns, Builtin.Int.intBits z ≤ 1048576) ∧ ∀ H', Q (.bl true) H'
theorem rps_ofInts {K : PySem.W.Frag} {mg : MG} {H : Hp} : ∀ ns : List Int, Rps K mg H (ns.map V.int) (ns.map D.int)
  | [] => .nil
  | n :: r => .cons (.int n) (rps_ofInts r)
theorem law_of {P : Program} {w : World} {K : PySem.W.Frag} {mg : MG} {base : Heap} {k : Nat} {f : Addr} {fd : FuncData} {ps : List Str} {F : List D → Rs}
    (G : FnOk P w K mg base (L2N.CX P w) k f fd ps (spP K mg 1 F)) (h : ∀ ns : List Int, ns.length ≤ 63 → (∀ z ∈ ns, Builtin.Int.intBits z ≤ 1048576) → F [.lst (ns.map .int)] = .ok (.bl true)) :
    FnOk P w K mg base (L2N.CX P w) k f fd ps (spL K) := by
  refine G.imp fun vs H Q E q => ?_
  obtain ⟨a, ns, rfl, hS, hl, hb, q⟩ := q
  refine ⟨rfl, H, [.lst (ns.map .int)], Ex.refl H, .cons (.lst hS (rps_ofInts ns)) .nil, ?_⟩
  rw [h ns hl hb]
  exact fun v Hf' H' _ _ _ r => by rw [r.bl_inv]; exact q H'
theorem cx_end (P : Program) (w : World) : ∀ (H : Hp) (s : Shared) (e : Value) (s' : Shared), L2N.CX P w [] H s (fun _ _ _ => False) e s' → False := fun H s e s' h => by
  obtain ⟨_, _, _, _, _, _, _, _, _, _, _, _, z⟩ := h
  exact z
/-! ### the end, where what stands at the start is told to be blind as well -/
/-- an address that the law's own heap may track: the script's alone -/
theorem only_list {H : Hp} {g : Heap} {sc : Addr} {args : List Value} {o : Obj} {b : Addr} (tr : ∀ c, H c ≠ none → c = sc)
    (hs : g.get? sc = some { cls := .type "list", data := .seq args.toArray }) (hb : g.get? b = some o) (ne : o.cls ≠ .type "list") : H b = none := by
  by_cases z : H b = none
  · exact z
  · have w := tr b z
    rw [w, hs] at hb
    exact absurd (congrArg Obj.cls (Option.some.inj hb)).symm ne
theorem hid_map {H : Hp} {g : Heap} {sc : Addr} {args : List Value} {b : Addr} {m : Str → Option Value} (tr : ∀ c, H c ≠ none → c = sc)
    (hs : g.get? sc = some { cls := .type "list", data := .seq args.toArray }) (n : g.Ns b m) : (hidT g H).Ns b m := by
  obtain ⟨o, es, ep, h1, h2, h3⟩ := n
  refine ⟨o, es, ep, hidT_get h1 ?_, h2, h3⟩
  by_cases z : H b = none
  · exact z
  · have w := tr b z
    rw [w, hs] at h1
    have := congrArg Obj.data (Option.some.inj h1)
    rw [h2] at this; cases this
theorem hid_blind {H : Hp} {g : Heap} {sc : Addr} {args : List Value} (tr : ∀ c, H c ≠ none → c = sc)
    (hs : g.get? sc = some { cls := .type "list", data := .seq args.toArray }) (z : g.NoSeer) : (hidT g H).NoSeer where
  statics := let ⟨m, h, r⟩ := z.statics; ⟨m, hid_map tr hs h, r⟩
  mods := let ⟨m, h, r⟩ := z.mods; ⟨m, hid_map tr hs h, r⟩
  imp := let ⟨m, h, r⟩ := z.imp; ⟨m, hid_map tr hs h, r⟩
  main := by
    obtain ⟨m, bm, ob, h, r1, r2, r3, r4⟩ := z.main
    exact ⟨m, bm, ob, hid_map tr hs h, r1, hidT_get r2 (only_list tr hs r2 (by rw [r3]; decide)), r3, r4⟩
section
variable {P : Program} {w : World} {K : PySem.W.Frag} {mg mb : Str → Option Value} {CX : CXT} {k : Nat} {fa sc : Addr} {fd : FuncData} {x : Str} {sp : Sp} {st : Shared} {args : List Value} {ns : List Int}
/-- the law called over one tracked heap -/
theorem callS_at {H : Hp} (KX : K.In st.heap) (hg : st.heap.Ns mainGlobals mg) (hb : st.heap.Ns builtinsNs mb) (hbb : ∀ y : Str, y ≠ "__name__" → mb y = bootBuiltins y) (lim : st.heap.NoLimit) (gn : st.gens = #[])
    (sr : st.heap.NoSeer) (hs : st.heap.get? sc = some { cls := .type "list", data := .seq args.toArray }) (hr : Room k callerA) (ok : HOk P w H st.heap) (tr : ∀ c, H c ≠ none → c = sc) (kn : H sc ≠ none → K.lookup sc = none) (on : Only H)
    (F : ∀ base : Heap, K.In base → base.Ns mainGlobals mg → base.NoSeer → FnOk P w K mg base CX k fa fd [x] sp) (bnd : ∀ (s : Shared) (u : Value), BindsTo s fd ⟨[u], []⟩ [(x, u)]) (hsp : sp [.ref sc] H (fun v _ => v = .bl true) fun _ _ _ => False)
    (hCX : ∀ G e s', CX [] G st (fun _ _ _ => False) e s' → False) :
    codeAny (model P w) callerA (.call (.ref fa) ⟨[.ref sc], []⟩) (fun r s' => r = .ok (.ret (.bool true)) ∧ OldK st.heap s'.heap ∧ s'.os = st.os ∧ AllBare s'.gens) st := by
  have hK : K.In (hidT st.heap H) := fun c o e => by
    refine hidT_get (KX c o e) ?_
    by_cases z : H c = none
    · exact z
    · have y := tr c z
      rw [y] at e z
      rw [kn z] at e; cases e
  have md : Mod K mg (hidT st.heap H) := by
    obtain ⟨mc, q1, q2⟩ := lim
    exact ⟨hK, hid_map tr hs hg, ⟨mb, hid_map tr hs hb, hbb⟩, ⟨mc, hid_map tr hs q1, q2⟩⟩
  have start : Env0 P w K mg (hidT st.heap H) callerA [] st H := ⟨rfl, md, fun c o e => of_hidT e, by rw [hidT_size]; exact Nat.le_refl _, trivial, (fun c hc => by cases hc), ok, .of_eq gn⟩
  have run := (F _ hK (hid_map tr hs hg) (hid_blind tr hs sr)).run callerA [] st H ⟨[.ref sc], []⟩ [.ref sc] [.ref sc] (fun v _ => v = .bl true) (fun _ _ _ => False) hr start (bnd st (.ref sc)) (.cons rfl .nil) hsp
  refine codeAny_mono run fun r s' q => ?_
  rcases r with e | fl
  · exact (hCX H e s' q).elim
  · rcases fl with _ | _ | _ | u
    · exact q.elim
    · exact q.elim
    · exact q.elim
    · obtain ⟨v, G, q1, q2, q3, q4, q5, rfl⟩ := q
      cases (show u = Value.bool true from q5)
      refine ⟨rfl, .of_keep fun c o e => ?_, q1, q2⟩
      rcases on c with z | ⟨o2, ys, z⟩
      · exact q3.keep c o e z (by intro y; cases y) (by intro y; cases y)
      · have a1 := (ok c _ z).1
        have a2 := (q4 c _ (q3.frzs c o2 _ z)).1
        rw [e] at a1
        rw [Option.some.inj a1]; exact a2
theorem law_callS (KX : K.In st.heap) (hg : st.heap.Ns mainGlobals mg) (hb : st.heap.Ns builtinsNs mb) (hbb : ∀ y : Str, y ≠ "__name__" → mb y = bootBuiltins y) (lim : st.heap.NoLimit) (gn : st.gens = #[]) (sr : st.heap.NoSeer)
    (hs : st.heap.get? sc = some { cls := .type "list", data := .seq args.toArray }) (hi : IntsAre args ns) (hl : ns.length ≤ sizeLine) (hr : Room k callerA)
    (F : ∀ base : Heap, K.In base → base.Ns mainGlobals mg → base.NoSeer → FnOk P w K mg base CX k fa fd [x] sp) (bnd : ∀ (s : Shared) (u : Value), BindsTo s fd ⟨[u], []⟩ [(x, u)])
    (hsp : ∀ H : Hp, Only H → SqL K H sc (ns.map V.int) → sp [.ref sc] H (fun v _ => v = .bl true) fun _ _ _ => False)
    (hCX : ∀ G e s', CX [] G st (fun _ _ _ => False) e s' → False) :
    codeAny (model P w) callerA (.call (.ref fa) ⟨[.ref sc], []⟩) (fun r s' => r = .ok (.ret (.bool true)) ∧ OldK st.heap s'.heap ∧ s'.os = st.os ∧ AllBare s'.gens) st := by
  have rel := vals_ints hi
  have len := hi.length
  cases q : K.lookup sc with
  | none =>
    let H : Hp := fun c => if c = sc then some (.frz { cls := .type "list", data := .seq args.toArray } (.lst (ns.map V.int))) else none
    have at1 : H sc = some (.frz { cls := .type "list", data := .seq args.toArray } (.lst (ns.map V.int))) := if_pos rfl
    have at0 : ∀ c, c ≠ sc → H c = none := fun c z => if_neg z
    have on : Only H := fun c => by
      by_cases z : c = sc
      · exact .inr ⟨_, _, by rw [z]; exact at1⟩
      · exact .inl (at0 c z)
    refine callS_at (H := H) KX hg hb hbb lim gn sr hs hr (fun c u e => ?_) (fun c z => ?_) (fun _ => q) on F bnd (hsp H on (.inl (.inr ⟨_, at1⟩))) hCX
    · by_cases z : c = sc
      · rw [z] at e ⊢
        rw [at1] at e; cases e
        exact ⟨hs, by simpa using hl, args, _, rel, hs⟩
      · rw [at0 c z] at e; cases e
    · by_cases y : c = sc
      · exact y
      · exact absurd (at0 c y) z
  | some o =>
    have e := (KX sc o q).symm.trans hs
    cases e
    have on : Only (fun _ => none) := fun _ => .inl rfl
    refine callS_at (H := fun _ => none) KX hg hb hbb lim gn sr hs hr (fun c u e => by cases e) (fun c z => absurd rfl z) (fun z => absurd rfl z) on F bnd (hsp _ on (.inr ?_)) hCX
    exact ⟨_, args.toArray, _, q, rfl, rfl, rfl, by simpa [len] using hl, by simpa using rel⟩
end
theorem walk_ofS {lw : PySem.W.OpenLaw} {m lev : Nat} {pr : Program} {lo : List Str} {XQ : (Str → Option Value) → Heap → Prop} {YQ : World → Heap → Prop} {df : DefRec} {KK : Params → PySem.W.Frag} {CY : World → CXT} {sq : World → Sp} {y : Str}
    (im : importsNone pr = true) (h1 : lw.most = some m) (h2 : m ≤ sizeLine) (h3 : df.params.defaults = []) (h4 : Room lev callerA) (inK : ∀ (v : World) (g : Heap), YQ v g → (KK v.params).In g)
    (F : ∀ (v : World) (mg : Str → Option Value) (fa : Addr) (g : Heap), (KK v.params).In g → g.Ns mainGlobals mg → mg df.name = some (.ref fa) → ∃ fd : FuncData, (∀ (s : Shared) (u : Value), BindsTo s fd ⟨[u], []⟩ [(y, u)]) ∧
      ∀ base : Heap, (KK v.params).In base → base.Ns mainGlobals mg → base.NoSeer → FnOk lw.prog v (KK v.params) mg base (CY v) lev fa fd [y] (sq v))
    (hq : ∀ (v : World) (H : Hp) (a : Addr) (ns : List Int), ns.length ≤ m → (∀ z ∈ ns, Builtin.Int.intBits z ≤ 1048576) → Only H → SqL (KK v.params) H a (ns.map V.int) → sq v [.ref a] H (fun u _ => u = .bl true) fun _ _ _ => False)
    (hC : ∀ (v : World) (H : Hp) (s : Shared) (e : Value) (s' : Shared), CY v [] H s (fun _ _ _ => False) e s' → False) : PySem.W.WalkO pr lo XQ YQ lw.row.toRowW df [] (fun f vs => PySem.call f vs) := by
  refine Att.attach_callB h1 h3 fun v s0 st mg mb fa ob pm cd doc a vs ns Gr Yw ho hd hcd nm hob hin hlen bits gn => ?_
  obtain ⟨fd, bd, run⟩ := F v mg fa _ (inK v _ Yw) Gr.T.g nm
  exact law_callS (inK v _ Yw) Gr.T.g Gr.T.b Gr.T.builtins Gr.T.nolimit gn (Gr.T.seer im) hob hin (Nat.le_trans hlen h2) h4 run bd (fun H on S => hq v H a ns hlen bits on S) fun H e s' => hC v H st e s'
end DL

/-! DLf: walks over sequences, comprehensions, list and tuple of a sequence, sums. -/
namespace DL
open PySem PySem.Spec PyProof.Rows L2 Evl
section
variable {X : Cx} {W : WX} {a b c e : Expr} {es : List Expr} {fa fb fc : M D} {pos : Pos} {f : M (List D)} {N : List Str} {sc raw : Scope}
/-! ### what is walked -/
theorem pi_or {tg e : Expr} {w1 w2 : TI} (h : PI X tg e w1) (k : PI X tg e w2) : PI X tg e (fun σ H R => w1 σ H R ∨ w2 σ H R) :=
  ⟨fun pins s σ H R I z => z.elim (h.run pins s σ H R I) (k.run pins s σ H R I)⟩
theorem sqL_same {K : PySem.W.Frag} {H H' : Hp} {a : Addr} {xs ys : List V} (e : Ex H H') (h : SqL K H a xs) (h' : SqL K H' a ys) (inj : SqL K H' a xs → SqL K H' a ys → xs = ys) : xs = ys := inj (ex_l e h) h'
def signsD (z : Str) : List D := z.cps.toList.map fun c => .str ⟨#[c]⟩
theorem itok_list {K : PySem.W.Frag} {mg : MG} {Hf H : Hp} {a : Addr} {vs : List V} {ds : List D} (x : Ex Hf H) (h : SqL K Hf a vs) (r : Rps K mg Hf vs ds) : ItOk K mg Hf (Itl K a) ds where
  go := fun i d hd ps σ env Hf2 H2 x2 S => by
    obtain ⟨v, hv, rv⟩ := r.get hd
    have h2 : SqL K H2 a vs := ex_l S.ex (ex_l x2 h)
    exact ⟨⟨vs, v, h2, hv⟩, fun y H3 z => ⟨Hf2, Ex.refl _, by rw [z.1]; exact S, by
      have := z.2 vs h2
      rw [hv] at this; cases this
      exact rv.mono x2⟩⟩
  stop := fun i hi ps σ env Hf2 H2 x2 S => ⟨vs, ex_l S.ex (ex_l x2 h), by rw [r.length]; exact hi⟩
theorem itok_tup {K : PySem.W.Frag} {mg : MG} {Hf H : Hp} {a : Addr} {vs : List V} {ds : List D} (x : Ex Hf H) (h : SqT K Hf a vs) (r : Rps K mg Hf vs ds) : ItOk K mg Hf (Itt K a) ds where
  go := fun i d hd ps σ env Hf2 H2 x2 S => by
    obtain ⟨v, hv, rv⟩ := r.get hd
    have h2 : SqT K H2 a vs := ex_t S.ex (ex_t x2 h)
    exact ⟨⟨vs, v, h2, hv⟩, fun y H3 z => ⟨Hf2, Ex.refl _, by rw [z.1]; exact S, by
      have := z.2 vs h2
      rw [hv] at this; cases this
      exact rv.mono x2⟩⟩
  stop := fun i hi ps σ env Hf2 H2 x2 S => ⟨vs, ex_t S.ex (ex_t x2 h), by rw [r.length]; exact hi⟩
theorem itok_str {K : PySem.W.Frag} {mg : MG} {Hf : Hp} {z : Str} : ItOk K mg Hf (Its z) (signsD z) where
  go := fun i d hd ps σ env Hf2 H2 x2 S => by
    unfold signsD at hd
    rw [List.getElem?_map] at hd
    cases q : z.cps.toList[i]? with
    | none => rw [q] at hd; cases hd
    | some c =>
      rw [q] at hd; cases hd
      have q' : z.cps[i]? = some c := by simpa using q
      have hl : i < z.cps.size := (Array.getElem?_eq_some_iff.mp q').1
      exact ⟨hl, fun y H3 w => ⟨Hf2, Ex.refl _, by rw [w.1]; exact S, by
        obtain ⟨c', h1, h2⟩ := w.2
        rw [q'] at h1; cases h1
        rw [h2]; exact .str _⟩⟩
  stop := fun i hi ps σ env Hf2 H2 x2 S => by
    unfold signsD at hi
    have h2 : z.cps.size ≤ i := by simpa using hi
    exact h2
def mSeq (f : M D) : M (List D) := bnd f fun d => match d with
  | .lst l => ret l
  | .tup l => ret l
  | .str z => ret (signsD z)
  | _ => stk
/-- for x in a list, a tuple, a text that stands still -/
theorem ji_seq {tg : Expr} (j : JE X W e fa) : JI X W tg e (mSeq fa) := by
  obtain ⟨t, p, h⟩ := j.ex
  refine ⟨⟨_, pi_or (pi_list p) (pi_or (pi_tup p) (pi_str p)), fun ps σ Hf H env S R z => ?_⟩⟩
  -- the value decides which of the three it is
  have key : ∀ (k : Nat) {P : D → Hp → Hp → Prop}, (∀ d e1 Hf1 H1, Ex Hf Hf1 → SR X.K X.mg ps Hf1 H1 σ e1 → EG X.K X.mg ps W Hf1 σ (fun ds Hf' H' => ∀ J, ItOk X.K X.mg Hf' J ds → R J H') ((match d with | .lst l => ret l | .tup l => ret l | .str z => ret (signsD z) | _ => stk : M (List D)) e1) → P d Hf1 H1) → EG X.K X.mg ps W Hf σ P (fa env) := fun k P hk =>
    EG.bnd z fun d e1 Hf1 H1 x1 S1 h1 => hk d e1 Hf1 H1 x1 S1 h1
  unfold mSeq DL.bnd at z
  cases q : fa env with
  | ok d e1 =>
    rw [q] at z
    cases d with
    | lst l =>
      refine .inl (h ps σ Hf H env S _ ?_)
      rw [q]
      intro Hf1 H1 x1 S1 v rv
      cases rv with
      | lst hq r => exact ⟨_, rfl, ⟨_, ex_l S1.ex hq⟩, z Hf1 H1 x1 S1 _ (itok_list S1.ex hq r)⟩
    | tup l =>
      refine .inr (.inl (h ps σ Hf H env S _ ?_))
      rw [q]
      intro Hf1 H1 x1 S1 v rv
      cases rv with
      | tup hq r => exact ⟨_, rfl, ⟨_, ex_t S1.ex hq⟩, z Hf1 H1 x1 S1 _ (itok_tup S1.ex hq r)⟩
    | str w =>
      refine .inr (.inr (h ps σ Hf H env S _ ?_))
      rw [q]
      intro Hf1 H1 x1 S1 v rv
      exact ⟨w, rv.str_inv, z Hf1 H1 x1 S1 _ itok_str⟩
    | non => exact z.elim
    | bl b => exact z.elim
    | int b => exact z.elim
    | obj _ _ _ => exact z.elim
    | opq _ => exact z.elim
  | exc x p e1 =>
    rw [q] at z
    refine .inl (h ps σ Hf H env S _ ?_)
    rw [q]; exact z
  | stuck => rw [q] at z; exact z.elim

/-! ### list(x), tuple(x), sum(x) -/
def cList : List D → M D := fun ds => match ds with | [.lst l] => ret (.lst l) | [.tup l] => ret (.lst l) | _ => stk
def cTuple : List D → M D := fun ds => match ds with | [.lst l] => ret (.tup l) | [.tup l] => ret (.tup l) | _ => stk
theorem je_list {p : Pos} (V : Nm X N sc raw) (hG : okG sc "list" = true) (hm : X.mg "list" = none) (ja : JA X W [a] f) (he : starEach [a] X.env = (false, eval a X.env) :: starEach [] X.env := by rfl) : JE X W (.Call (.Name "list" p) [a] [] pos) (bnd f cList) := by
  refine je_callTy call_list_of (fun ps σ Hf H env xs ds Q S rx q => ?_) V hG hm ja (by decide +kernel) he
  unfold cList at q
  split at q
  · cases rx with
    | cons r1 r2 => cases r2; cases r1 with
      | lst hq r => exact ⟨_, _, rfl, .inl (ex_l S.ex hq), new_lst S r q⟩
  · cases rx with
    | cons r1 r2 => cases r2; cases r1 with
      | tup hq r => exact ⟨_, _, rfl, .inr (ex_t S.ex hq), new_lst S r q⟩
  · exact q.elim
theorem je_tuple {p : Pos} (V : Nm X N sc raw) (hG : okG sc "tuple" = true) (hm : X.mg "tuple" = none) (ja : JA X W [a] f) (he : starEach [a] X.env = (false, eval a X.env) :: starEach [] X.env := by rfl) : JE X W (.Call (.Name "tuple" p) [a] [] pos) (bnd f cTuple) := by
  refine je_callTy call_tuple_of (fun ps σ Hf H env xs ds Q S rx q => ?_) V hG hm ja (by decide +kernel) he
  unfold cTuple at q
  split at q
  · cases rx with
    | cons r1 r2 => cases r2; cases r1 with
      | lst hq r => exact ⟨_, _, rfl, .inl ⟨ex_l S.ex hq, new_tup S r q⟩⟩
  · cases rx with
    | cons r1 r2 => cases r2; cases r1 with
      | tup hq r => exact ⟨_, _, rfl, .inr ⟨ex_t S.ex hq, q.ret S _ (.tup hq r)⟩⟩
  · exact q.elim
/-- the whole numbers of a list, if it holds nothing else -/
def asInts : List D → Option (List Int)
  | [] => some []
  | .int i :: r => (asInts r).map (i :: ·)
  | _ => none
theorem asInts_eq : ∀ {l : List D} {ns : List Int}, asInts l = some ns → l = ns.map .int
  | [], ns, h => by cases h; rfl
  | .int i :: r, ns, h => by
    unfold asInts at h
    cases q : asInts r with
    | none => rw [q] at h; cases h
    | some m => rw [q] at h; cases h; rw [asInts_eq q]; rfl
  | .non :: _, _, h => by cases h
  | .bl _ :: _, _, h => by cases h
  | .str _ :: _, _, h => by cases h
  | .tup _ :: _, _, h => by cases h
  | .lst _ :: _, _, h => by cases h
  | .obj _ _ _ :: _, _, h => by cases h
  | .opq _ :: _, _, h => by cases h
theorem asInts_map : ∀ ns : List Int, asInts (ns.map .int) = some ns
  | [] => rfl
  | n :: r => by
    show (asInts (r.map .int)).map (n :: ·) = _
    rw [asInts_map r]; rfl
def oI (o : Option (List Int)) : M D := match o with | some ns => ret (.int ns.sum) | none => stk
def cSum : List D → M D := fun ds => match ds with | [.lst l] => oI (asInts l) | _ => stk
theorem je_sum {p : Pos} (C : CtxOk X W) (V : Nm X N sc raw) (hG : okG sc "sum" = true) (hm : X.mg "sum" = none) (ja : JA X W [a] f) (he : starEach [a] X.env = (false, eval a X.env) :: starEach [] X.env := by rfl) : JE X W (.Call (.Name "sum" p) [a] [] pos) (bnd f cSum) := by
  refine je_callB (cr_sum C.calm) (fun ps σ Hf H env xs ds Q S rx q => ?_) V hG hm ja (by decide +kernel) he
  unfold cSum at q
  split at q
  · rename_i l
    cases w : asInts l with
    | none => rw [w] at q; exact q.elim
    | some ns =>
      rw [w] at q
      have e := asInts_eq w
      subst e
      cases rx with
      | cons r1 r2 => cases r2; cases r1 with
        | lst hq r =>
          have ev := r.ints
          subst ev
          exact ⟨_, ns, rfl, ex_l S.ex hq, q.ret S _ (.int _)⟩
  · exact q.elim

/-! ### comprehensions -/
/-- the block's own context, seen from X -/
structure Bl (X X' : Cx) : Prop where
  prog : X'.prog = X.prog
  w : X'.w = X.w
  K : X'.K = X.K
  mg : X'.mg = X.mg
  base : X'.base = X.base
  A : X'.A = X.A
theorem Bl.z {X X' : Cx} (B : Bl X X') {x : Str} (h : X.mg x = none) : X'.mg x = none := by rw [B.mg]; exact h
theorem Bl.ze {X X' : Cx} (B : Bl X X') {x : Str} {v : Value} (h : X.mg x = some v) : X'.mg x = some v := by rw [B.mg]; exact h
theorem Bl.cal {X X' : Cx} (B : Bl X X') {x : Str} {n : Nat} {F : List D → Rs} (c : Cal X x n F) : Cal X' x n F := by
  obtain ⟨k, f, fd, ps, h⟩ := c.ex
  refine ⟨⟨k, f, fd, ps, ?_⟩⟩
  rw [B.prog, B.w, B.K, B.mg, B.base, B.A]
  exact h
abbrev WF : WX := fun _ _ _ _ => False
def wipeE (e : DEnv) : List Nat → DEnv
  | [] => e
  | v :: vs => (wipeE e vs).set v .no
theorem SR.wipe {K : PySem.W.Frag} {mg : MG} {ps : Fg} {Hf H : Hp} {σ : L2.St} {e : DEnv} (S : SR K mg ps Hf H σ e) : ∀ vs : List Nat, SR K mg ps Hf H (L2.wipe σ vs) (wipeE e vs)
  | [] => S
  | v :: vs => (S.wipe vs).drop v none
def noOwn (e : DEnv) (vs : List Nat) : Bool := vs.all fun v => match e[v]? with | some (.own _ _) => false | _ => true
/-- the slots vs as they were -/
def backE (e0 e : DEnv) : List Nat → DEnv
  | [] => e
  | v :: vs => (backE e0 e vs).set v (e0.getD v .no)
theorem backE_len {e0 e : DEnv} : ∀ vs, (backE e0 e vs).length = e.length
  | [] => rfl
  | v :: vs => by unfold backE; rw [List.length_set, backE_len vs]
theorem backE_out {e0 e : DEnv} {i : Nat} : ∀ {vs}, i ∉ vs → (backE e0 e vs)[i]? = e[i]?
  | [], _ => rfl
  | v :: vs, h => by
    unfold backE
    rw [List.getElem?_set_ne (fun z => h (by subst z; exact List.mem_cons_self)), backE_out (fun z => h (List.mem_cons_of_mem _ z))]
theorem backE_in {e0 e : DEnv} {i : Nat} (hl : i < e.length) : ∀ {vs}, i ∈ vs → (backE e0 e vs)[i]? = some (e0.getD i .no)
  | [], h => by cases h
  | v :: vs, h => by
    unfold backE
    by_cases hv : v = i
    · subst hv; rw [List.getElem?_set_self (by rw [backE_len]; exact hl)]
    · rw [List.getElem?_set_ne hv]
      exact backE_in hl ((List.mem_cons.mp h).resolve_left fun z => hv z.symm)
theorem SR.back {K : PySem.W.Frag} {mg : MG} {ps : Fg} {Hf0 H0 Hf H : Hp} {σ : L2.St} {e0 e : DEnv} {vs : List Nat} (S0 : SR K mg ps Hf0 H0 σ e0) (x : Ex Hf0 Hf) (S : SR K mg ps Hf H (L2.wipe σ vs) e) (no : noOwn e0 vs = true) : SR K mg ps Hf H σ (backE e0 e vs) := by
  have hl : e.length = e0.length := by rw [← S.len, L2.wipe_length, S0.len]
  have noO : ∀ i ∈ vs, ∀ k l, e0[i]? ≠ some (.own k l) := fun i hi k l q => by
    have := List.all_eq_true.mp no i hi
    rw [q] at this; cases this
  refine S.slots (by rw [backE_len, hl, S0.len]) fun i s h => ?_
  by_cases hi : i ∈ vs
  · have hlt : i < e.length := by
      have := (List.getElem?_eq_some_iff.mp h).1; rw [backE_len] at this; exact this
    rw [backE_in hlt hi] at h
    cases h
    have h0 : i < e0.length := by omega
    obtain ⟨v, hv, r⟩ := S0.sl i _ (List.getElem?_eq_getElem h0)
    rw [List.getD_eq_getElem?_getD, List.getElem?_eq_getElem h0]
    refine ⟨v, hv, ?_, fun k l q => (noO i hi k l (by rw [List.getElem?_eq_getElem h0]; exact congrArg some q)).elim⟩
    show SlR K mg ps.ps Hf H v e0[i]
    cases q : e0[i] with
    | no => trivial
    | val d => rw [q] at r; obtain ⟨u, a, b⟩ := r; exact ⟨u, a, b.mono x⟩
    | own k l => exact (noO i hi k l (by rw [List.getElem?_eq_getElem h0, q])).elim
  · rw [backE_out hi] at h
    obtain ⟨v, hv, r⟩ := S.sl i s h
    have hv' := hv
    rw [L2.wipe_out hi] at hv
    exact ⟨v, hv, r, fun k l q => ⟨h, hv'⟩⟩
theorem Nob.upd {H : Hp} {σ : L2.St} {e : DEnv} {a : Addr} {o : HO} (n : Nob H σ e a) : Nob (L2.upd H a o) σ e a := fun i k l p q1 q2 f => by
  by_cases hp : p = a
  · subst hp; exact n i k l p q1 q2 .self
  · exact n i k l p q1 q2 (f.of_eq (upd_ne hp))
theorem wipeE_out {i : Nat} : ∀ (us : List Nat) (e : DEnv), i ∉ us → (wipeE e us)[i]? = e[i]?
  | [], _, _ => rfl
  | v :: us, e, hv => by
    show ((wipeE e us).set v .no)[i]? = _
    rw [List.getElem?_set_ne (fun z => hv (by subst z; exact List.mem_cons_self)), wipeE_out us e (fun z => hv (List.mem_cons_of_mem _ z))]
theorem Nob.wipe {H : Hp} {σ : L2.St} {e : DEnv} {a : Addr} (n : Nob H σ e a) (vs : List Nat) : Nob H (L2.wipe σ vs) (wipeE e vs) a := fun i k l p q1 q2 f => by
  by_cases hi : i ∈ vs
  · exact absurd hi (L2.wipe_some (x := .ref p) q2).2
  · rw [wipeE_out vs e hi] at q1
    rw [L2.wipe_out hi] at q2
    exact n i k l p q1 q2 f
theorem Nob.back {H : Hp} {σ : L2.St} {e0 e : DEnv} {vs : List Nat} {a : Addr} (n : Nob H (L2.wipe σ vs) e a) (hl : e.length = e0.length) (no : noOwn e0 vs = true) : Nob H σ (backE e0 e vs) a := fun i k l p q1 q2 f => by
  by_cases hi : i ∈ vs
  · have hlt : i < e.length := by
      have := (List.getElem?_eq_some_iff.mp q1).1; rw [backE_len] at this; exact this
    rw [backE_in hlt hi] at q1
    have h0 : i < e0.length := by omega
    rw [List.getD_eq_getElem?_getD, List.getElem?_eq_getElem h0] at q1
    have := List.all_eq_true.mp no i hi
    rw [List.getElem?_eq_getElem h0, show e0[i] = Sl.own k l from Option.some.inj q1] at this
    cases this
  · rw [backE_out hi] at q1
    exact n i k l p q1 (by rw [L2.wipe_out hi]; exact q2) f
/-- targets that store into the slots vs alone -/
def UGv (K : PySem.W.Frag) (mg : MG) (ps : Fg) (σ : L2.St) (vs : List Nat) (Q : L2.St → Hp → Prop) (Hf : Hp) : Res Unit → Prop
  | .ok _ e' => ∀ σ' Hf' H', Ex Hf Hf' → SR K mg ps Hf' H' σ' e' → L2.wipe σ' vs = L2.wipe σ vs → Q σ' H'
  | _ => False
structure JGv (X : Cx) (vs : List Nat) (tg : Expr) (g : D → M Unit) : Prop where
  ex : ∃ t, PG X tg t ∧ ∀ (ps : Fg) (σ : L2.St) (Hf H : Hp) (env : DEnv) (v : V) (d : D), SR X.K X.mg ps Hf H σ env → Rp X.K X.mg Hf v d → ∀ Q : L2.St → Hp → Prop, UGv X.K X.mg ps σ vs Q Hf (g d env) → t v σ H Q
structure JGvs (X : Cx) (vs : List Nat) (tgs : List Expr) (g : List D → M Unit) : Prop where
  ex : ∃ t, PGs X tgs t ∧ ∀ (ps : Fg) (σ : L2.St) (Hf H : Hp) (env : DEnv) (v : List V) (d : List D), SR X.K X.mg ps Hf H σ env → Rps X.K X.mg Hf v d → ∀ Q : L2.St → Hp → Prop, UGv X.K X.mg ps σ vs Q Hf (g d env) → t v σ H Q
theorem wipe_put {σ : L2.St} {i : Nat} {x : Option V} : ∀ {vs : List Nat}, i ∈ vs → L2.wipe (σ.set i x) vs = L2.wipe σ vs
  | [], h => by cases h
  | v :: vs, h => by
    unfold L2.wipe
    by_cases hi : i ∈ vs
    · rw [wipe_put hi]
    · have e : v = i := ((List.mem_cons.mp h).resolve_right hi).symm
      subst e
      have : ∀ ws : List Nat, v ∉ ws → L2.wipe (σ.set v x) ws = (L2.wipe σ ws).set v x := by
        intro ws
        induction ws with
        | nil => intro _; rfl
        | cons w ws ih =>
          intro hw
          unfold L2.wipe
          rw [ih (fun z => hw (List.mem_cons_of_mem _ z)), List.set_comm _ _ (fun z => hw (by subst z; exact List.mem_cons_self))]
      rw [this vs hi, List.set_set]
theorem jgv_name {vs : List Nat} (V : Nm X N sc raw) {i : Nat} {x : Str} (hS : okS N sc raw i x = true) (hi : i ∈ vs) : JGv X vs (.Name x pos) (gN i) :=
  ⟨⟨_, pg_name (i := i) V.nodup (V.s hS).1 (V.s hS).2.1 (V.s hS).2.2, fun ps σ Hf H env v d S r Q z => z _ Hf H (Ex.refl _) (S.put i r) (wipe_put hi)⟩⟩
theorem jgvs_nil {vs : List Nat} : JGvs X vs [] gsNil := ⟨⟨_, pgs_nil, fun ps σ Hf H env v d S r Q z => by
  cases r with
  | nil => exact ⟨rfl, z σ Hf H (Ex.refl _) S rfl⟩
  | cons _ _ => exact z.elim⟩⟩
theorem jgvs_cons {vs : List Nat} {g1 : D → M Unit} {gs : List D → M Unit} (j : JGv X vs e g1) (k : JGvs X vs es gs) (hs : (assignEach (e :: es) X.env).map (·.2) = assign e X.env :: (assignEach es X.env).map (·.2) := by rfl) : JGvs X vs (e :: es) (gsCons g1 gs) := by
  obtain ⟨t, p, h⟩ := j.ex
  obtain ⟨u, q, hu⟩ := k.ex
  refine ⟨⟨_, pgs_cons p q hs, fun ps σ Hf H env v d S r Q z => ?_⟩⟩
  cases r with
  | nil => exact z.elim
  | cons r1 r2 =>
    refine ⟨_, _, rfl, h ps σ Hf H env _ _ S r1 _ ?_⟩
    have z : UGv X.K X.mg ps σ vs Q Hf (bnd (g1 _) (fun _ => gs _) env) := z
    unfold DL.bnd at z
    cases w : g1 _ env with
    | ok a e1 =>
      rw [w] at z
      intro σ' Hf' H' x S' hw
      refine hu ps σ' Hf' H' e1 _ _ S' (r2.mono x) Q ?_
      dsimp only at z
      cases w2 : gs _ e1 with
      | ok a2 e2 => rw [w2] at z; exact fun σ2 Hf2 H2 x2 S2 hw2 => z σ2 Hf2 H2 (x.trans x2) S2 (hw2.trans hw)
      | exc _ _ _ => rw [w2] at z; exact z
      | stuck => rw [w2] at z; exact z
    | exc _ _ _ => rw [w] at z; exact z
    | stuck => rw [w] at z; exact z
theorem jgv_tup {vs : List Nat} {gs : List D → M Unit} {k n : Nat} (hc : X.calm = true) (j : JGvs X vs es gs) (hn : (assignEach es X.env).length = n := by rfl) (hst : (assignEach es X.env).findIdx? (·.1) = none := by rfl) : JGv X vs (.Tuple es k pos) (gTp n gs) := by
  obtain ⟨t, p, h⟩ := j.ex
  refine ⟨⟨_, pg_or (pg_tup hc p hn hst) (pg_lst hc p hn hst), fun ps σ Hf H env v d S r Q z => ?_⟩⟩
  unfold gTp at z
  split at z
  · split at z
    · rename_i hl
      cases r with
      | tup hq rr => exact .inl ⟨_, _, rfl, ex_t S.ex hq, by rw [rr.length]; exact hl, h ps σ Hf H env _ _ S rr Q z⟩
    · exact z.elim
  · split at z
    · rename_i hl
      cases r with
      | lst hq rr => exact .inr ⟨_, _, rfl, ex_l S.ex hq, by rw [rr.length]; exact hl, h ps σ Hf H env _ _ S rr Q z⟩
    · exact z.elim
  · exact z.elim
def lcL (vs : List Nat) (g : D → M Unit) (tt : M Bool) (el : M D) : List D → List D → M (List D)
  | [], acc => ret acc
  | d :: r, acc => bnd (g d) fun _ => bnd tt fun b => if b = true then bnd el (fun y e => if acc.length < sizeLine then lcL vs g tt el r (acc ++ [y]) (wipeE e vs) else .stuck) else fun e => lcL vs g tt el r acc (wipeE e vs)
/-- a comprehension: a new list -/
def mLc (vs : List Nat) (fi : M (List D)) (g : D → M Unit) (tt : M Bool) (el : M D) : M D := bnd fi fun ds e0 => if noOwn e0 vs = true then
  (match lcL vs g tt el ds [] (wipeE e0 vs) with | .ok acc e => .ok (.lst acc) (backE e0 e vs) | _ => .stuck) else .stuck
structure JTs (X : Cx) (W : WX) (ifs : List Expr) (f : M Bool) : Prop where
  ex : ∃ t, PTs X ifs t ∧ ∀ (ps : Fg) (σ : L2.St) (Hf H : Hp) (env : DEnv), SR X.K X.mg ps Hf H σ env → ∀ Q : Bool → Hp → Prop, EG X.K X.mg ps W Hf σ (Pb Q) (f env) → t σ H Q
theorem jts_nil : JTs X W [] (ret true) := ⟨⟨_, pts_nil, fun ps σ Hf H env S Q z => EG.ret (W := W) (P := Pb Q) z S⟩⟩
theorem jts_one {g : M Bool} (j : JT X W c g) : JTs X W [c] g := by
  obtain ⟨t, p, h⟩ := j.ex
  exact ⟨⟨_, pts_one p, h⟩⟩
theorem takesF {X : Cx} : L2N.Takes X WF := fun _ _ x => by
  obtain ⟨_, _, _, _, _, _, _, _, _, _, _, _, _, _, _, _, z⟩ := x
  exact z.elim
/-- what a block's judgement must say, in every context of such a block -/
abbrev InBl (X : Cx) (N : List Str) (sc scope : Scope) (J : Cx → Prop) : Prop := ∀ X' : Cx, Nm X' N (relS scope sc) scope → CtxOk X' WF → Bl X X' → J X'
theorem blk_ok {scope : Scope} {J : Cx → Prop} (C : CtxOk X W) (V : Nm X N sc raw) (hk : scope.kind = .function) (h : InBl X N sc scope J) (s : Shared) (H : Hp) (Ca : Addr) (cl : List (Str × Addr)) (fp : List Addr) : J (X.blk s H scope (compEnvC scope cl Ca X.env) fp) := by
  refine h _ ⟨V.hN, ?_, V.nd, hk, fun x hx => ?_⟩ ⟨C.calm, C.hu, PassesOwn.never, takesF, ⟨C.py.tree, C.py.seer, C.py.st, C.py.dp⟩⟩ ⟨rfl, rfl, rfl, rfl, rfl, rfl⟩
  · show relS scope X.env.scope = relS scope sc
    rw [V.hs]
  · show (scope.names.lookup x == some .cell) = true
    rw [hx]; rfl
theorem wipe_in {σ : L2.St} {vs : List Nat} {j : Nat} (hj : j ∈ vs) : (L2.wipe σ vs)[j]? = if j < σ.length then some none else none := by
  by_cases hl : j < σ.length
  · rw [if_pos hl]
    have hl' : j < (L2.wipe σ vs).length := by rw [L2.wipe_length]; exact hl
    cases w : (L2.wipe σ vs)[j]? with
    | none => rw [List.getElem?_eq_getElem hl'] at w; cases w
    | some o => cases o with
      | none => rfl
      | some xx => exact absurd hj (L2.wipe_some w).2
  · rw [if_neg hl, List.getElem?_eq_none (by rw [L2.wipe_length]; omega)]
theorem wipe_idem {σ : L2.St} {vs : List Nat} : L2.wipe (L2.wipe σ vs) vs = L2.wipe σ vs := by
  apply List.ext_getElem?
  intro j
  by_cases hj : j ∈ vs
  · rw [wipe_in hj, wipe_in hj, L2.wipe_length]
  · rw [L2.wipe_out hj]
/-- what is wanted behind a comprehension, seen through any such wish -/
structure LcR (X : Cx) (W : WX) (ps : Fg) (σ : L2.St) (Q : VK) (R : Hp → Res D → Prop) : Prop where
  mono : ∀ {Hf Hf' : Hp} {r : Res D}, Ex Hf Hf' → R Hf r → R Hf' r
  st : ∀ Hf, ¬ R Hf .stuck
  ex : ∀ {Hf : Hp} {x : Str} {p : Option D} {e : DEnv}, R Hf (.exc x p e) → ∀ cls dd Hf' H', Ex Hf Hf' → SR X.K X.mg ps Hf' H' σ e → IsExc X.K X.mg Hf' x p cls dd → W cls dd σ H'
  ok : ∀ {Hf H : Hp} {e : DEnv} {p : Addr} {vacc : List L2.V} {acc : List D}, SR X.K X.mg ps Hf H σ e → H p = some (.lst vacc) → Hf p = none → ps.g p = none → Rps X.K X.mg Hf vacc acc →
    Nob H σ e p → R Hf (.ok (.lst acc) e) → Q (.ref p) H
theorem lc_ok {scope : Scope} {own : List (Str × Nat)} {tg iter elt : Expr} {ifs : List Expr} {fi : M (List D)} {g : D → M Unit} {tt : M Bool} {el : M D} {vs : List Nat} (C : CtxOk X W) (V : Nm X N sc raw) (hb : blkC N sc scope own = true)
    (ji : JI X W tg iter fi) (jg : InBl X N sc scope fun X' => JGv X' vs tg g) (jt : InBl X N sc scope fun X' => JTs X' WF ifs tt) (je : InBl X N sc scope fun X' => JE X' WF elt el) :
    ∃ wi g' tt' te, PI X tg iter wi ∧ BlkOk X.N X.env.scope scope own ∧
      (∀ (s : Shared) (H : Hp) (Ca : Addr) (cl : List (Str × Addr)) (fp : List Addr), PG (X.blk s H scope (compEnvC scope cl Ca X.env) fp) tg g') ∧
      (∀ (s : Shared) (H : Hp) (Ca : Addr) (cl : List (Str × Addr)) (fp : List Addr), PTs (X.blk s H scope (compEnvC scope cl Ca X.env) fp) ifs tt') ∧
      (∀ (s : Shared) (H : Hp) (Ca : Addr) (cl : List (Str × Addr)) (fp : List Addr), PE (X.blk s H scope (compEnvC scope cl Ca X.env) fp) elt te) ∧
      ∀ (ps : Fg) (σ : L2.St) (Hf H : Hp) (env : DEnv), SR X.K X.mg ps Hf H σ env → ∀ Q : VK, ∀ R : Hp → Res D → Prop, LcR X W ps σ Q R → R Hf (mLc vs fi g tt el env) → tLc wi g' tt' te vs σ H Q := by
  have ok : BlkOk N sc scope own := blkOk_by hb
  obtain ⟨wi, pi, hi⟩ := ji.ex
  have hg := blk_ok C V ok.kind jg
  have ht := blk_ok C V ok.kind jt
  have he := blk_ok C V ok.kind je
  let tg' : TG := fun v σ H Q => ∀ (s : Shared) (H0 : Hp) (Ca : Addr) (cl : List (Str × Addr)) (fp : List Addr), Classical.choose (hg s H0 Ca cl fp).ex v σ H Q
  let tt' : TT := fun σ H Q => ∀ (s : Shared) (H0 : Hp) (Ca : Addr) (cl : List (Str × Addr)) (fp : List Addr), Classical.choose (ht s H0 Ca cl fp).ex σ H Q
  let te : TE := fun σ H Q => ∀ (s : Shared) (H0 : Hp) (Ca : Addr) (cl : List (Str × Addr)) (fp : List Addr), Classical.choose (he s H0 Ca cl fp).ex σ H Q
  refine ⟨wi, tg', tt', te, pi, by rw [V.hN, V.hs]; exact ok, fun s H0 Ca cl fp => ⟨fun pins s' σ H v u Q I r z => (Classical.choose_spec (hg s H0 Ca cl fp).ex).1.run pins s' σ H v u Q I r (z s H0 Ca cl fp)⟩,
    fun s H0 Ca cl fp => ⟨fun pins s' σ H Q I z => (Classical.choose_spec (ht s H0 Ca cl fp).ex).1.run pins s' σ H Q I (z s H0 Ca cl fp)⟩,
    fun s H0 Ca cl fp => ⟨fun pins s' σ H Q I z => (Classical.choose_spec (he s H0 Ca cl fp).ex).1.run pins s' σ H Q I (z s H0 Ca cl fp)⟩, fun ps σ Hf H env S Q R LR z => ?_⟩
  have sg : ∀ (ps : Fg) (σ : L2.St) (Hf H : Hp) (env : DEnv) (v : L2.V) (d : D), SR X.K X.mg ps Hf H σ env → Rp X.K X.mg Hf v d → ∀ Q : L2.St → Hp → Prop, UGv X.K X.mg ps σ vs Q Hf (g d env) → tg' v σ H Q :=
    fun ps σ Hf H env v d S r Q z s H0 Ca cl fp => (Classical.choose_spec (hg s H0 Ca cl fp).ex).2 ps σ Hf H env v d S r Q z
  have st : ∀ (ps : Fg) (σ : L2.St) (Hf H : Hp) (env : DEnv), SR X.K X.mg ps Hf H σ env → ∀ Q : Bool → Hp → Prop, EG X.K X.mg ps WF Hf σ (Pb Q) (tt env) → tt' σ H Q :=
    fun ps σ Hf H env S Q z s H0 Ca cl fp => (Classical.choose_spec (ht s H0 Ca cl fp).ex).2 ps σ Hf H env S Q z
  have se : ∀ (ps : Fg) (σ : L2.St) (Hf H : Hp) (env : DEnv), SR X.K X.mg ps Hf H σ env → ∀ Q : VK, EG X.K X.mg ps WF Hf σ (Pd X.K X.mg Q) (el env) → te σ H Q :=
    fun ps σ Hf H env S Q z s H0 Ca cl fp => (Classical.choose_spec (he s H0 Ca cl fp).ex).2 ps σ Hf H env S Q z
  refine hi ps σ Hf H env S _ ?_
  unfold mLc DL.bnd at z
  cases qfi : fi env with
  | exc x p e1 => rw [qfi] at z; exact LR.ex z
  | stuck => rw [qfi] at z; exact (LR.st _ z).elim
  | ok ds e1 =>
  rw [qfi] at z
  intro Hf1 H1 x1 S1 J ok
  have z1 := LR.mono x1 z
  dsimp only at z1
  intro Dd nD
  by_cases hno : noOwn e1 vs = true
  · rw [if_pos hno] at z1
    have nfD : Hf1 Dd = none := fresh_back S1.ex nD
    have ngD : ps.g Dd = none := by
      cases q : ps.g Dd with
      | none => rfl
      | some u => rw [(S1.fg Dd u q).1] at nD; cases nD
    -- the end, where the remaining worth is known
    refine ⟨fun i m H => i + m = ds.length ∧ ∃ (e : DEnv) (Hf : Hp) (acc : List D) (vacc : List L2.V), Ex Hf1 Hf ∧ SR X.K X.mg ps Hf H (L2.wipe σ vs) e ∧ H Dd = some (.lst vacc) ∧ Hf Dd = none ∧ Nob H (L2.wipe σ vs) e Dd ∧ Rps X.K X.mg Hf vacc acc ∧
        R Hf (match lcL vs g tt el (ds.drop i) acc e with | .ok acc e => Res.ok (D.lst acc) (backE e1 e vs) | _ => Res.stuck), ⟨ds.length, Nat.zero_add _, ?_⟩, ?_⟩
    · have S2 := (S1.laid (p := Dd) (o := .lst []) nD).wipe vs
      exact ⟨_, Hf1, [], [], Ex.refl _, S2, upd_same, nfD, ((S1.wipe vs).nob_new nD).upd, .nil, z1⟩
    · rintro i m H ⟨hm, e, Hf, acc, vacc, x, S, hD, nfD, noD, racc, z⟩
      by_cases hlt : i < ds.length
      · obtain ⟨d, hd⟩ : ∃ d, ds[i]? = some d := ⟨ds[i], List.getElem?_eq_getElem hlt⟩
        have e0 : ds.drop i = d :: ds.drop (i + 1) := by
          rw [List.drop_eq_getElem_cons hlt]
          have := List.getElem?_eq_getElem hlt
          rw [hd] at this; cases this; rfl
        rw [e0] at z
        -- the list's address as foreign meanwhile
        let ps' : Fg := ⟨ps.ps, fun a => if a = Dd then some (.lst vacc) else ps.g a⟩
        have toP : ∀ {Hf H : Hp} {σ : L2.St} {e : DEnv}, SR X.K X.mg ps Hf H σ e → H Dd = some (.lst vacc) → Hf Dd = none → Nob H σ e Dd → SR X.K X.mg ps' Hf H σ e := fun {Hf H σ e} S h1 h2 h3 =>
          ⟨S.ex, S.len, S.sl, S.apF, fun a o q => by
            by_cases ha : a = Dd
            · subst ha
              have q : (if a = a then some (HO.lst vacc) else ps.g a) = some o := q
              rw [if_pos rfl] at q; cases q
              exact ⟨h1, h2, h3⟩
            · have q : (if a = Dd then some (HO.lst vacc) else ps.g a) = some o := q
              rw [if_neg ha] at q
              exact S.fgF a o q⟩
        have ofP : ∀ {Hf H : Hp} {σ : L2.St} {e : DEnv}, SR X.K X.mg ps' Hf H σ e → SR X.K X.mg ps Hf H σ e ∧ H Dd = some (.lst vacc) ∧ Hf Dd = none ∧ Nob H σ e Dd := fun {Hf H σ e} S => by
          obtain ⟨h1, h2, h3⟩ := S.fgF Dd (.lst vacc) (by show (if Dd = Dd then some (HO.lst vacc) else ps.g Dd) = _; rw [if_pos rfl])
          refine ⟨⟨S.ex, S.len, S.sl, S.apF, fun a o q => S.fgF a o ?_⟩, h1, h2, h3⟩
          show (if a = Dd then some (HO.lst vacc) else ps.g a) = some o
          rw [if_neg (fun w => by subst w; rw [ngD] at q; cases q)]
          exact q
        have S' := toP S hD nfD noD
        obtain ⟨go, yld⟩ := ok.go i d hd ps' (L2.wipe σ vs) e Hf H x S'
        refine .inr ⟨go, fun H => i + 1 + (m - 1) = ds.length ∧ ∃ (e : DEnv) (Hf : Hp) (acc : List D) (vacc : List L2.V), Ex Hf1 Hf ∧ SR X.K X.mg ps Hf H (L2.wipe σ vs) e ∧ H Dd = some (.lst vacc) ∧ Hf Dd = none ∧ Nob H (L2.wipe σ vs) e Dd ∧ Rps X.K X.mg Hf vacc acc ∧
          R Hf (match lcL vs g tt el (ds.drop (i + 1)) acc e with | .ok acc e => Res.ok (D.lst acc) (backE e1 e vs) | _ => Res.stuck), fun H' w => ⟨m - 1, by omega, w⟩, fun v H3 y => ?_⟩
        obtain ⟨Hf3, x3, S3, r3⟩ := yld v H3 y
        refine sg ps' (L2.wipe σ vs) Hf3 H3 e v d S3 r3 _ ?_
        have z0 : ∀ {r : Res (List D)}, R Hf (match r with | .ok acc e => Res.ok (D.lst acc) (backE e1 e vs) | _ => Res.stuck) → ∃ acc e, r = .ok acc e := fun {r} w => by
          cases r with
          | ok acc e => exact ⟨acc, e, rfl⟩
          | exc _ _ _ => exact (LR.st _ w).elim
          | stuck => exact (LR.st _ w).elim
        obtain ⟨accF, eF, hF⟩ := z0 z
        unfold lcL DL.bnd at hF z
        cases q1 : g d e with
        | exc _ _ _ => rw [q1] at hF; cases hF
        | stuck => rw [q1] at hF; cases hF
        | ok u e4 =>
          rw [q1] at hF z
          intro σ4 Hf4 H4 x4 S4 hw
          have hww : L2.wipe σ4 vs = L2.wipe σ vs := by rw [hw, wipe_idem]
          refine ⟨hww, ?_⟩
          dsimp only at hF z
          refine st ps' σ4 Hf4 H4 e4 S4 _ ?_
          cases q2 : tt e4 with
          | exc _ _ _ => rw [q2] at hF; cases hF
          | stuck => rw [q2] at hF; cases hF
          | ok b e5 =>
            rw [q2] at hF z
            intro Hf5 H5 x5 S5
            dsimp only at hF z
            cases b with
            | false =>
              unfold Pb
              dsimp only
              rw [if_neg Bool.false_ne_true] at hF z ⊢
              obtain ⟨S6, d6, f6, n6⟩ := ofP S5
              have S7 := S6.wipe vs
              rw [hww] at S7
              have n7 := n6.wipe vs
              rw [hww] at n7
              exact ⟨by omega, _, Hf5, acc, vacc, x.trans (x3.trans (x4.trans x5)), S7, d6, f6, n7, racc.mono (x3.trans (x4.trans x5)), LR.mono (x3.trans (x4.trans x5)) z⟩
            | true =>
              unfold Pb
              dsimp only
              rw [if_pos rfl] at hF z ⊢
              refine se ps' σ4 Hf5 H5 e5 S5 _ ?_
              cases q3 : el e5 with
              | exc _ _ _ => rw [q3] at hF; cases hF
              | stuck => rw [q3] at hF; cases hF
              | ok y e7 =>
                rw [q3] at hF z
                intro Hf7 H7 x7 S7 vy ry
                dsimp only at hF z
                by_cases hz : acc.length < sizeLine
                · rw [if_pos hz] at hF z
                  obtain ⟨S8, d8, f8, n8⟩ := ofP S7
                  have xx := x3.trans (x4.trans (x5.trans x7))
                  have rl := racc.length
                  have n9 := (n8.upd (o := .lst (vacc ++ [vy]))).wipe vs
                  rw [hww] at n9
                  refine ⟨vacc, d8, by omega, by omega, wipeE e7 vs, Hf7, acc ++ [y], vacc ++ [vy], x.trans xx, ?_, upd_same, f8, n9, (racc.mono xx).append (.cons ry .nil), LR.mono xx z⟩
                  have S9 : SR X.K X.mg ps Hf7 (upd H7 Dd (.lst (vacc ++ [vy]))) σ4 e7 := by
                    refine S8.frame (Ex.refl _) (fun a o q => ?_) (fun i k l p a h1 h2 f => ?_) fun a o q => ?_
                    · rw [upd_ne (ne_of_none q f8)]; exact S8.ex a o q
                    · exact ⟨(S8.live h1 h2 f).1, upd_ne fun w => by subst w; exact n8 i k l p h1 h2 f⟩
                    · obtain ⟨g1, g2, g3⟩ := S8.fgF a o q
                      exact ⟨by rw [upd_ne (fun w => by subst w; rw [ngD] at q; cases q)]; exact g1, g2⟩
                  have S10 := S9.wipe vs
                  rw [hww] at S10
                  exact S10
                · rw [if_neg hz] at hF; cases hF
      · refine .inl ⟨ok.stop i (by omega) ps (L2.wipe σ vs) e Hf H x S, ?_⟩
        rw [List.drop_eq_nil_of_le (by omega)] at z
        exact LR.ok (S1.back x S hno) hD nfD ngD racc (noD.back (by rw [← S.len, L2.wipe_length, S1.len]) hno) z
  · rw [if_neg hno] at z1; exact (LR.st _ z1).elim
/-- [el for tg in iter if ..], frozen at once -/
theorem je_lc {scope : Scope} {own : List (Str × Nat)} {vs : List Nat} {tg iter elt : Expr} {ifs : List Expr} {fi : M (List D)} {g : D → M Unit} {tt : M Bool} {el : M D} (C : CtxOk X W) (V : Nm X N sc raw) (hb : blkC N sc scope own = true) (hvs : own.map (·.2) = vs)
    (ji : JI X W tg iter fi) (jg : InBl X N sc scope fun X' => JGv X' vs tg g) (jt : InBl X N sc scope fun X' => JTs X' WF ifs tt) (je : InBl X N sc scope fun X' => JE X' WF elt el) (hs : ∀ x, foldedSetIterable iter X.env x = pure x := by intro _; rfl) :
    JE X W (.ListComp elt [⟨tg, iter, ifs, 0⟩] scope pos) (mLc vs fi g tt el) := by
  subst hvs
  obtain ⟨wi, g', tt', te, pi, ok, pg, pt, pe, h⟩ := lc_ok C V hb ji jg jt je
  refine ⟨⟨_, pe_lc C.calm V.nodup pi ok pg pt pe hs, fun ps σ Hf H env S Q z => h ps σ Hf H env S Q (fun Hf r => EG X.K X.mg ps W Hf σ (Pd X.K X.mg Q) r) ⟨fun x r => EG.mono x r, fun _ z => z, fun z => z, fun {Hf H e p vacc acc} S hp nf ng r no z => ?_⟩ z⟩⟩
  exact z _ _ (Ex.new nf) (S.freezes hp nf ng no) _ (.lst (.inl (.inl upd_same)) (r.mono (Ex.new nf)))
end
end DL

/-! DLh: try .. except X as e, what the suite asks of e, defs that are called there. -/
namespace DL
open PySem PySem.Spec PyProof.Rows L2 Evl

/-- the largest reading of a block -/
def tAll (X : Cx) (sts : List Stmt) : TS := fun De σ H => ∀ (pins : List (Addr × Obj)) (s : Shared), Inv X pins σ H s → wpAny (model X.prog X.w) X.A (execs sts X.env) (SP X pins De) X.xe s
theorem tAll_ok {X : Cx} {sts : List Stmt} : PSs X sts (tAll X sts) := ⟨fun pins s σ H De I h => h pins s I⟩
theorem tAll_of {X : Cx} {W : WX} {sts : List Stmt} {f : M Fl} (j : JSs X W sts f) {ps : Fg} {σ : L2.St} {Hf H : Hp} {env : DEnv} (S : SR X.K X.mg ps Hf H σ env) {De : Ends} (h : SG X.K X.mg ps W De Hf (f env)) : tAll X sts De σ H := by
  obtain ⟨t, p, k⟩ := j.ex
  exact fun pins s I => p.run pins s σ H De I (k ps σ Hf H env S De h)
/-- X' is a context of the same def: its depth is X's, whatever is handled -/
structure BlH (X X' : Cx) : Prop where
  prog : X'.prog = X.prog
  w : X'.w = X.w
  K : X'.K = X.K
  mg : X'.mg = X.mg
  base : X'.base = X.base
  dp : X'.A.depth = X.A.depth
  un : X'.A.units = X.A.units
theorem BlH.z {X X' : Cx} (B : BlH X X') {x : Str} (h : X.mg x = none) : X'.mg x = none := by rw [B.mg]; exact h
theorem BlH.ze {X X' : Cx} (B : BlH X X') {x : Str} {v : Value} (h : X.mg x = some v) : X'.mg x = some v := by rw [B.mg]; exact h
/-- the exception at a, of the class named x, is handled: its context is None, it has no dict -/
structure HotX (X : Cx) (a : Addr) (x : Str) : Prop where
  hot : X.A.handled = some (.ref a)
  pin : ∃ (oe : Obj) (vs : Array Value) (Dd : Addr), (a, oe) ∈ X.pn ∧ X.mg x = some (.ref Dd) ∧ Zc (.ref Dd) none oe ∧ oe.data = .fields vs ∧ vs[2]? = some .none
/-- a row of the table: whether an x is a T -/
structure TabE (K : PySem.W.Frag) (mg : MG) (x T : Str) (b : Bool) : Prop where
  ex : ∃ (Dd : Addr) (v : V) (u : Value), mg x = some (.ref Dd) ∧ (mg T = some u ∨ (mg T = none ∧ bootBuiltins T = some u)) ∧ ClsV v u ∧ RelV v u ∧ PySem.W.kitOne K (.ref Dd) u = some b ∧ L2.ExcC K Dd
/-- the table of the law's classes: (x, T, whether an x is a T) -/
abbrev ETab := List (Str × Str × Bool)
def TabOk (K : PySem.W.Frag) (mg : MG) (tab : ETab) : Prop := ∀ x T b, (x, T, b) ∈ tab → TabE K mg x T b
theorem tabOk_nil {K : PySem.W.Frag} {mg : MG} : TabOk K mg [] := fun _ _ _ h => by cases h
theorem tabOk_cons {K : PySem.W.Frag} {mg : MG} {x T : Str} {b : Bool} {r : ETab} (h : TabE K mg x T b) (t : TabOk K mg r) : TabOk K mg ((x, T, b) :: r) := fun x' T' b' m => by
  rcases List.mem_cons.mp m with e | e
  · cases e; exact h
  · exact t x' T' b' e
theorem BlH.tab {X X' : Cx} (B : BlH X X') {tab : ETab} (h : TabOk X.K X.mg tab) : TabOk X'.K X'.mg tab := by rw [B.K, B.mg]; exact h
theorem Bl.tab {X X' : Cx} (B : Bl X X') {tab : ETab} (h : TabOk X.K X.mg tab) : TabOk X'.K X'.mg tab := by rw [B.K, B.mg]; exact h
def tabAt (tab : ETab) (x T : Str) : Option Bool := (tab.find? fun r => decide (r.1 = x) && decide (r.2.1 = T)).map (·.2.2)
theorem tabAt_mem {tab : ETab} {x T : Str} {b : Bool} (h : tabAt tab x T = some b) : (x, T, b) ∈ tab := by
  unfold tabAt at h
  cases q : tab.find? fun r => decide (r.1 = x) && decide (r.2.1 = T) with
  | none => rw [q] at h; cases h
  | some r =>
    rw [q] at h
    obtain ⟨r1, r2, r3⟩ := r
    cases h
    have h1 := List.find?_some q
    simp only [Bool.and_eq_true, decide_eq_true_eq] at h1
    obtain ⟨rfl, rfl⟩ := h1
    exact List.mem_of_find?_eq_some q
theorem isE_call {X : Cx} {a Dd : Addr} {oe : Obj} (hm : (a, oe) ∈ X.pn) (C : L2.ExcC X.K Dd) (hz : Zc (.ref Dd) none oe) (hf : ∃ vs, oe.data = .fields vs) : CallR X (.builtin "isinstance") (rIsE X.K Dd a) := by
  intro pins s σ H xs us Q I r h
  obtain ⟨c, cv, b, e1, hcv, e, q⟩ := h
  subst e1
  obtain ⟨u1, u2, e2, rx, rt⟩ := vals2 r
  subst e2
  cases (show u1 = Value.ref a from rx)
  have ec := hcv _ rt
  subst ec
  obtain ⟨hget, _⟩ := I.pin (a, oe) (List.mem_append_left _ hm)
  obtain ⟨vs, hv⟩ := hf
  obtain ⟨oc, od, oda, osl⟩ := oe
  obtain ⟨z1, z2⟩ := hz
  dsimp only at z1 z2 hv
  subst z1 z2 hv
  have J : PySem.W.InstAt s.heap a _ Dd none := ⟨hget, rfl, rfl, trivial⟩
  exact PySem.W.kia_one (PySem.W.handS_kitx_exc C.hg C.hk C.hs C.hd C.ha C.hn C.ht C.hm) I.kIn J e (fun z => nomatch z) fun tk => ⟨.bl b, H, I.kept (t' := tk) fun _ _ z => z, rfl, q⟩
section
variable {X : Cx} {W : WX} {a b c e : Expr} {es : List Expr} {fa fb fc : M D} {pos : Pos} {f : M (List D)} {N : List Str} {sc raw : Scope}
/-- isinstance(e, T), e the handled exception -/
def cIsE (tab : ETab) (ad : Addr) (x T : Str) : D → M D := fun d => match d with
  | .opq q => if q = ad then (match tabAt tab x T with | some r => ret (.bl r) | none => stk) else stk
  | _ => stk
theorem je_isE {tab : ETab} {ad : Addr} {x T : Str} {p p2 : Pos} (V : Nm X N sc raw) (hG : okG sc "isinstance" = true) (hGT : okG sc T = true) (hm : X.mg "isinstance" = none) (h : HotX X ad x) (TO : TabOk X.K X.mg tab) (ja : JE X W a fa)
    (he : starEach [a, .Name T p2] X.env = (false, eval a X.env) :: starEach [.Name T p2] X.env := by rfl) (he2 : starEach [.Name T p2] X.env = [(false, eval (.Name T p2) X.env)] := by rfl) (hpl : (backTo pos (starEach [.Name T p2] X.env)).any (·.1) = false := by rfl) :
    JE X W (.Call (.Name "isinstance" p) [a, .Name T p2] [] pos) (bnd fa (cIsE tab ad x T)) := by
  obtain ⟨hg, _, _⟩ := V.g hG
  obtain ⟨hgT, hd, hnn⟩ := V.g hGT
  obtain ⟨t, q, hj⟩ := ja.ex
  obtain ⟨oe, vs, Dd, hp, hx, hz, hv, _⟩ := h.pin
  cases w : tabAt tab x T with
  | none =>
    refine ⟨⟨fun σ H Q => t σ H fun _ _ => False, ⟨fun pins s σ H Q I z => ?_⟩, fun ps σ Hf H env S Q z => ?_⟩⟩
    · refine wpAny_Call_Name_kw (ld_blt I hg hm (show bootBuiltins "isinstance" = some (.builtin "isinstance") by decide +kernel) ?_ (by decide) (by decide))
      have pa : PA X [a, .Name T p2] (fun σ H Q => t σ H fun _ _ => False) := by
        have pn : PA X [.Name T p2] (fun _ _ _ => False) := ⟨fun _ _ _ _ _ _ _ (z : False) => False.elim z⟩
        refine ⟨fun pos2 pins s σ H Q I z => (pa_cons q pn he).run pos2 pins s σ H Q I z⟩
      exact PyProof.Rows.callWith_builtin1 (thn (pa.run pos pins s σ H (fun _ _ => False) I z) fun us s1 ⟨_, _, _, _, z⟩ => False.elim z) he hpl
    · refine hj ps σ Hf H env S _ (EG.bnd z fun d e1 Hf1 H1 x1 S1 h1 v rv => ?_)
      unfold cIsE at h1
      split at h1
      · rw [w] at h1
        dsimp only at h1
        split at h1 <;> exact False.elim h1
      · exact False.elim h1
  | some r =>
    obtain ⟨Dd', v, u, hx', hT, cv, rvu, kt, EC⟩ := (TO x T r (tabAt_mem w)).ex
    rw [hx] at hx'; cases hx'
    have pT : PE X (.Name T p2) (tC v) := by
      rcases hT with hT | ⟨hT, hT2⟩
      · exact pe_glob hgT hT rvu hd
      · exact pe_bltn hgT hT hT2 rvu hnn hd
    refine ⟨⟨_, pe_callB (isE_call hp EC hz ⟨vs, hv⟩) hg hm (by decide +kernel) (pa_cons q (pa_cons pT pa_nil he2) he) (by decide) (by decide) he hpl, fun ps σ Hf H env S Q z => ?_⟩⟩
    refine hj ps σ Hf H env S _ (EG.bnd z fun d e1 Hf1 H1 x1 S1 h1 y ry => ?_)
    unfold cIsE at h1
    split at h1
    · rename_i qd
      by_cases hq : qd = ad
      · subst hq
        rw [if_pos rfl, w] at h1
        cases ry
        exact ⟨v, u, r, rfl, fun u' r' => cv.eq r', kt, h1.ret S1 _ (.bl _)⟩
      · rw [if_neg hq] at h1; exact h1.elim
    · exact h1.elim
end

/-! ### a def that is called while an exception is handled -/
structure FnE (P : Program) (w : World) (K : PySem.W.Frag) (mg : MG) (base : Heap) (k : Nat) (f : Addr) (fd : FuncData) (ps : List Str) (sp : Addr → Str → Sp) : Prop where
  len : ∀ a x vs H Q E, sp a x vs H Q E → vs.length = ps.length
  run : ∀ (A : Around) (outer : List Env) (s : Shared) (H : Hp) (args : Args) (us : List Value) (vs : List V) (Q : VK) (E : XK) (a : Addr) (x : Str) (oe : Obj) (Dd : Addr), L2H.RoomH k A → L2H.Hot1 A (a, oe) → mg x = some (.ref Dd) → Zc (.ref Dd) none oe → L2H.PinOk outer H s (a, oe) → Env0 P w K mg base A outer s H →
    BindsTo s fd args (ps.zip us) → Vals vs us → sp a x vs H Q E → codeAny (model P w) A (.call (.ref f) args) (CR (L2N.CX P w) outer P w H s Q E) s
/-- as spP, no exception comes -/
def spE (K : PySem.W.Frag) (mg : MG) (n : Nat) (F : List D → Rs) : Sp := fun vs H Q E => vs.length = n ∧ ∃ Hf ds, Ex Hf H ∧ Rps K mg Hf vs ds ∧ match F ds with
  | .ok d => ∀ v Hf' H', Ex Hf Hf' → Ex Hf' H' → (∀ a o, H a = some o → Hf a = none → H' a = some o ∧ Hf' a = none) → Rp K mg Hf' v d → Q v H'
  | _ => False
section
variable {P : Program} {w : World} {K : PySem.W.Frag} {mg : MG} {base : Heap}
/-- THE RULE for such a def -/
theorem fn_okE {x qual : Str} {st : Stmt} {f : Addr} {fd : FuncData} {N ps : List Str} {k : Nat} {g : Addr → Str → M Fl} (F : Fun K x qual st f fd) (S : FnScope N ps (defScope st))
    (hbody : ∀ (X : Cx) (a : Addr) (y : Str), X.prog = P → X.w = w → X.K = K → X.mg = mg → X.base = base → L2H.RoomH k X.A → X.A.units + 64 < cLine → HotX X a y → Nm X N (defScope st) (defScope st) → JSs X WF (defBody st) (g a y)) (hle : ps.length ≤ N.length := by decide) :
    FnE P w K mg base (k + 1) f fd ps (fun a y => spE K mg ps.length (runF N.length (g a y))) := by
  obtain ⟨oc, od, kV, doc, pm, an, cdv, ct, osl, e1, lk, hcd⟩ := F.ex
  subst e1
  refine ⟨fun a y vs H Q E h => h.1, fun A outer s H args us vs Q E a y oe Dd hr hot hy hz hpin e0 hb r hsp => ?_⟩
  obtain ⟨hl, Hf, ds, x0, rr, hF⟩ := hsp
  have kx : K.In s.heap := e0.mod.kin.keeps fun b o e => (e0.bs b o e).1
  have li : s.heap.NoLimit := e0.mod.nolimit.keeps fun b o e => (e0.bs b o e).1
  have hkd : ∀ y ∈ ps.zip us, (defScope st).names.lookup y.1 = some .local ∨ ((defScope st).names.lookup y.1 = some .cell ∧ ((cellsFrom (s.heap.objs.size + 1) (defScope st).names []).lookup y.1).isSome = true) := fun ⟨n, v⟩ hy => by
    rcases S.par n (List.of_mem_zip hy).1 with q | q
    · exact .inl q
    · exact .inr ⟨q, PySem.W.cellsFrom_some _ _ _ (.inl q)⟩
  refine codeAny_call_function hr.depth (kx _ _ lk) rfl S.co S.gen rfl (PySem.W.codeRec_of kx hcd) (hb _ _ _ _ ?_)
  refine wpAny_newFunctionEnv_cells S.kind hkd fun env he s1 xi => ?_
  subst he
  refine ⟨li.keeps xi.toInCall.keep, codeAny_func ?_⟩
  obtain ⟨hot1, vsx, hd1, hd2⟩ := hot
  obtain ⟨t, p, ht⟩ := (hbody (L2H.cxH (L2N.CX P w) P w K mg base N qual (defScope st) f cdv A outer s H E (a, oe)) a y rfl rfl rfl rfl rfl (hr.deeper _)
    (by have := hr.un; show A.units + 3 + 64 < cLine; omega) ⟨hot1, oe, vsx, Dd, List.mem_cons_self, hy, hz, hd1, hd2⟩ ⟨rfl, rfl, S.nd, S.kind, fun _ _ => rfl⟩).ex
  have I : Inv (L2H.cxH (L2N.CX P w) P w K mg base N qual (defScope st) f cdv A outer s H E (a, oe)) [] (L2.start N vs) H s1 := L2H.inv_startH S hpin e0 hl r xi
  have hq : t { nx := fun _ H' => Q .non H', rt := Q } (L2.start N vs) H := by
    refine ht _ _ Hf H _ (sr_start x0 rr (by omega)) _ ?_
    unfold runF at hF
    cases q : g a y (envOf N.length ds) with
    | ok fl e' =>
      rw [q] at hF
      cases fl with
      | nx => exact fun σ' Hf' H' x' S' => hF _ Hf' H' x' S'.ex (fg_back S') .non
      | rt d => exact fun σ' Hf' H' x' S' v rv => hF v Hf' H' x' S'.ex (fg_back S') rv
      | ro l => exact fun σ' Hf' H' x' S' p vs hp nf ng rv => ro_back x0 x' S' hp nf ng rv hF
      | bk => exact hF.elim
      | ct => exact hF.elim
    | exc y p e' => rw [q] at hF; exact hF.elim
    | stuck => rw [q] at hF; exact hF.elim
  refine wpAny_mono (p.run [] s1 (L2.start N vs) H _ I hq) (fun fl s' hs => ?_) fun e s' hs => hs
  cases fl with
  | ret u =>
    obtain ⟨v, σ', H', J, rv, q⟩ := hs
    exact ⟨v, H', J.os, J.bare, J.base, J.hok, rv, q⟩
  | next =>
    obtain ⟨σ', H', J, q⟩ := hs
    exact ⟨V.non, H', J.os, J.bare, J.base, J.hok, rfl, q⟩
  | brk =>
    obtain ⟨_, _, _, q⟩ := hs
    exact q.elim
  | cont =>
    obtain ⟨_, _, _, q⟩ := hs
    exact q.elim
end

/-! ### its calls -/
structure CalE (X : Cx) (x : Str) (n : Nat) (F : Addr → Str → List D → Rs) : Prop where
  ex : ∃ k f fd ps, FnE X.prog X.w X.K X.mg X.base k f fd ps (fun a y => spE X.K X.mg n (F a y)) ∧ L2H.RoomH k X.A ∧ X.mg x = some (.ref f) ∧ PySem.W.keepIn X.K (.ref f) = true ∧ Binds X.K fd ps []
theorem BlH.cal {X X' : Cx} (B : BlH X X') {x : Str} {n : Nat} {F : Addr → Str → List D → Rs} (c : CalE X x n F) : CalE X' x n F := by
  obtain ⟨k, f, fd, ps, h, ⟨r1, r2⟩, h2⟩ := c.ex
  refine ⟨⟨k, f, fd, ps, ?_, ⟨by rw [B.dp]; exact r1, by rw [B.un]; exact r2⟩, ?_⟩⟩
  · rw [B.prog, B.w, B.K, B.mg, B.base]; exact h
  · rw [B.K, B.mg]; exact h2
def mCallE (f : M (List D)) (F : List D → Rs) : M D := bnd f fun ds env => match F ds with
  | .ok d => .ok d env | _ => .stuck
section
variable {X : Cx} {W : WX} {e : Expr} {es : List Expr} {pos : Pos} {N : List Str} {sc raw : Scope}
theorem spE_use {n : Nat} {F : List D → Rs} {ps : Fg} {σ : L2.St} {Hf H : Hp} {env : DEnv} {vs : List V} {ds : List D} {Q : VK} {E : XK} (S : SR X.K X.mg ps Hf H σ env) (r : Rps X.K X.mg Hf vs ds) (hn : ds.length = n)
    (h : EG X.K X.mg ps W Hf σ (Pd X.K X.mg Q) ((match F ds with | .ok d => fun env => Res.ok d env | _ => fun _ => .stuck : M D) env)) : spE X.K X.mg n F vs H Q E := by
  refine ⟨by rw [r.length]; exact hn, Hf, ds, S.ex, r, ?_⟩
  cases q : F ds with
  | ok d => rw [q] at h; exact fun v Hf' H' x y z rv => h Hf' H' x (S.after x y z) v rv
  | exc c p => rw [q] at h; exact h
  | stuck => rw [q] at h; exact h
theorem je_callE {x : Str} {p : Pos} {n : Nat} {F : Addr → Str → List D → Rs} {f : M (List D)} {a : Addr} {y : Str} (hx : HotX X a y) (V : Nm X N sc raw) (hG : okG sc x = true) (c : CalE X x n F) (ja : JA X W (e :: es) f) (hn : ∀ env ds env', f env = .ok ds env' → ds.length = n)
    (he : starEach (e :: es) X.env = (false, eval e X.env) :: starEach es X.env := by rfl) (hpl : (backTo pos (starEach es X.env)).any (·.1) = false := by rfl) :
    JE X W (.Call (.Name x p) (e :: es) [] pos) (mCallE f (F a y)) := by
  obtain ⟨hg, hdb, _⟩ := V.g hG
  obtain ⟨k, fa, fd, ps', G, hr, hm, hk, hb⟩ := c.ex
  obtain ⟨t, q, h⟩ := ja.ex
  obtain ⟨hot, oe, vsx, Dd, hmem, hy, hz, hd1, hd2⟩ := hx
  have pe : PE X (.Call (.Name x p) (e :: es) [] pos) (fun σ H Q => t σ H fun vs H1 => spE X.K X.mg n (F a y) vs H1 Q fun _ _ _ => False) := by
    refine ⟨fun pins s σ H Q I h => ?_⟩
    refine wpAny_Call_Name_kw (ld_glob I hg hm ?_ hdb)
    refine PySem.W.callWith_K (h₀ := X.base) I.ok.mod.kin hk (thn (q.run pos pins s σ H _ I h) fun us s1 ⟨vs, H1, I1, r, q⟩ => ⟨I1.kIn, ?_⟩) he hpl
    have hl : us.length = ps'.length := by rw [← r.length]; exact G.len _ _ _ _ _ _ q
    have b := hb s1 us I1.kIn (by rw [List.append_nil]; exact hl)
    rw [List.append_nil] at b
    have P1 := I1.pin (a, oe) (List.mem_append_left _ hmem)
    have hpin : L2H.PinOk X.stack H1 s1 (a, oe) := ⟨P1.1, P1.2.1, fun hm => (List.mem_cons.mp (I1.stkSub a hm)).elim P1.2.2.1 P1.2.2.2.1, P1.2.2.2.2⟩
    refine wpAny_call (codeAny_mono (G.run X.A X.stack s1 H1 ⟨us, []⟩ us vs Q _ a y oe Dd hr ⟨hot, vsx, hd1, hd2⟩ hy hz hpin I1.env0 b r q) fun r s' hq => ?_)
    cases r with
    | error e =>
      obtain ⟨_, _, _, _, _, _, _, _, _, _, _, _, z⟩ := hq
      exact False.elim z
    | ok fl =>
      cases fl with
      | ret u => exact I1.after hq
      | next => exact False.elim hq
      | brk => exact False.elim hq
      | cont => exact False.elim hq
  refine ⟨⟨_, pe, fun ps σ Hf H env S Q z => ?_⟩⟩
  have hq : ∀ ds env', f env = .ok ds env' → ds.length = n := fun ds env' w => hn env ds env' w
  unfold mCallE bnd at z
  refine h ps σ Hf H env S _ ?_
  cases w : f env with
  | ok ds e1 =>
    rw [w] at z
    intro Hf1 H1 x1 S1 vs r
    refine spE_use (W := W) S1 r (hq ds e1 w) ?_
    have z := EG.mono x1 z
    cases q : F a y ds with
    | ok d => simp only [q] at z ⊢; exact z
    | exc c p => simp only [q] at z ⊢; exact z
    | stuck => simp only [q] at z ⊢; exact z
  | exc y p e1 => rw [w] at z; exact z
  | stuck => rw [w] at z; exact z
end
/-- such a def, at the module's name x -/
structure CalleeE (P : Program) (w : World) (K : PySem.W.Frag) (mg : MG) (base : Heap) (x : Str) (k n : Nat) (F : Addr → Str → List D → Rs) : Prop where
  ex : ∃ f fd ps, FnE P w K mg base k f fd ps (fun a y => spE K mg n (F a y)) ∧ mg x = some (.ref f) ∧ PySem.W.keepIn K (.ref f) = true ∧ Binds K fd ps []
theorem CalleeE.calH {X : Cx} {x : Str} {k k' n : Nat} {F : Addr → Str → List D → Rs} (c : CalleeE X.prog X.w X.K X.mg X.base x k n F) (hr : L2H.RoomH k' X.A) (h : k ≤ k' := by decide) : CalE X x n F := by
  obtain ⟨f, fd, ps, G, hm, hk, hb⟩ := c.ex
  exact ⟨⟨k, f, fd, ps, G, hr.mono h, hm, hk, hb⟩⟩
theorem CalleeE.cal {X : Cx} {x : Str} {k k' n : Nat} {F : Addr → Str → List D → Rs} (c : CalleeE X.prog X.w X.K X.mg X.base x k n F) (hr : Room k' X.A) (h : k ≤ k' := by decide) : CalE X x n F := c.calH (L2H.roomH_of hr) h
theorem calleeE_of {P : Program} {w : World} {K : PySem.W.Frag} {mg : MG} {base : Heap} {x : Str} {f : Addr} {fd : FuncData} {ps : List Str} {k n : Nat} {F : Addr → Str → List D → Rs} (G : FnE P w K mg base k f fd ps (fun a y => spE K mg n (F a y))) (hm : mg x = some (.ref f)) (hk : PySem.W.keepIn K (.ref f) = true) (hb : Binds K fd ps []) : CalleeE P w K mg base x k n F := ⟨⟨f, fd, ps, G, hm, hk, hb⟩⟩

/-! ### try .. except T as e -/
/-- the catches' table: (x, T, whether except T catches an x) -/
def CatOk (K : PySem.W.Frag) (mg : MG) (tab : ETab) : Prop := ∀ x T b, (x, T, b) ∈ tab → ∃ (Dd : Addr) (u : Value), mg x = some (.ref Dd) ∧ mg T = some u ∧ PySem.W.exmOne K (.ref Dd) u = some b
theorem catOk_nil {K : PySem.W.Frag} {mg : MG} : CatOk K mg [] := fun _ _ _ h => by cases h
theorem catOk_cons {K : PySem.W.Frag} {mg : MG} {x T : Str} {b : Bool} {r : ETab} (h : ∃ (Dd : Addr) (u : Value), mg x = some (.ref Dd) ∧ mg T = some u ∧ PySem.W.exmOne K (.ref Dd) u = some b) (t : CatOk K mg r) : CatOk K mg ((x, T, b) :: r) := fun x' T' b' m => by
  rcases List.mem_cons.mp m with e | e
  · cases e; exact h
  · exact t x' T' b' e
def unS (i : Nat) : Res Fl → Res Fl
  | .ok .nx e => .ok .nx (e.set i .no)
  | .ok .bk e => .ok .bk (e.set i .no)
  | .ok .ct e => .ok .ct (e.set i .no)
  | .ok (.rt d) e => .ok (.rt d) (e.set i .no)
  | .ok (.ro l) e => .ok (.ro l) (e.set i .no)
  | .exc _ _ _ => .stuck
  | .stuck => .stuck
theorem SR.forget {K : PySem.W.Frag} {mg : MG} {ps : Fg} {Hf H : Hp} {σ : L2.St} {e : DEnv} (S : SR K mg ps Hf H σ e) (i : Nat) : SR K mg ps Hf H σ (e.set i .no) := by
  have h := S.drop i (σ[i]?.getD none)
  by_cases hi : i < σ.length
  · rw [List.getElem?_eq_getElem hi] at h
    have : σ.set i ((some σ[i]).getD none) = σ := List.set_getElem_self hi
    rwa [this] at h
  · rwa [List.set_eq_of_length_le (by omega)] at h
open Classical in
/-- the suite, whatever the exception's address -/
noncomputable def mCatch (i : Nat) (fs : Addr → M Fl) : M Fl := fun env =>
  if ∀ a b, unS i (fs a (env.set i (.val (.opq a)))) = unS i (fs b (env.set i (.val (.opq b)))) then unS i (fs (0 : Nat) (env.set i (.val (.opq (0 : Nat))))) else .stuck
theorem mCatch_eq {i : Nat} {fs : Addr → M Fl} {env : DEnv} {r : Res Fl} (h : ∀ a, unS i (fs a (env.set i (.val (.opq a)))) = r) : mCatch i fs env = r := by
  unfold mCatch
  rw [if_pos fun a b => (h a).trans (h b).symm]
  exact h _
noncomputable def mTryAs (i : Nat) (tab : ETab) (T : Str) (fb : M Fl) (fs : Addr → Str → M Fl) : M Fl := fun env => match fb env with
  | .exc x none e' => (match tabAt tab x T with
    | some true => mCatch i (fun a => fs a x) e'
    | some false => .exc x none e'
    | none => .stuck)
  | .exc _ (some _) _ => .stuck
  | r => r
section
variable {X : Cx} {W : WX} {pos : Pos} {N : List Str} {sc raw : Scope}
theorem js_try_as {tab : ETab} {T n : Str} {i : Nat} {np pos' : Pos} {body suite : List Stmt} {b0 : Stmt} {fb : M Fl} {fs : Addr → Str → M Fl} (C : CtxOk X W) (V : Nm X N sc raw) (Y : Df X) (hi : okS N sc raw i n = true) (hl : sc.names.lookup n = some .local) (hT : okG sc T = true) {u : Value} (hu : X.mg T = some u) (TO : CatOk X.K X.mg tab)
    (jb : ∀ (X' : Cx) (W' : WX), CtxOk X' W' → Nm X' N sc raw → Df X' → Bl X X' → JSs X' W' body fb)
    (jh : ∀ (X' : Cx) (a : Addr) (y : Str), HotX X' a y → Nm X' N sc raw → BlH X X' → JSs X' WF (b0 :: suite) (fs a y)) :
    JS X W (.Try body [.ExceptHandler (some (.Name T np)) (some n) (b0 :: suite) pos'] [] [] pos) (mTryAs i tab T fb fs) := by
  obtain ⟨hg, hdb, _⟩ := V.g hT
  obtain ⟨hN, _, _⟩ := V.s hi
  refine ⟨⟨_, L2N.ps_try_as (i := i) (n := n) (c := u) (Wout := W) Y.hs Y.hf V.nodup hN (by unfold Env.kindOf; rw [V.hs]; exact hl) ⟨hg, hdb, .inl hu⟩ C.tk
    (tb := fun W' De σ H => ∀ pn xe, L2N.Takes (X.tr pn xe) W' → PassesOwn (model X.prog X.w) X.A X.env xe → tAll (X.tr pn xe) body De σ H)
    (ts := fun a cls d De σ H => ∀ oe pn, L2N.Zn cls d oe → (∃ vs, oe.data = .fields vs) → tAll (X.suite a ((a, oe) :: pn)) (b0 :: suite) De σ H)
    (fun W' pn xe tk po => ⟨fun pins s σ H De I h => tAll_ok.run pins s σ H De I (h pn xe tk po)⟩)
    (fun a oe cls d pn hz hv => ⟨fun pins s σ H De I h => tAll_ok.run pins s σ H De I (h oe pn hz hv)⟩), fun ps σ Hf H env S De z => ?_⟩⟩
  intro pn xe tk po
  refine tAll_of (X := X.tr pn xe) (W := wAs X.K u i _ W De) (jb (X.tr pn xe) _ ⟨C.calm, C.hu, po, tk, ⟨C.py.tree, C.py.seer, C.py.st, C.py.dp⟩⟩ ⟨V.hN, V.hs, V.nd, V.kind, V.fn⟩ ⟨Y.hs, Y.hf⟩ ⟨rfl, rfl, rfl, rfl, rfl, rfl⟩) S ?_
  unfold mTryAs at z
  cases q : fb env with
  | ok fl e' => rw [q] at z; exact z
  | stuck => rw [q] at z; exact z
  | exc x p e' =>
    rw [q] at z
    cases p with
    | some d => exact False.elim z
    | none =>
      dsimp only at z
      cases w : tabAt tab x T with
      | none => rw [w] at z; exact False.elim z
      | some b =>
        rw [w] at z
        obtain ⟨Dd, u', hx, hT', hex⟩ := TO x T b (tabAt_mem w)
        cases (hu.symm.trans hT')
        intro cls dd σ' Hf' H' x' S' ie
        obtain ⟨ie1, ie2⟩ := ie
        cases (hx.symm.trans ie1)
        cases ie2
        refine ⟨b, hex, fun hb a ha oe pn' hz hv => ?_, fun hb => ?_⟩
        · subst hb
          obtain ⟨vs, hv⟩ := hv
          refine tAll_of (X := X.suite a ((a, oe) :: pn')) (W := WF) (jh (X.suite a ((a, oe) :: pn')) a x ⟨rfl, oe, vs, Dd, List.mem_cons_self, hx, hz.zc, hv, hz.2.2 vs hv⟩ ⟨V.hN, V.hs, V.nd, V.kind, V.fn⟩ ⟨rfl, rfl, rfl, rfl, rfl, rfl, rfl⟩) (S'.put i (.opq a)) ?_
          have z : SG X.K X.mg ps W De Hf (mCatch i (fun a => fs a x) e') := z
          unfold mCatch at z
          split at z
          · rename_i hall
            rw [hall _ a] at z
            have z : SG X.K X.mg ps W De Hf (unS i (fs a x (List.set e' i (Sl.val (D.opq a))))) := z
            cases r : fs a x (e'.set i (.val (.opq a))) with
            | ok fl e2 =>
              rw [r] at z
              cases fl with
              | nx => exact fun σ2 Hf2 H2 x2 S2 => z _ Hf2 H2 (x'.trans x2) (S2.drop i none)
              | bk => exact fun σ2 Hf2 H2 x2 S2 => z _ Hf2 H2 (x'.trans x2) (S2.drop i none)
              | ct => exact fun σ2 Hf2 H2 x2 S2 => z _ Hf2 H2 (x'.trans x2) (S2.drop i none)
              | rt d => exact fun σ2 Hf2 H2 x2 S2 => z σ2 Hf2 H2 (x'.trans x2) (S2.forget i)
              | ro l => exact fun σ2 Hf2 H2 x2 S2 => z σ2 Hf2 H2 (x'.trans x2) (S2.forget i)
            | exc y p e2 => rw [r] at z; exact False.elim z
            | stuck => rw [r] at z; exact False.elim z
          · exact False.elim z
        · subst hb
          exact z (.ref Dd) none σ' Hf' H' x' S' ⟨hx, rfl⟩
end
end DL

/-! DLg: name = [..], slices. -/
namespace DL
open PySem PySem.Spec PyProof.Rows L2 Evl
section
variable {X : Cx} {W : WX} {a b c e : Expr} {es : List Expr} {fa fb fc : M D} {pos : Pos} {N : List Str} {sc raw : Scope}
theorem js_setLc {i : Nat} {y : Str} {py spos : Pos} {scope : Scope} {own : List (Str × Nat)} {vs : List Nat} {tg iter elt : Expr} {ifs : List Expr} {fi : M (List D)} {g : D → M Unit} {tt : M Bool} {el : M D} (C : CtxOk X W) (V : Nm X N sc raw) (hS : okS N sc raw i y = true) (hl : sc.names.lookup y = some .local) (hb : blkC N sc scope own = true) (hvs : own.map (·.2) = vs)
    (hp : (py.line == pos.line) = true) (hna : (scope.names.any fun (n, k) => n == y && (k == .local || k == .cell)) = false)
    (ji : JI X W tg iter fi) (jg : InBl X N sc scope fun X' => JGv X' vs tg g) (jt : InBl X N sc scope fun X' => JTs X' WF ifs tt) (je : InBl X N sc scope fun X' => JE X' WF elt el) (hs : ∀ x, foldedSetIterable iter X.env x = pure x := by intro _; rfl) :
    JS X W (.Assign [.Name y py] (.ListComp elt [⟨tg, iter, ifs, 0⟩] scope pos) spos) (mAsg i (mLc vs fi g tt el)) := by
  subst hvs
  obtain ⟨hi, hx, hf⟩ := V.s hS
  obtain ⟨wi, g', tt', te, pi, ok, pg, pt, pe, h⟩ := lc_ok C V hb ji jg jt je
  have hll : X.env.scope.names.lookup y = some .local := by rw [V.hs]; exact hl
  refine ⟨⟨_, ps_setLc C.calm V.nodup hi hll (sw_true (by rw [V.hs]; exact V.kind) hll hp hna) pi ok pg pt pe hs, fun ps σ Hf H env S De z => ?_⟩⟩
  have z : EG X.K X.mg ps W Hf σ (Pd X.K X.mg fun v H' => De.nx (σ.set i (some v)) H') (mLc (own.map (·.2)) fi g tt el env) := SG.bnd z fun d e' Hf' H' x S' h1 v r => h1 _ Hf' H' (Ex.refl _) (S'.put i r)
  exact h ps σ Hf H env S (fun v H' => De.nx (σ.set i (some v)) H') (fun Hf r => EG X.K X.mg ps W Hf σ (Pd X.K X.mg fun v H' => De.nx (σ.set i (some v)) H') r) ⟨fun x r => EG.mono x r, fun _ z => z, fun z => z, fun {Hf H e p vacc acc} S hp nf ng r no z => z _ _ (Ex.new nf) (S.freezes hp nf ng no) _ (.lst (.inl (.inl upd_same)) (r.mono (Ex.new nf)))⟩ z

theorem sw_cell (V : Nm X N sc raw) {elt : Expr} {gs : List Comprehension} {scope : Scope} {py : Pos} {y : Str} {l : Nat} (hy : sc.names.lookup y = some .cell) : swapsWith (.ListComp elt gs scope pos) (some (.Name y py)) l X.env = pure false := by
  have ky : X.env.kindOf y = some .cell := by
    show X.env.scope.names.lookup y = _
    rw [V.hs]; exact hy
  unfold swapsWith
  simp only [ky]
  cases X.env.blockKind == ScopeKind.function <;> rfl
/-! ### slices -/
structure JO (X : Cx) (W : WX) (e : Option Expr) (f : M (Option Int)) : Prop where
  ex : ∃ t, PO X e t ∧ ∀ (ps : Fg) (σ : L2.St) (Hf H : Hp) (env : DEnv), SR X.K X.mg ps Hf H σ env → ∀ Q : Option Int → Hp → Prop, EG X.K X.mg ps W Hf σ (fun o _ H' => Q o H') (f env) → t σ H Q
def oNone : M (Option Int) := ret none
def oSome (f : M D) : M (Option Int) := bnd f fun d => match d with | .int i => ret (some i) | _ => stk
theorem jo_none : JO X W none oNone := ⟨⟨_, po_none, fun ps σ Hf H env S Q z => EG.ret (W := W) (P := fun o _ H' => Q o H') z S⟩⟩
theorem jo_some (j : JE X W e fa) : JO X W (some e) (oSome fa) := by
  obtain ⟨t, p, h⟩ := j.ex
  refine ⟨⟨_, po_some p, fun ps σ Hf H env S Q z => h ps σ Hf H env S _ (EG.bnd z fun d e1 Hf1 H1 x1 S1 h1 v r => ?_)⟩⟩
  split at h1
  · rename_i i
    rw [r.int_inv]
    exact ⟨i, rfl, EG.ret (W := W) (P := fun o _ H' => Q o H') h1 S1⟩
  · exact h1.elim
def cutD (xs : List D) (lo hi : Option Int) : List D := (xs.drop (HT.sIx xs.length 0 lo)).take (HT.sIx xs.length xs.length hi - HT.sIx xs.length 0 lo)
theorem rps_drop {K : PySem.W.Frag} {mg : MG} {H : Hp} {vs : List L2.V} {ds : List D} (r : Rps K mg H vs ds) : ∀ n : Nat, Rps K mg H (vs.drop n) (ds.drop n) := fun n => by
  induction n generalizing vs ds with
  | zero => exact r
  | succ n ih =>
    cases r with
    | nil => exact .nil
    | cons r1 r2 => exact ih r2
theorem rps_take {K : PySem.W.Frag} {mg : MG} {H : Hp} {vs : List L2.V} {ds : List D} (r : Rps K mg H vs ds) : ∀ n : Nat, Rps K mg H (vs.take n) (ds.take n) := fun n => by
  induction n generalizing vs ds with
  | zero => exact .nil
  | succ n ih =>
    cases r with
    | nil => exact .nil
    | cons r1 r2 => exact .cons r1 (ih r2)
theorem rps_cut {K : PySem.W.Frag} {mg : MG} {H : Hp} {vs : List L2.V} {ds : List D} (r : Rps K mg H vs ds) (lo hi : Option Int) : Rps K mg H (cutV vs lo hi) (cutD ds lo hi) := by
  unfold cutV cutD
  rw [r.length]
  exact rps_take (rps_drop r _) _
def dSlice (x : D) (lo hi : Option Int) : M D := match x with
  | .lst l => ret (.lst (cutD l lo hi))
  | .tup l => ret (.tup (cutD l lo hi))
  | .str z => if z.length ≤ sizeLine then ret (.str (cutS z lo hi)) else stk
  | _ => stk
def mSlice (fa : M D) (fl fu : M (Option Int)) : M D := bnd fa fun x => bnd fl fun l => bnd fu fun u => dSlice x l u
theorem je_slice {lo hi : Option Expr} {p2 : Pos} {fl fu : M (Option Int)} (ja : JE X W a fa) (jl : JO X W lo fl) (ju : JO X W hi fu) : JE X W (.Subscript a (.Slice lo hi none p2) pos) (mSlice fa fl fu) := by
  obtain ⟨t, p, h⟩ := ja.ex
  obtain ⟨tl, pl, hl⟩ := jl.ex
  obtain ⟨tu, pu, hu⟩ := ju.ex
  refine ⟨⟨_, pe_slice ((sl_list.or sl_tupA).or sl_str) p pl pu, fun ps σ Hf H env S Q z => ?_⟩⟩
  refine h ps σ Hf H env S _ (EG.bnd z fun x e1 Hf1 H1 x1 S1 z1 v rv => ?_)
  refine hl ps σ Hf1 H1 e1 S1 _ (EG.bnd z1 fun l e2 Hf2 H2 x2 S2 z2 => ?_)
  refine hu ps σ Hf2 H2 e2 S2 _ (EG.bnd z2 fun u e3 Hf3 H3 x3 S3 z3 => ?_)
  have rv := (rv.mono x2).mono x3
  unfold dSlice at z3
  split at z3
  · cases rv with
    | lst hq r => exact .inl (.inl ⟨_, _, rfl, ex_l S3.ex hq, new_lst S3 (rps_cut r l u) z3⟩)
  · cases rv with
    | tup hq r =>
      refine .inl (.inr ⟨_, _, rfl, ex_t S3.ex hq, fun hw => ?_, fun _ => new_tup S3 (rps_cut r l u) z3⟩)
      have e := z3.ret S3 _ (.tup hq (by
        have k := rps_cut r l u
        have e : ∀ {α : Type} (n : Nat) (ys : List α), ys.length = n → (ys.drop 0).take (n - 0) = ys := fun n ys hn => by rw [List.drop_zero, Nat.sub_zero, List.take_of_length_le (by omega)]
        unfold cutV at k
        rw [hw.1, hw.2, e _ _ rfl] at k
        exact k))
      exact e
  · split at z3
    · rename_i hz
      rw [rv.str_inv]
      exact .inr ⟨_, rfl, hz, z3.ret S3 _ (.str _)⟩
    · exact z3.elim
  · exact z3.elim
end
/-! ### facts about classes, of smaller ones -/
theorem kit_self {K : PySem.W.Frag} {C : Addr} : PySem.W.kitOne K (.ref C) (.ref C) = some true := by
  unfold PySem.W.kitOne
  rw [if_pos (by simp)]
theorem kit_own {K : PySem.W.Frag} {C Dd : Addr} {b : Bool} (hn : (C == Dd) = false) (hd : PySem.W.hasDictIn K Dd = true) (ht : PySem.W.typeIn K (.ref Dd) = some (.type "type")) (hs : PySem.W.subIn K (.ref C) (.ref Dd) = some b) : PySem.W.kitOne K (.ref C) (.ref Dd) = some b := by
  obtain ⟨cd, hc, _⟩ := PySem.W.any_some hd
  unfold PySem.W.kitOne PySem.W.kitCls
  rw [if_neg (fun z => by
    have e := eq_of_beq z
    cases e
    simp at hn)]
  dsimp only
  rw [if_pos (by rw [hc, ht] <;> rfl)]
  exact hs
theorem kit_ty {K : PySem.W.Frag} {C : Addr} {T : String} {b : Bool} (hs : PySem.W.subIn K (.ref C) (.type T) = some b) (hm : PySem.W.kitMeta T = true) : PySem.W.kitOne K (.ref C) (.type T) = some b := by
  unfold PySem.W.kitOne PySem.W.kitCls
  rw [if_neg (fun z => by
    have e := eq_of_beq z
    cases e)]
  dsimp only
  rw [if_pos hm]
  exact hs
end DL

/-! DLk: own lists (made, appended to, items set), ranges with steps, texts, module constants. -/
namespace DL
open PySem PySem.Spec PyProof.Rows L2 Evl
/-! ### a fresh list -/
def FGd (K : PySem.W.Frag) (mg : MG) (ps : Fg) (W : WX) (Hf : Hp) (σ : L2.St) (Q : VK) : Res (List D) → Prop
  | .ok ds e' => ∀ Hf' H' p vs, Ex Hf Hf' → SR K mg ps Hf' H' σ e' → H' p = some (.lst vs) → Hf' p = none → ps.g p = none → Rps K mg Hf' vs ds → Nob H' σ e' p → Q (.ref p) H'
  | .exc x p e' => ∀ cls dd Hf' H', Ex Hf Hf' → SR K mg ps Hf' H' σ e' → IsExc K mg Hf' x p cls dd → W cls dd σ H'
  | .stuck => False
theorem FGd.mono {K : PySem.W.Frag} {mg : MG} {ps : Fg} {W : WX} {Hf Hf' : Hp} {σ : L2.St} {Q : VK} (x : Ex Hf Hf') : ∀ {r : Res (List D)}, FGd K mg ps W Hf σ Q r → FGd K mg ps W Hf' σ Q r
  | .ok _ _, h => fun Hf2 H2 p vs y s => h Hf2 H2 p vs (x.trans y) s
  | .exc _ _ _, h => fun c d Hf2 H2 y s z => h c d Hf2 H2 (x.trans y) s z
  | .stuck, h => h
structure JF (X : Cx) (W : WX) (e : Expr) (f : M (List D)) : Prop where
  ex : ∃ t, PE X e t ∧ ∀ (ps : Fg) (σ : L2.St) (Hf H : Hp) (env : DEnv), SR X.K X.mg ps Hf H σ env → ∀ Q : VK, FGd X.K X.mg ps W Hf σ Q (f env) → t σ H Q
section
variable {X : Cx} {W : WX} {a b c e : Expr} {es : List Expr} {fa fb fc : M D} {pos : Pos} {N : List Str} {sc raw : Scope} {f : M (List D)}
/-- a new list, laid by an expression, is nobody's -/
theorem lay_new {ps : Fg} {σ : L2.St} {Hf H : Hp} {env : DEnv} {Q : VK} {l : List D} {vs : List L2.V} (S : SR X.K X.mg ps Hf H σ env) (r : Rps X.K X.mg Hf vs l)
    (q : FGd X.K X.mg ps W Hf σ Q (.ok l env)) : ∀ p, H p = none → Q (.ref p) (upd H p (.lst vs)) := fun p np => by
  exact q Hf _ p vs (Ex.refl _) (S.laid np) upd_same (fresh_back S.ex np) (S.ng_new np) r (S.nob_new np).upd
def mFl (f : M (List D)) : M (List D) := bnd f fun ds => if szOk ds.length then ret ds else stk
theorem fg_bnd {α : Type} {K : PySem.W.Frag} {mg : MG} {ps : Fg} {Hf : Hp} {σ : L2.St} {env : DEnv} {Q : VK} {m : M α} {g : α → M (List D)} {P1 : α → Hp → Hp → Prop} (h : FGd K mg ps W Hf σ Q (bnd m g env)) (hk : ∀ a e' Hf' H', Ex Hf Hf' → SR K mg ps Hf' H' σ e' → FGd K mg ps W Hf' σ Q (g a e') → P1 a Hf' H') : EG K mg ps W Hf σ P1 (m env) := by
  unfold bnd at h
  cases q : m env with
  | ok a e' => rw [q] at h; exact fun Hf2 H2 y s => hk a e' Hf2 H2 y s (FGd.mono y h)
  | exc x p e' => rw [q] at h; exact h
  | stuck => rw [q] at h; exact h
theorem jf_lst {f : M (List D)} (j : JA X W es f) : JF X W (.List es pos) (mFl f) := by
  obtain ⟨t, p, h⟩ := j.ex
  refine ⟨⟨_, pe_lst p, fun ps σ Hf H env S Q z => ?_⟩⟩
  refine h ps σ Hf H env S _ (fg_bnd z fun xs e1 Hf1 H1 x1 S1 h1 vs rvs => ?_)
  split at h1
  · rename_i hz
    exact ⟨by rw [rvs.length]; exact hz, lay_new S1 rvs h1⟩
  · exact h1.elim
def cListF : List D → M (List D) := fun ds => match ds with | [.lst l] => ret l | [.tup l] => ret l | _ => stk
def unL (m : M D) : M (List D) := fun env => match m env with | .ok (.lst l) e => .ok l e | .exc x p e => .exc x p e | _ => .stuck
theorem jf_lc {scope : Scope} {own : List (Str × Nat)} {vs : List Nat} {tg iter elt : Expr} {ifs : List Expr} {fi : M (List D)} {g : D → M Unit} {tt : M Bool} {el : M D} (C : CtxOk X W) (V : Nm X N sc raw) (hb : blkC N sc scope own = true) (hvs : own.map (·.2) = vs)
    (ji : JI X W tg iter fi) (jg : InBl X N sc scope fun X' => JGv X' vs tg g) (jt : InBl X N sc scope fun X' => JTs X' WF ifs tt) (je : InBl X N sc scope fun X' => JE X' WF elt el) (hs : ∀ x, foldedSetIterable iter X.env x = pure x := by intro _; rfl) :
    JF X W (.ListComp elt [⟨tg, iter, ifs, 0⟩] scope pos) (unL (mLc vs fi g tt el)) := by
  subst hvs
  obtain ⟨wi, g', tt', te, pi, ok, pg, pt, pe, h⟩ := lc_ok C V hb ji jg jt je
  refine ⟨⟨_, pe_lc C.calm V.nodup pi ok pg pt pe hs, fun ps σ Hf H env S Q z => h ps σ Hf H env S Q (fun Hf r => FGd X.K X.mg ps W Hf σ Q (match r with | .ok (.lst l) e => .ok l e | .exc x p e => .exc x p e | _ => .stuck)) ⟨fun x r => FGd.mono x r, fun _ z => z, fun z => z, fun {Hf H e p vacc acc} S hp nf ng r no z => z Hf H p vacc (Ex.refl _) S hp nf ng r no⟩ z⟩⟩
def mOwn (i : Nat) (f : M (List D)) : M Fl := bnd f fun ds env => .ok .nx (env.set i (.own none (.lst ds)))
theorem own_set {ps : Fg} {σ : L2.St} {Hf : Hp} {env : DEnv} {De : Ends} {i : Nat} (z : SG X.K X.mg ps W De Hf (mOwn i f env)) : FGd X.K X.mg ps W Hf σ (fun v H' => De.nx (σ.set i (some v)) H') (f env) := by
  unfold mOwn bnd at z
  cases q : f env with
  | ok ds e' =>
    rw [q] at z
    exact fun Hf' H' p vs x S hp nf ng r no => z _ Hf' H' x (S.take i hp nf ng ⟨vs, rfl, r⟩ no)
  | exc x p e' => rw [q] at z; exact fun cls dd Hf' H' x S ie => z cls dd σ Hf' H' x S ie
  | stuck => rw [q] at z; exact z
theorem js_own (V : Nm X N sc raw) {i : Nat} {x : Str} {pos' : Pos} (hS : okS N sc raw i x = true) (j : JF X W e f)
    (hs : swapsWith e (some (.Name x pos')) pos.line X.env = pure false := by rfl) : JS X W (.Assign [.Name x pos'] e pos) (mOwn i f) := by
  obtain ⟨hi, hx, hf⟩ := V.s hS
  have hN := V.nodup
  obtain ⟨t, p, h⟩ := j.ex
  exact ⟨⟨_, ps_set (i := i) hN hi hx p hs hf, fun ps σ Hf H env S De z => h ps σ Hf H env S _ (own_set z)⟩⟩
theorem js_ownLc {i : Nat} {y : Str} {py spos : Pos} {scope : Scope} {own : List (Str × Nat)} {vs : List Nat} {tg iter elt : Expr} {ifs : List Expr} {fi : M (List D)} {g : D → M Unit} {tt : M Bool} {el : M D} (C : CtxOk X W) (V : Nm X N sc raw) (hS : okS N sc raw i y = true) (hl : sc.names.lookup y = some .local) (hb : blkC N sc scope own = true) (hvs : own.map (·.2) = vs)
    (hp : (py.line == pos.line) = true) (hna : (scope.names.any fun (n, k) => n == y && (k == .local || k == .cell)) = false)
    (ji : JI X W tg iter fi) (jg : InBl X N sc scope fun X' => JGv X' vs tg g) (jt : InBl X N sc scope fun X' => JTs X' WF ifs tt) (je : InBl X N sc scope fun X' => JE X' WF elt el) (hs : ∀ x, foldedSetIterable iter X.env x = pure x := by intro _; rfl) :
    JS X W (.Assign [.Name y py] (.ListComp elt [⟨tg, iter, ifs, 0⟩] scope pos) spos) (mOwn i (unL (mLc vs fi g tt el))) := by
  subst hvs
  obtain ⟨hi, hx, hf⟩ := V.s hS
  obtain ⟨wi, g', tt', te, pi, ok, pg, pt, pe, h⟩ := lc_ok C V hb ji jg jt je
  have hll : X.env.scope.names.lookup y = some .local := by rw [V.hs]; exact hl
  refine ⟨⟨_, ps_setLc C.calm V.nodup hi hll (sw_true (by rw [V.hs]; exact V.kind) hll hp hna) pi ok pg pt pe hs, fun ps σ Hf H env S De z => ?_⟩⟩
  have z := own_set (σ := σ) z
  exact h ps σ Hf H env S (fun v H' => De.nx (σ.set i (some v)) H') (fun Hf r => FGd X.K X.mg ps W Hf σ (fun v H' => De.nx (σ.set i (some v)) H') (match r with | .ok (.lst l) e => .ok l e | .exc x p e => .exc x p e | _ => .stuck)) ⟨fun x r => FGd.mono x r, fun _ z => z, fun z => z, fun {Hf H e p vacc acc} S hp nf ng r no z => z Hf H p vacc (Ex.refl _) S hp nf ng r no⟩ z
/-! ### x.append(e) -/
def ownAt (env : DEnv) (i : Nat) : Option (Option Nat × List D) := match env[i]? with | some (.own k (.lst l)) => some (k, l) | _ => none
theorem ownAt_eq {env : DEnv} {i : Nat} {k : Option Nat} {l : List D} (h : ownAt env i = some (k, l)) : env[i]? = some (.own k (.lst l)) := by
  unfold ownAt at h
  split at h
  · rename_i k' l' q; cases h; exact q
  · cases h
def kApp (i : Nat) (d : D) : M Fl := fun env => match ownAt env i with
  | some (k, l) => if l.length < sizeLine then .ok .nx (env.set i (.own k (.lst (l ++ [d])))) else .stuck
  | none => .stuck
def mApp (i : Nat) (f : M D) : M Fl := fun env => match ownAt env i with | some _ => bnd f (kApp i) env | none => .stuck
theorem rps_snoc {K : PySem.W.Frag} {mg : MG} {H : Hp} {vs : List L2.V} {ds : List D} {v : L2.V} {d : D} (r : Rps K mg H vs ds) (r2 : Rp K mg H v d) : Rps K mg H (vs ++ [v]) (ds ++ [d]) := by
  induction ds generalizing vs with
  | nil => cases r; exact .cons r2 .nil
  | cons d' ds ih => cases r with | cons r1 rr => exact .cons r1 (ih rr)
theorem js_app {x : Str} {i : Nat} {p1 p2 p3 pos2 : Pos} (V : Nm X N sc raw) (hv : okV N sc i x = true) (j : JE X W e fa)
    (hbase : attributeBase (.Name x p1) "append" X.env (eval (.Name x p1) X.env) = eval (.Name x p1) X.env := by rfl)
    (hfew : ((backTo p3 (starEach [e] X.env)).all (fun x => !x.1) && (backToKw p3 (keywordEach [] X.env)).all (fun x => x.1.isSome)
      && decide ([e].length + ([] : List Keyword).length + (if ([] : List Keyword).isEmpty then 0 else 1) < 30)) = true := by rfl)
    (hline : (p2.endLine == p3.line) = true := by rfl) (hs : starEach [e] X.env = (false, eval e X.env) :: starEach [] X.env := by rfl) (hplain : (backTo p3 (starEach [] X.env)).any (·.1) = false := by rfl)
    (hsw : swapsWith (.Call (.Attribute (.Name x p1) "append" p2) [e] [] p3) none pos2.line X.env = pure false := by rfl) :
    JS X W (.Expr (.Call (.Attribute (.Name x p1) "append" p2) [e] [] p3) pos2) (mApp i fa) := by
  obtain ⟨hN, hvi, hd, hcd⟩ := V.v hv
  obtain ⟨t, p, h⟩ := j.ex
  refine ⟨⟨_, ps_expr (pe_bm PySem.F.plainAttrs_list PySem.F.slot_list_append PySem.F.type_list_append mt_append (pe_var hN hvi hd hcd) (pa_cons p pa_nil hs) hbase hfew hline hs hplain) hsw, fun ps σ Hf H env S De z => ?_⟩⟩
  unfold mApp at z
  cases w : ownAt env i with
  | none => rw [w] at z; exact z.elim
  | some kl =>
    obtain ⟨k, l⟩ := kl
    rw [w] at z
    obtain ⟨pa, o, hp, nf, ho, ⟨vs, e1, r⟩, hk⟩ := S.own (ownAt_eq w)
    subst e1
    refine ⟨.ref pa, hp, .inl ⟨rfl, vs, .inl (.inl ho)⟩, ?_⟩
    refine h ps σ Hf H env S _ (SG.bnd z fun d e1 Hf1 H1 x1 S1 z1 v rv => ?_)
    unfold kApp at z1
    cases w1 : ownAt e1 i with
    | none => rw [w1] at z1; exact z1.elim
    | some kl1 =>
      obtain ⟨k1, l1⟩ := kl1
      rw [w1] at z1
      dsimp only at z1
      by_cases hz : l1.length < sizeLine
      · rw [if_pos hz] at z1
        obtain ⟨p1, o1, hp1, nf1, ho1, ⟨vs1, e2, r1⟩, hk1⟩ := S1.own (ownAt_eq w1)
        subst e2
        rw [hp] at hp1; cases hp1
        exact ⟨pa, vs1, v, rfl, rfl, ho1, by rw [r1.length]; exact hz, z1 σ Hf1 _ (Ex.refl _) (S1.turn (ownAt_eq w1) hp ⟨vs1 ++ [v], rfl, rps_snoc r1 rv⟩)⟩
      · rw [if_neg hz] at z1; exact z1.elim
/-! ### x[k] = e -/
def kSet (i : Nat) (d kd : D) : M Fl := fun env => match kd, ownAt env i with
  | .int j, some (k, l) => (match ixN l.length j with | some n => .ok .nx (env.set i (.own k (.lst (l.set n d)))) | none => .stuck)
  | _, _ => .stuck
def mSetI (i : Nat) (fi fv : M D) : M Fl := bnd fv fun d env => match ownAt env i with | some _ => bnd fi (fun kd => kSet i d kd) env | none => .stuck
theorem rps_set {K : PySem.W.Frag} {mg : MG} {H : Hp} {vs : List L2.V} {ds : List D} {v : L2.V} {d : D} (r : Rps K mg H vs ds) (r2 : Rp K mg H v d) : ∀ n, Rps K mg H (vs.set n v) (ds.set n d) := fun n => by
  induction ds generalizing vs n with
  | nil => cases r; exact .nil
  | cons d' ds ih => cases r with
    | cons r1 rr => cases n with
      | zero => exact .cons r2 rr
      | succ n => exact .cons r1 (ih rr n)
theorem js_setI {x : Str} {i : Nat} {p1 p2 : Pos} (V : Nm X N sc raw) (hv : okV N sc i x = true) (j : JE X W e fa) (k : JE X W b fb)
    (ha : ∀ v, assign (.Subscript (.Name x p1) b p2) X.env v = (do
      let ov ← holding [v] (eval (.Name x p1) X.env)
      let iv ← holding [v, ov] (eval b X.env)
      standAt p2
      holding [v, ov, iv] (setItem ov iv v)
      release [v, ov, iv] []) := by intro _; rfl)
    (hs : swapsWithSole [.Subscript (.Name x p1) b p2] e pos.line X.env = pure false := by rfl) (hw : swappedStores [.Subscript (.Name x p1) b p2] e X.env = pure none := by rfl) (h1 : (assignEach [.Subscript (.Name x p1) b p2] X.env).map (·.2) = [assign (.Subscript (.Name x p1) b p2) X.env] := by rfl) :
    JS X W (.Assign [.Subscript (.Name x p1) b p2] e pos) (mSetI i fb fa) := by
  obtain ⟨hN, hvi, hd, hcd⟩ := V.v hv
  obtain ⟨t, p, h⟩ := j.ex
  obtain ⟨tb, pb, hb⟩ := k.ex
  refine ⟨⟨_, ps_asg p (pg_sub (pe_var hN hvi hd hcd) pb set_list ha) hs hw h1, fun ps σ Hf H env S De z => ?_⟩⟩
  refine h ps σ Hf H env S _ (SG.bnd z fun d e1 Hf1 H1 x1 S1 z1 v rv => ?_)
  cases w : ownAt e1 i with
  | none => rw [w] at z1; exact z1.elim
  | some kl =>
    obtain ⟨kk, l⟩ := kl
    rw [w] at z1
    obtain ⟨pa, o, hp, nf, ho, ⟨vs, e2, r⟩, hk⟩ := S1.own (ownAt_eq w)
    refine ⟨.ref pa, hp, ?_⟩
    refine hb ps σ Hf1 H1 e1 S1 _ (SG.bnd z1 fun kd e3 Hf3 H3 x3 S3 z3 u ru => ?_)
    unfold kSet at z3
    split at z3
    · rename_i jj k3 l3 w3
      split at z3
      · rename_i n hn
        obtain ⟨p3, o3, hp3, nf3, ho3, ⟨vs3, e4, r3⟩, hk3⟩ := S3.own (ownAt_eq w3)
        subst e4
        rw [hp] at hp3; cases hp3
        exact ⟨pa, vs3, jj, n, rfl, ru.int_inv, ho3, by rw [r3.length]; exact hn, z3 σ Hf3 _ (Ex.refl _) (S3.turn (ownAt_eq w3) hp ⟨vs3.set n v, rfl, rps_set r3 (rv.mono x3) n⟩)⟩
      · exact z3.elim
    · exact z3.elim
/-! ### range with a step -/
def rng3D (i c : Int) (n : Nat) : List D := (List.range n).map fun (k : Nat) => .int (i + (k : Int) * c)
theorem itok_range3 {K : PySem.W.Frag} {mg : MG} {Hf : Hp} {lo c : Int} {n : Nat} : ItOk K mg Hf (Itc lo c n) (rng3D lo c n) where
  go := fun i d hd ps σ env Hf2 H2 x S => by
    unfold rng3D at hd
    rw [List.getElem?_map] at hd
    have hi : i < n := by
      cases q : (List.range n)[i]? with
      | none => rw [q] at hd; cases hd
      | some k => have := (List.getElem?_eq_some_iff.mp q).1; simpa using this
    rw [List.getElem?_range hi] at hd
    cases hd
    exact ⟨hi, fun x H3 y => ⟨Hf2, Ex.refl _, by rw [y.1]; exact S, by rw [y.2]; exact .int _⟩⟩
  stop := fun i hi ps σ env Hf2 H2 x S => by
    unfold rng3D at hi
    have hi' : n ≤ i := by simpa using hi
    exact hi'
instance (i j c : Int) (n : Nat) : Decidable (RgC i j c n) := by unfold RgC; infer_instance
def mRng3 (f : M (List D)) : M (List D) := bnd f fun ds => match ds with | [.int i, .int j, .int c] => if RgC i j c (Builtin.Range.rangeSize i j c).toNat then ret (rng3D i c (Builtin.Range.rangeSize i j c).toNat) else stk | _ => stk
theorem ji_range3 {tg : Expr} {p : Pos} {f : M (List D)} (V : Nm X N sc raw) (hG : okG sc "range" = true) (hm : X.mg "range" = none) (ja : JA X W [a, b, c] f) (hs : starEach [a, b, c] X.env = (false, eval a X.env) :: starEach [b, c] X.env := by rfl) (hpl : (backTo pos (starEach [b, c] X.env)).any (·.1) = false := by rfl) :
    JI X W tg (.Call (.Name "range" p) [a, b, c] [] pos) (mRng3 f) := by
  have hg := (V.g hG).1
  obtain ⟨t, q, h⟩ := ja.ex
  refine ⟨⟨_, pi_range3 hg hm q hs hpl, fun ps σ Hf H env S R z => ?_⟩⟩
  refine h ps σ Hf H env S _ (EG.bnd z fun ds e1 Hf1 H1 x1 S1 h1 vs r => ?_)
  split at h1
  · rename_i i j c'
    split at h1
    · rename_i hc
      cases r with
      | cons r1 r2 => cases r2 with
        | cons r3 r4 => cases r4 with
          | cons r5 r6 => cases r6; rw [r1.int_inv, r3.int_inv, r5.int_inv]; exact ⟨i, j, c', _, rfl, hc, h1.ret S1 _ itok_range3⟩
    · exact h1.elim
  · exact h1.elim
/-! ### zip -/
def zipD (l m : List D) : List D := (l.zip m).map fun p => .tup [p.1, p.2]
theorem zipD_at {l m : List D} {i : Nat} {d : D} (h : (zipD l m)[i]? = some d) : ∃ x y, l[i]? = some x ∧ m[i]? = some y ∧ d = .tup [x, y] := by
  unfold zipD at h
  rw [List.getElem?_map] at h
  cases q : (l.zip m)[i]? with
  | none => rw [q] at h; cases h
  | some p =>
    rw [q] at h
    cases h
    obtain ⟨a, b⟩ := List.getElem?_zip_eq_some.mp q
    exact ⟨p.1, p.2, a, b, rfl⟩
theorem zipD_len {l m : List D} : (zipD l m).length = min l.length m.length := by unfold zipD; rw [List.length_map, List.length_zip]
theorem itok_zipL {K : PySem.W.Frag} {mg : MG} {Hf : Hp} {a b : Addr} {xs ys : List L2.V} {l m : List D} (hx : SqL K Hf a xs) (rx : Rps K mg Hf xs l) (hy : SqL K Hf b ys) (ry : Rps K mg Hf ys m) : ItOk K mg Hf (Itz K a b) (zipD l m) where
  go := fun i d hd ps σ env Hf2 H2 x S => by
    obtain ⟨dx, dy, h1, h2, rfl⟩ := zipD_at hd
    obtain ⟨u, hu, ru⟩ := rx.get h1
    obtain ⟨w, hw, rw'⟩ := ry.get h2
    have qx := ex_l S.ex (ex_l x hx)
    have qy := ex_l S.ex (ex_l x hy)
    refine ⟨⟨xs, ys, u, w, qx, qy, hu, hw⟩, fun v H3 yl => ?_⟩
    obtain ⟨T, x', y', rfl, nT, rfl, k1, k2⟩ := yl
    have e1 := k1 xs qx
    have e2 := k2 ys qy
    rw [hu] at e1; cases e1
    rw [hw] at e2; cases e2
    have nf := fresh_back S.ex nT
    exact ⟨_, Ex.new nf, S.froze nT, .tup (.inl (.inl upd_same)) (.cons ((ru.mono x).mono (Ex.new nf)) (.cons ((rw'.mono x).mono (Ex.new nf)) .nil))⟩
  stop := fun i hi ps σ env Hf2 H2 x S => by
    rw [zipD_len] at hi
    refine ⟨xs, ys, ex_l S.ex (ex_l x hx), ex_l S.ex (ex_l x hy), ?_⟩
    rw [rx.length, ry.length]
    omega
theorem itok_zipT {K : PySem.W.Frag} {mg : MG} {Hf : Hp} {a b : Addr} {xs ys : List L2.V} {l m : List D} (hx : SqT K Hf a xs) (rx : Rps K mg Hf xs l) (hy : SqT K Hf b ys) (ry : Rps K mg Hf ys m) : ItOk K mg Hf (RZ.ItzT K a b) (zipD l m) where
  go := fun i d hd ps σ env Hf2 H2 x S => by
    obtain ⟨dx, dy, h1, h2, rfl⟩ := zipD_at hd
    obtain ⟨u, hu, ru⟩ := rx.get h1
    obtain ⟨w, hw, rw'⟩ := ry.get h2
    have qx := ex_t S.ex (ex_t x hx)
    have qy := ex_t S.ex (ex_t x hy)
    refine ⟨⟨xs, ys, u, w, qx, qy, hu, hw⟩, fun v H3 yl => ?_⟩
    obtain ⟨T, x', y', rfl, nT, rfl, k1, k2⟩ := yl
    have e1 := k1 xs qx
    have e2 := k2 ys qy
    rw [hu] at e1; cases e1
    rw [hw] at e2; cases e2
    have nf := fresh_back S.ex nT
    exact ⟨_, Ex.new nf, S.froze nT, .tup (.inl (.inl upd_same)) (.cons ((ru.mono x).mono (Ex.new nf)) (.cons ((rw'.mono x).mono (Ex.new nf)) .nil))⟩
  stop := fun i hi ps σ env Hf2 H2 x S => by
    rw [zipD_len] at hi
    refine ⟨xs, ys, ex_t S.ex (ex_t x hx), ex_t S.ex (ex_t x hy), ?_⟩
    rw [rx.length, ry.length]
    omega
def mZip (f : M (List D)) : M (List D) := bnd f fun ds => match ds with | [.lst l, .lst m] => ret (zipD l m) | [.tup l, .tup m] => ret (zipD l m) | _ => stk
theorem ji_zip {p tpos : Pos} {elts : List Expr} {kk : Nat} (V : Nm X N sc raw) (hG : okG sc "zip" = true) (hm : X.mg "zip" = none) (ja : JA X W [a, b] f) (hs : starEach [a, b] X.env = (false, eval a X.env) :: starEach [b] X.env := by rfl) (hpl : (backTo pos (starEach [b] X.env)).any (·.1) = false := by rfl) :
    JI X W (.Tuple elts kk tpos) (.Call (.Name "zip" p) [a, b] [] pos) (mZip f) := by
  have hg := (V.g hG).1
  obtain ⟨t, q, h⟩ := ja.ex
  refine ⟨⟨_, RZ.pi_zipA hg hm q hs hpl, fun ps σ Hf H env S R z => ?_⟩⟩
  refine h ps σ Hf H env S _ (EG.bnd z fun ds e1 Hf1 H1 x1 S1 h1 vs r => ?_)
  split at h1
  · cases r with
    | cons r1 r2 => cases r2 with
      | cons r3 r4 =>
        cases r4
        cases r1 with
        | lst hx rx => cases r3 with
          | lst hy ry => exact ⟨_, _, _, _, rfl, .inl ⟨ex_l S1.ex hx, ex_l S1.ex hy, h1.ret S1 _ (itok_zipL hx rx hy ry)⟩⟩
  · cases r with
    | cons r1 r2 => cases r2 with
      | cons r3 r4 =>
        cases r4
        cases r1 with
        | tup hx rx => cases r3 with
          | tup hy ry => exact ⟨_, _, _, _, rfl, .inr ⟨ex_t S1.ex hx, ex_t S1.ex hy, h1.ret S1 _ (itok_zipT hx rx hy ry)⟩⟩
  · exact h1.elim
/-! ### module constants -/
inductive ConstR : D → Value → Prop where
  | int (i : Int) (t : Tok) : ConstR (.int i) (.int i t)
  | str (z : Str) (t : Tok) : ConstR (.str z) (.str z t)
structure Kst (mg : MG) (x : Str) (d : D) : Prop where
  ex : ∃ u, mg x = some u ∧ ConstR d u
theorem je_const {x : Str} {d : D} (V : Nm X N sc raw) (hG : okG sc x = true) (k : Kst X.mg x d) : JE X W (.Name x pos) (ret d) := by
  obtain ⟨hg, hdb, _⟩ := V.g hG
  obtain ⟨u, hm, r⟩ := k.ex
  cases r with
  | int i t => exact ⟨⟨_, pe_glob (v := .int i) hg hm ⟨t, rfl⟩ hdb, fun ps σ Hf H env S Q z => z.ret S _ (.int i)⟩⟩
  | str z t => exact ⟨⟨_, pe_glob (v := .str z) hg hm ⟨t, rfl⟩ hdb, fun ps σ Hf H env S Q z => z.ret S _ (.str _)⟩⟩
theorem Bl.kst {X X' : Cx} (B : Bl X X') {x : Str} {d : D} (h : Kst X.mg x d) : Kst X'.mg x d := by rw [B.mg]; exact h
theorem BlH.kst {X X' : Cx} (B : BlH X X') {x : Str} {d : D} (h : Kst X.mg x d) : Kst X'.mg x d := by rw [B.mg]; exact h
/-! ### texts -/
def asStrs : List D → Option (List Str)
  | [] => some []
  | .str z :: r => (asStrs r).map (z :: ·)
  | _ :: _ => none
theorem asStrs_eq : ∀ {l : List D} {ys : List Str}, asStrs l = some ys → l = ys.map .str
  | [], ys, h => by cases h; rfl
  | d :: r, ys, h => by
    unfold asStrs at h
    split at h
    · rename_i h0; cases h0
    · rename_i z r' h0
      cases h0
      cases q : asStrs r with
      | none => rw [q] at h; cases h
      | some zs => rw [q] at h; cases h; rw [asStrs_eq q]; rfl
    · cases h
theorem asStrs_map : ∀ ys : List Str, asStrs (ys.map .str) = some ys
  | [] => rfl
  | z :: r => by rw [List.map_cons, asStrs, asStrs_map r]; rfl
theorem Rps.strs {K : PySem.W.Frag} {mg : MG} {H : Hp} : ∀ {ys : List Str} {vs : List L2.V}, Rps K mg H vs (ys.map .str) → vs = ys.map V.str
  | [], _, r => by cases r; rfl
  | z :: ys, _, r => by
    cases r with
    | cons r1 r2 => rw [r1.str_inv, Rps.strs r2]; rfl
theorem rps_strs {K : PySem.W.Frag} {mg : MG} {H : Hp} : ∀ ys : List Str, Rps K mg H (ys.map V.str) (ys.map D.str)
  | [] => .nil
  | z :: r => .cons (.str z) (rps_strs r)
def xStr (g : Str → M D) (x : D) : M D := match x with | .str s => g s | _ => stk
def dSplit (a : Str) (y : D) : M D := match y with
  | .str b => if (b.length == 0) = false ∧ a.length + 2 ≤ sizeLine then ret (.lst ((Txt.split a b).map .str)) else stk
  | _ => stk
theorem je_split {apos : Pos} (ja : JE X W a fa) (jb : JE X W b fb) (hs : starEach [b] X.env = [(false, eval b X.env)] := by rfl) (hbase : attributeBase a "split" X.env (eval a X.env) = eval a X.env := by rfl) (hline : (apos.endLine == pos.line) = true := by rfl) :
    JE X W (.Call (.Attribute a "split" apos) [b] [] pos) (bnd fa (xStr fun s => bnd fb (dSplit s))) := by
  obtain ⟨t, p, h⟩ := ja.ex
  obtain ⟨tb, pb, hb⟩ := jb.ex
  refine ⟨⟨_, pe_split p pb hs hbase hline, fun ps σ Hf H env S Q z => ?_⟩⟩
  refine h ps σ Hf H env S _ (EG.bnd z fun x e1 Hf1 H1 x1 S1 z1 v rv => ?_)
  unfold xStr at z1
  split at z1
  · rename_i sa
    rw [rv.str_inv]
    refine ⟨⟨sa, rfl⟩, ?_⟩
    refine hb ps σ Hf1 H1 e1 S1 _ (EG.bnd z1 fun y e2 Hf2 H2 x2 S2 z2 u ru => ?_)
    cases y with
    | str b' =>
      have z2 : EG X.K X.mg ps W Hf2 σ (Pd X.K X.mg Q) ((if (b'.length == 0) = false ∧ sa.length + 2 ≤ sizeLine then ret (D.lst ((Txt.split sa b').map .str)) else stk) e2) := z2
      split at z2
      · rename_i hc
        rw [ru.str_inv]
        exact ⟨sa, b', rfl, rfl, hc.1, hc.2, new_lst S2 (rps_strs _) z2⟩
      · exact z2.elim
    | _ => exact z2.elim
  · exact z1.elim
def joinOk (a : Str) (ys : List Str) : Prop := (ys.map (·.length)).sum + ys.length * a.length ≤ 16777216
instance (a : Str) (ys : List Str) : Decidable (joinOk a ys) := by unfold joinOk; infer_instance
def oJoin (a : Str) (o : Option (List Str)) : M D := match o with | some ys => if joinOk a ys then ret (.str (Txt.join a ys)) else stk | none => stk
def dJoin (a : Str) (y : D) : M D := match y with
  | .lst l => oJoin a (asStrs l)
  | .tup l => oJoin a (asStrs l)
  | _ => stk
theorem je_join {apos : Pos} (ja : JE X W a fa) (jb : JE X W b fb) (hs : starEach [b] X.env = [(false, eval b X.env)] := by rfl) (hbase : attributeBase a "join" X.env (eval a X.env) = eval a X.env := by rfl) (hline : (apos.endLine == pos.line) = true := by rfl) :
    JE X W (.Call (.Attribute a "join" apos) [b] [] pos) (bnd fa (xStr fun s => bnd fb (dJoin s))) := by
  obtain ⟨t, p, h⟩ := ja.ex
  obtain ⟨tb, pb, hb⟩ := jb.ex
  refine ⟨⟨_, pe_join p pb hs hbase hline, fun ps σ Hf H env S Q z => ?_⟩⟩
  refine h ps σ Hf H env S _ (EG.bnd z fun x e1 Hf1 H1 x1 S1 z1 v rv => ?_)
  unfold xStr at z1
  split at z1
  · rename_i sa
    rw [rv.str_inv]
    refine ⟨⟨sa, rfl⟩, ?_⟩
    refine hb ps σ Hf1 H1 e1 S1 _ (EG.bnd z1 fun y e2 Hf2 H2 x2 S2 z2 u ru => ?_)
    have fin : ∀ l : List D, EG X.K X.mg ps W Hf2 σ (Pd X.K X.mg Q) (oJoin sa (asStrs l) e2) → ∃ ys : List Str, l = ys.map .str ∧ joinOk sa ys ∧ Q (.str (Txt.join sa ys)) H2 := fun l z => by
      cases w : asStrs l with
      | none => rw [w] at z; exact z.elim
      | some ys =>
        rw [w] at z
        unfold oJoin at z
        dsimp only at z
        split at z
        · rename_i hc
          exact ⟨ys, asStrs_eq w, hc, z.ret S2 _ (.str _)⟩
        · exact z.elim
    unfold dJoin at z2
    split at z2
    · obtain ⟨ys, rfl, hc, q⟩ := fin _ z2
      cases ru with
      | lst hq r =>
        have e := r.strs
        subst e
        exact ⟨sa, _, ys, rfl, rfl, .inl (ex_l S2.ex hq), hc, q⟩
    · obtain ⟨ys, rfl, hc, q⟩ := fin _ z2
      cases ru with
      | tup hq r =>
        have e := r.strs
        subst e
        exact ⟨sa, _, ys, rfl, rfl, .inr (ex_t S2.ex hq), hc, q⟩
    · exact z2.elim
  · exact z1.elim
/-! ### in, not in -/
def sgn (z : Str) : Option Nat := match z.cps.toList with | [c] => some c | _ => none
theorem sgn_eq {z : Str} {c : Nat} (h : sgn z = some c) : z = ⟨#[c]⟩ := by
  unfold sgn at h
  split at h
  · rename_i c' q
    cases h
    obtain ⟨cps⟩ := z
    have : cps = #[c] := by
      apply Array.toList_inj.mp
      exact q
    rw [this]
  · cases h
theorem sgn_one {c : Nat} : sgn ⟨#[c]⟩ = some c := rfl
def inS (neg : Bool) (o : Option Nat) (z : Str) : M D := match o with | some c => ret (.bl (if neg then !decide (c ∈ z.cps.toList) else decide (c ∈ z.cps.toList))) | none => stk
def dIn (neg : Bool) (x y : D) : M D := match x, y with
  | .str s, .str z => inS neg (sgn s) z
  | _, _ => stk
theorem rj_in : RJ X W (fun x y H Q => ∃ (c : Nat) (z : Str), x = .str ⟨#[c]⟩ ∧ y = .str z ∧ Q (.bl (decide (c ∈ z.cps.toList))) H) (dIn false) := by
  intro ps σ Hf H env x y dx dy Q S rx ry q
  unfold dIn at q
  split at q
  · rename_i s z
    rw [rx.str_inv, ry.str_inv]
    cases w : sgn s with
    | none => rw [w] at q; exact q.elim
    | some c => rw [w] at q; exact ⟨c, z, by rw [sgn_eq w], rfl, q.ret S _ (.bl _)⟩
  · exact q.elim
theorem rj_nin : RJ X W (fun x y H Q => ∃ (c : Nat) (z : Str), x = .str ⟨#[c]⟩ ∧ y = .str z ∧ Q (.bl (!decide (c ∈ z.cps.toList))) H) (dIn true) := by
  intro ps σ Hf H env x y dx dy Q S rx ry q
  unfold dIn at q
  split at q
  · rename_i s z
    rw [rx.str_inv, ry.str_inv]
    cases w : sgn s with
    | none => rw [w] at q; exact q.elim
    | some c => rw [w] at q; exact ⟨c, z, by rw [sgn_eq w], rfl, q.ret S _ (.bl _)⟩
  · exact q.elim
theorem je_in (ja : JE X W a fa) (jb : JE X W b fb) (hm : behindInMarks .In b = false := by rfl) : JE X W (.Compare a [.In] [b] pos) (m2 fa fb (dIn false)) := je_cmp op_in_sign rj_in ja jb hm
theorem je_nin (ja : JE X W a fa) (jb : JE X W b fb) (hm : behindInMarks .NotIn b = false := by rfl) : JE X W (.Compare a [.NotIn] [b] pos) (m2 fa fb (dIn true)) := je_cmp op_notIn_sign rj_nin ja jb hm
theorem jt_in (ja : JE X W a fa) (jb : JE X W b fb) (hm : behindInMarks .In b = false := by rfl) : JT X W (.Compare a [.In] [b] pos) (bnd (m2 fa fb (dIn false)) mB) := jt_cmp op_in_sign rj_in ja jb hm
theorem jt_nin (ja : JE X W a fa) (jb : JE X W b fb) (hm : behindInMarks .NotIn b = false := by rfl) : JT X W (.Compare a [.NotIn] [b] pos) (bnd (m2 fa fb (dIn true)) mB) := jt_cmp op_notIn_sign rj_nin ja jb hm
end
end DL

/-! DLs: how a body's worth is reckoned. -/
namespace DL
open PySem PySem.Spec PyProof.Rows L2 Evl
theorem forL_nil {g : D → M Unit} {b : M Fl} {e : DEnv} : forL g b [] e = .ok .nx e := rfl
theorem forL_cons {g : D → M Unit} {b : M Fl} {d : D} {r : List D} {e : DEnv} : forL g b (d :: r) e = bnd (g d) (fun _ => again b (forL g b r)) e := rfl
/-- a loop by an invariant -/
theorem forL_inv {g : D → M Unit} {b : M Fl} (I : DEnv → Prop) : ∀ ds : List D, (∀ d ∈ ds, ∀ e, I e → ∃ e1 e2, g d e = .ok () e1 ∧ (b e1 = .ok .nx e2 ∨ b e1 = .ok .ct e2) ∧ I e2) → ∀ e, I e → ∃ e', forL g b ds e = .ok .nx e' ∧ I e'
  | [], _, e, h => ⟨e, rfl, h⟩
  | d :: r, hs, e, h => by
    obtain ⟨e1, e2, h1, h2, h3⟩ := hs d List.mem_cons_self e h
    obtain ⟨e', h4, h5⟩ := forL_inv I r (fun d' hd => hs d' (List.mem_cons_of_mem _ hd)) e2 h3
    refine ⟨e', ?_, h5⟩
    rw [forL_cons, bnd_ok h1]
    unfold again
    rcases h2 with h2 | h2 <;> rw [h2] <;> exact h4
theorem mem_rngD {d : D} {lo : Int} {n : Nat} (h : d ∈ rngD lo n) : ∃ k : Nat, k < n ∧ d = .int (lo + k) := by
  unfold rngD at h
  obtain ⟨k, hk, rfl⟩ := List.mem_map.mp h
  exact ⟨k, by simpa using hk, rfl⟩
abbrev ib := Builtin.Int.intBits
theorem ib_of {x : Int} {m : Nat} (h : x.natAbs < 2 ^ m) : ib x ≤ m := PySem.intBits_le_iff.mpr h
theorem divOk_of {j : Int} {m : Nat} (h0 : j ≠ 0) (h : ib j ≤ m) (hm : m ≤ 9000) : DivOk j := h0
theorem atI_ints {ns : List Int} {k : Int} (h0 : 0 ≤ k) (h1 : k < ns.length) : atI (ns.map D.int) k = some (.int (ns.getD k.toNat 0)) := by
  obtain ⟨j, rfl⟩ := Int.eq_ofNat_of_zero_le h0
  have hj : j < ns.length := by omega
  refine atI_nat (j := j) ?_
  rw [List.getElem?_map, List.getElem?_eq_getElem hj]
  simp [List.getD, hj]
end DL
namespace DL
open PySem PySem.Spec PyProof.Rows L2 Evl
/-! ### a worth at an environment -/
section
variable {α β : Type} {a : α} {e e' : DEnv} {m : M α} {f : α → M β} {x : Str} {p : Option D} {d d' : D} {i j : Int} {n k : Nat} {fa fb : M D} {g : D → D → M D} {s t : M Fl} {c : M Bool} {b : Bool}
def rB (r : Res α) (f : α → M β) : Res β := match r with | .ok a e => f a e | .exc x p e => .exc x p e | .stuck => .stuck
def sQ (r : Res Fl) (g : M Fl) : Res Fl := match r with | .ok .nx e => g e | r => r
def aG (r : Res Fl) (k : M Fl) : Res Fl := match r with | .ok .nx e => k e | .ok .ct e => k e | .ok .bk e => .ok .nx e | r => r
def oS (o : Option Sl) (e : DEnv) (i : Nat) : Res D := match o with | some (.val d) => .ok d e | some (.own none (.lst l)) => .ok (.lst l) (frz1 e i) | some (.own none (.rows ll)) => .ok (.lst (ll.map .lst)) (frz1 e i) | _ => .stuck
theorem a_ret : DL.ret a e = .ok a e := rfl
theorem a_stk : (stk e : Res α) = .stuck := rfl
theorem a_bnd : bnd m f e = rB (m e) f := rfl
theorem a_rok : rB (.ok a e) f = f a e := rfl
theorem a_rexc : rB (.exc x p e : Res α) f = .exc x p e := rfl
theorem a_rst : rB (.stuck : Res α) f = .stuck := rfl
theorem a_rite {q : Prop} [Decidable q] {r r' : Res α} : rB (if q then r else r') f = if q then rB r f else rB r' f := by split <;> rfl
theorem a_var : mVar n e = oS e[n]? e n := rfl
theorem a_oval : oS (some (.val d)) e n = .ok d e := rfl
theorem a_oownR {ll : List (List D)} : oS (some (.own none (.rows ll))) e n = .ok (.lst (ll.map .lst)) (frz1 e n) := rfl
theorem a_oown {l : List D} : oS (some (.own none (.lst l))) e n = .ok (.lst l) (frz1 e n) := rfl
theorem a_m2 : m2 fa fb g e = rB (fa e) (fun x => bnd fb fun y => g x y) := rfl
theorem a_g2i {h : Int → Int → M D} : g2i h (.int i) (.int j) e = h i j e := rfl
theorem a_add : iAdd i j e = .ok (.int (i + j)) e := rfl
theorem a_mAdd : mAdd (.int i) (.int j) e = .ok (.int (i + j)) e := rfl
theorem a_sub : iSub i j e = .ok (.int (i - j)) e := rfl
theorem a_mul : iMul i j e = if IntMulOk i j then .ok (.int (i * j)) e else .stuck := by unfold iMul; split <;> rfl
theorem a_div : iDiv i j e = if DivOk j then .ok (.int (i.fdiv j)) e else .stuck := by unfold iDiv; split <;> rfl
theorem a_mod : iMod i j e = if j ≠ 0 then .ok (.int (i.fmod j)) e else .stuck := by unfold iMod; split <;> rfl
theorem a_pow : iPow i j e = if PowOk i j then .ok (.int (i ^ j.toNat)) e else .stuck := by unfold iPow; split <;> rfl
theorem a_shr : iShr i j e = if 0 ≤ j then .ok (.int (i / 2 ^ j.toNat)) e else .stuck := by unfold iShr; split <;> rfl
theorem a_cmp {q : Int → Int → Bool} : iCmp q i j e = .ok (.bl (q i j)) e := rfl
theorem a_eq : mEq d d' e = if eqOk d d' = true then .ok (.bl (deq d d')) e else .stuck := by unfold mEq; split <;> rfl
theorem a_ne : mNe d d' e = if eqOk d d' = true then .ok (.bl (!deq d d')) e else .stuck := by unfold mNe; split <;> rfl
theorem a_u1i {h : Int → M D} : u1i h (.int i) e = h i e := rfl
theorem a_mB : mB (.bl b) e = .ok b e := rfl
theorem a_truB : mTru (.bl b) e = .ok b e := rfl
theorem a_truI : mTru (.int i) e = .ok (i != 0) e := rfl
theorem a_truN : mTru .non e = .ok false e := rfl
theorem a_truL {l : List D} : mTru (.lst l) e = .ok (!l.isEmpty) e := rfl
theorem a_truT {l : List D} : mTru (.tup l) e = .ok (!l.isEmpty) e := rfl
theorem a_bAnd {c' : M Bool} : bAnd c c' e = rB (c e) (fun b => if b = true then c' else DL.ret false) := rfl
theorem a_bOr {c' : M Bool} : bOr c c' e = rB (c e) (fun b => if b = true then DL.ret true else c') := rfl
theorem a_bNot : bNot c e = rB (c e) (fun b => DL.ret (!b)) := rfl
theorem a_vAnd : vAnd fa fb e = rB (fa e) (fun x => match x with | .bl c => if c = true then fb else DL.ret (.bl false) | _ => stk) := rfl
theorem a_vOr : vOr fa fb e = rB (fa e) (fun x => match x with | .bl c => if c = true then DL.ret (.bl true) else fb | _ => stk) := rfl
theorem a_vNot : vNot fa e = rB (fa e) (fun x => match x with | .bl c => DL.ret (.bl (!c)) | _ => stk) := rfl
theorem a_if {f g : M α} : mIf c f g e = rB (c e) (fun b => if b = true then f else g) := rfl
theorem a_ite {q : Prop} [Decidable q] {f g : M α} : (if q then f else g) e = if q then f e else g e := by split <;> rfl
theorem a_aNil : aNil e = .ok [] e := rfl
theorem a_aCons {h : M (List D)} : aCons fa h e = rB (fa e) (fun d => bnd h fun ds => DL.ret (d :: ds)) := rfl
theorem a_tup {h : M (List D)} : mTup h e = rB (h e) (fun ds => if szOk ds.length then DL.ret (.tup ds) else stk) := rfl
theorem a_lst {h : M (List D)} : mLst h e = rB (h e) (fun ds => if szOk ds.length then DL.ret (.lst ds) else stk) := rfl
theorem a_c1i {h : Int → M D} : c1i h [.int i] e = h i e := rfl
theorem a_c2i {h : Int → Int → M D} : c2i h [.int i, .int j] e = h i j e := rfl
theorem a_cIntI : cInt [.int i] e = .ok (.int i) e := rfl
theorem a_cIntB : cInt [.bl b] e = .ok (.int (if b then 1 else 0)) e := rfl
theorem a_lenL {l : List D} : cLen [.lst l] e = .ok (.int l.length) e := rfl
theorem a_lenT {l : List D} : cLen [.tup l] e = .ok (.int l.length) e := rfl
theorem a_lenS {z : Str} : cLen [.str z] e = if z.length ≤ sizeLine then .ok (.int z.length) e else .stuck := by
  show (if z.length ≤ sizeLine then DL.ret (D.int z.length) else stk) e = _
  split <;> rfl
theorem a_nx : nx e = .ok .nx e := rfl
theorem a_sq : sq s t e = sQ (s e) t := rfl
theorem a_snx : sQ (.ok .nx e) t = t e := rfl
theorem a_srt : sQ (.ok (.rt d) e) t = .ok (.rt d) e := rfl
theorem a_sro : sQ (.ok (.ro l) e) t = .ok (.ro l) e := rfl
theorem a_sbk : sQ (.ok .bk e) t = .ok .bk e := rfl
theorem a_sct : sQ (.ok .ct e) t = .ok .ct e := rfl
theorem a_sexc : sQ (.exc x p e) t = .exc x p e := rfl
theorem a_sst : sQ .stuck t = .stuck := rfl
theorem a_site {q : Prop} [Decidable q] {r r' : Res Fl} : sQ (if q then r else r') t = if q then sQ r t else sQ r' t := by split <;> rfl
theorem a_asg : mAsg n fa e = rB (fa e) (fun d e' => .ok .nx (e'.set n (.val d))) := rfl
theorem a_mRet : mRet fa e = rB (fa e) (fun d => DL.ret (.rt d)) := rfl
theorem a_drop : mDrop fa e = rB (fa e) (fun _ => nx) := rfl
def oA (o : Option Sl) (f : M D) (g : Int → Int → D) (n : Nat) (e : DEnv) : Res Fl := match o with | some (.val (.int a)) => bnd f (fun d env' => match d with | .int b => .ok .nx (env'.set n (.val (g a b))) | _ => .stuck) e | _ => .stuck
theorem a_aug {h : Int → Int → D} : mAug n fa h e = oA e[n]? fa h n e := rfl
theorem a_oA {h : Int → Int → D} : oA (some (.val (.int i))) fa h n e = rB (fa e) (fun d env' => match d with | .int b => .ok .nx (env'.set n (.val (h i b))) | _ => .stuck) := rfl
theorem a_gN : gN n d e = .ok () (e.set n (.val d)) := rfl
theorem a_gsNil : gsNil [] e = .ok () e := rfl
theorem a_gsCons {h : D → M Unit} {hs : List D → M Unit} {ds : List D} : gsCons h hs (d :: ds) e = rB (h d e) (fun _ => hs ds) := rfl
theorem a_gTpT {hs : List D → M Unit} {ds : List D} : gTp n hs (.tup ds) e = if ds.length = n then hs ds e else .stuck := by
  show (if ds.length = n then hs ds else stk) e = _
  split <;> rfl
theorem a_gTpL {hs : List D → M Unit} {ds : List D} : gTp n hs (.lst ds) e = if ds.length = n then hs ds e else .stuck := by
  show (if ds.length = n then hs ds else stk) e = _
  split <;> rfl
theorem a_asgT {h : D → M Unit} : mAsgT fa h e = rB (fa e) (fun d => bnd (h d) fun _ => nx) := rfl
theorem a_par {h : M (List D)} : mPar n k h e = rB (h e) (fun ds env => match ds with | [d, d'] => .ok .nx ((env.set n (.val d)).set k (.val d')) | _ => .stuck) := rfl
theorem a_again : again s t e = aG (s e) t := rfl
theorem a_gnx : aG (.ok .nx e) t = t e := rfl
theorem a_gct : aG (.ok .ct e) t = t e := rfl
theorem a_gbk : aG (.ok .bk e) t = .ok .nx e := rfl
theorem a_grt : aG (.ok (.rt d) e) t = .ok (.rt d) e := rfl
theorem a_gro : aG (.ok (.ro l) e) t = .ok (.ro l) e := rfl
theorem a_gexc : aG (.exc x p e) t = .exc x p e := rfl
theorem a_gite {q : Prop} [Decidable q] {r r' : Res Fl} : aG (if q then r else r') t = if q then aG r t else aG r' t := by split <;> rfl
theorem a_rng1 {h : M (List D)} : mRng1 h e = rB (h e) (fun ds => match ds with | [.int j] => if rOk j then DL.ret (rngD 0 j.toNat) else stk | _ => stk) := rfl
theorem a_rng2 {h : M (List D)} : mRng2 h e = rB (h e) (fun ds => match ds with | [.int i, .int j] => if rOk i ∧ rOk j then DL.ret (rngD i (j - i).toNat) else stk | _ => stk) := rfl
theorem a_raise : mRaise x e = .exc x none e := rfl
def rsM (r : Rs) (e : DEnv) : Res D := match r with | .ok d => .ok d e | .exc x p => .exc x p e | .stuck => .stuck
theorem a_call {h : M (List D)} {F : List D → Rs} : mCall h F e = rB (h e) (fun ds e' => rsM (F ds) e') := by
  unfold mCall; rw [a_bnd]; congr
theorem a_rsok : rsM (.ok d) e = .ok d e := rfl
theorem a_rsexc : rsM (.exc x p) e = .exc x p e := rfl
theorem a_rsst : rsM .stuck e = .stuck := rfl
def hS (o : Option Sl) (f : M α) (e : DEnv) : Res α := match o with | some (.val _) => f e | some (.own _ _) => f e | _ => .stuck
theorem a_has : has n m e = hS e[n]? m e := rfl
theorem a_hval : hS (some (.val d)) m e = m e := rfl
theorem a_hown {q : Option Nat} {o : OD} : hS (some (.own q o)) m e = m e := rfl
def oD (o : Option D) (h : D → M D) (e : DEnv) : Res D := match o with | some d => h d e | none => .stuck
theorem a_onSl {h : D → M D} : onSl n h e = oD (slD e n) h e := rfl
def oDS (o : Option Sl) : Option D := match o with | some (.val d) => some d | some (.own _ (.lst l)) => some (.lst l) | _ => none
theorem a_slD : slD e n = oDS e[n]? := rfl
theorem a_oDv : oDS (some (.val d)) = some d := rfl
theorem a_oDo {q : Option Nat} {l : List D} : oDS (some (.own q (.lst l))) = some (.lst l) := rfl
theorem a_oDs {h : D → M D} : oD (some d) h e = h d e := rfl
theorem a_ixN : mIxN n fb e = has n (bnd fb fun y => onSl n fun x => mIx x y) e := rfl
theorem a_mIxI : mIx d (.int i) e = dIx d i e := rfl
theorem a_dIxL {l : List D} : dIx (.lst l) i e = oM (atI l i) e := rfl
theorem a_dIxT {l : List D} : dIx (.tup l) i e = oM (atI l i) e := rfl
theorem a_oM : oM (some d) e = .ok d e := rfl
def kM (o : Option Bool) (e : DEnv) : Res D := match o with | some b => .ok (.bl b) e | none => .stuck
theorem a_isiI {T : String} : cIsi T [.int i] e = kM (kitB "int" T) e := by
  show (match kitB (tyD (.int i)) T with | some b => DL.ret (D.bl b) | none => stk) e = _
  show (match kitB "int" T with | some b => DL.ret (D.bl b) | none => stk) e = _
  cases kitB "int" T <;> rfl
theorem a_isiB {T : String} : cIsi T [.bl b] e = kM (kitB "bool" T) e := by
  show (match kitB "bool" T with | some b => DL.ret (D.bl b) | none => stk) e = _
  cases kitB "bool" T <;> rfl
theorem a_kM : kM (some b) e = .ok (.bl b) e := rfl
theorem k_ii : kitB "int" "int" = some true := by decide +kernel
theorem k_ib : kitB "int" "bool" = some false := by decide +kernel
theorem k_bi : kitB "bool" "int" = some true := by decide +kernel
theorem k_bb : kitB "bool" "bool" = some true := by decide +kernel
def rF (r : Res Fl) : Rs := match r with | .ok (.rt d) _ => .ok d | .ok (.ro l) _ => .ok (.lst l) | .ok .nx _ => .ok .non | .exc x p _ => .exc x p | _ => .stuck
theorem a_runF {f : M Fl} {ds : List D} : runF n f ds = rF (f (DL.envOf n ds)) := rfl
theorem a_rFrt : rF (.ok (.rt d) e) = .ok d := rfl
theorem a_rFro : rF (.ok (.ro l) e) = .ok (.lst l) := rfl
theorem a_rFnx : rF (.ok .nx e) = .ok .non := rfl
theorem a_rFexc : rF (.exc x p e) = .exc x p := rfl
theorem a_rFite {q : Prop} [Decidable q] {r r' : Res Fl} : rF (if q then r else r') = if q then rF r else rF r' := by split <;> rfl
end
end DL
namespace DL
open PySem PySem.Spec PyProof.Rows L2 Evl
theorem eqOk_ii (i j : Int) : eqOk (.int i) (.int j) = true := by
  unfold eqOk shp SeqAt.shaped
  simp [D.py, D.toPy, PyData.canLay0, PyData.depth]
theorem deq_ii (i j : Int) : deq (.int i) (.int j) = decide (i = j) := by
  unfold deq D.toPy PyData.eqv
  by_cases h : i = j
  · subst h; simp
  · simp [h]
theorem iAbs_eq (i : Int) : iAbs i = (i.natAbs : Int) := by unfold iAbs; split <;> omega
/-! ### the greatest common divisor, by a loop -/
theorem fmod_nat (m n : Nat) : (m : Int).fmod (n : Int) = ((m % n : Nat) : Int) := by
  rw [Int.fmod_eq_emod_of_nonneg _ (by omega)]; rfl
/-- while b > 0: a, b = b, a % b -/
abbrev gcdC : M Bool := bnd (m2 (mVar 1) (DL.ret (.int 0)) (g2i (iCmp fun i j => decide (j < i)))) mB
abbrev gcdB : M Fl := mPar 0 1 (aCons (mVar 1) (aCons (m2 (mVar 0) (mVar 1) (g2i iMod)) aNil))
end DL

/-! DLn: enumerate of a list or a tuple; try .. except X (no name). -/
namespace DL
open PySem PySem.Spec PyProof.Rows L2 Evl
/-! ### enumerate(v) -/
set_option maxHeartbeats 1000000 in
theorem meets_enum1 {v : Value} {o : Obj} {H : Heap → Prop} (B : Begins v o H) :
    Meets (Builtin.«enumerate.__new__» ⟨[.type "enumerate", v], []⟩) (fun _ R s => H s.heap ∧
      R (.ok (.ret (.ref (s.heap.push o).objs.size))) { s with heap := (s.heap.push o).push { cls := .type "enumerate", data := .fields #[.none, .bool false, .ref s.heap.objs.size, rawInt 0, .none, .none] } }) :=
  .of_wp fun prog w A R s h => by
    obtain ⟨hp, g, d, tk, os⟩ := s; obtain ⟨h1, h⟩ := h
    have hsub := sub_enumerate
    have q1 : ∀ {A' : Around} {E : Value → Shared → Prop} {Q : Value → Shared → Prop}, Q (.ref hp.objs.size) ⟨hp.push o, g, d, tk, os⟩ → wpAny (model prog w) A' (pyIter v) Q E ⟨hp, g, d, tk, os⟩ :=
      fun q => B.iter prog w _ _ ⟨hp, g, d, tk, os⟩ _ h1 q
    wp_walk using q1
    refine wpAny_stack_any fun st => wpAny_pure ?_
    split
    · rename_i c _ _ _ _ _
      cases (c == Value.type "enumerate")
      · wp_walk using q1
        exact ⟨_, rfl, h⟩
      · wp_walk using q1
        exact ⟨_, rfl, h⟩
    · wp_walk using q1
      exact ⟨_, rfl, h⟩
section
variable {prog : Program} {w : World} {A : Around} {E : Value → Shared → Prop} {s : Shared}
theorem enum_begins1 {v : Value} {o : Obj} {H : Heap → Prop} {Q : Value → Shared → Prop} (B : Begins v o H) (h1 : H s.heap)
    (h : ∀ h', IsEnum h' (s.heap.objs.size + 1) s.heap.objs.size 0 .none → h'.get? s.heap.objs.size = some o → h'.objs.size = s.heap.objs.size + 2 →
      (∀ b o, s.heap.get? b = some o → h'.get? b = some o) → Q (.ref (s.heap.objs.size + 1)) { s with heap := h' }) :
    wpAny (model prog w) A (call (.type "enumerate") [v]) Q E s := by
  refine callType_new F.called_enumerate (by decide) (F.typeCall_enumerate_1 _) (F.newCall_enumerate_1 _) (fun obj => F.args_object_init_2 obj _) F.entry_enumerate_new
    (meets_enum1 B) ⟨h1, ?_⟩
  have hz : (s.heap.push o).objs.size = s.heap.objs.size + 1 := Heap.size_push ..
  show _ ∧ _
  rw [hz]
  have he : IsEnum ((s.heap.push o).push { cls := .type "enumerate", data := .fields #[.none, .bool false, .ref s.heap.objs.size, rawInt 0, .none, .none] }) (s.heap.objs.size + 1) s.heap.objs.size 0 .none := by
    have := Heap.get?_push_size (s.heap.push o) (o := { cls := .type "enumerate", data := .fields #[.none, .bool false, .ref s.heap.objs.size, rawInt 0, .none, .none] }) rfl
    rw [hz] at this; exact this
  refine ⟨⟨_, he, rfl⟩, h _ he (Heap.get?_push_of_some _ (Heap.get?_push_size _ B.free)) (by rw [Heap.size_push, hz]) fun b o x => Heap.get?_push_of_some _ (Heap.get?_push_of_some _ x)⟩
end
/-- the tuple at a as it stands at each turn, each item in a new pair -/
def IteT (K : PySem.W.Frag) (a : Addr) : It :=
  ⟨fun i H => ∃ (xs : List V) (x : V), SqT K H a xs ∧ xs[i]? = some x, fun i H v H' => ∃ T x, v = .ref T ∧ H T = none ∧ H' = upd H T (.tup [.int (i : Nat), x]) ∧ ∀ xs, SqT K H a xs → xs[i]? = some x, fun i H => ∃ xs : List V, SqT K H a xs ∧ xs.length ≤ i⟩
theorem ne_cls {h : Heap} {a b : Addr} {o o' : Obj} (x : h.get? a = some o) (y : h.get? b = some o') (n : o.cls ≠ o'.cls) : a ≠ b := fun e => by
  subst e; rw [x] at y; cases y; exact n rfl
theorem turn_enumT {P : Program} {w : World} {K : PySem.W.Frag} {elts : List Expr} {kk : Nat} {tpos : Pos} (a e it : Addr) :
    Turn P w K (.Tuple elts kk tpos) (IteT K a) [e, it] e (fun i h => (∃ old, IsEnum h e it ((i : Nat) : Int) old) ∧ h.IsTupleIter it a i ∧ e ≠ it) where
  mem := by simp
  obj := fun i h st b hb => by
    obtain ⟨⟨old, he⟩, ⟨o, ho, hc, hd⟩, _⟩ := st
    have e' : b = e ∨ b = it := by simpa using hb
    rcases e' with z | z
    · rw [z]; exact ⟨_, he, fun v q => nomatch q⟩
    · rw [z]; exact ⟨o, ho, fun v q => by rw [hd] at q; cases q⟩
  keep := fun i h h' st k => let ⟨⟨old, he⟩, hi, hne⟩ := st; ⟨⟨old, k e (by simp) _ he⟩, hi.at fun o q => k it (by simp) o q, hne⟩
  item := by
    intro X hP hw hK hc i pins s σ H E I hf st hg
    subst hP hw hK
    obtain ⟨⟨old, he⟩, hit, hne⟩ := st
    obtain ⟨xs, x, hq, hx⟩ := hg
    obtain ⟨its, rv, p, hz⟩ := I.tuple hq
    obtain ⟨u, hu, ru⟩ := rv.get hx
    have hel : e < s.heap.objs.size := Heap.lt_size he
    have hil : it < s.heap.objs.size := by obtain ⟨_, q, _⟩ := hit; exact Heap.lt_size q
    have p : s.heap.IsTuple a its.toArray := p
    have nea : e ≠ a := by
      obtain ⟨o, ho, hcl, _⟩ := id p
      exact ne_cls he ho (by rw [hcl]; exact fun z => by injection z with z; revert z; decide)
    have nia : a ≠ it := by
      obtain ⟨o, ho, hcl, _⟩ := id p
      obtain ⟨o', ho', hcl', _⟩ := id hit
      exact ne_cls ho ho' (by rw [hcl, hcl']; exact fun z => by injection z with z; revert z; decide)
    have D := Draws.tuple (prog := X.prog) (w := X.w) (A := X.A.in1) (show X.A.in1.handled = none from I.ok.hd hc) it a nia its.toArray
    have hlt : i < its.toArray.size := by
      have := (List.getElem?_eq_some_iff.mp hu).1; simpa using this
    refine wpAny_pyNext_enum_itemD D he ⟨hit, p⟩ hlt hne (by simp [hne, nea]) fun x' h' tk hx' ho hit' hT hsz hk => ?_
    have ex : x' = u := by
      have h1 : its.toArray[i]? = some u := by simpa using hu
      rw [h1] at hx'; exact (Option.some.inj hx').symm
    subst ex
    refine ⟨_, rfl, wpAny_letOwnedTupleGo_enum (s := { s with heap := h', toks := tk + 1 }) ho fun h'' he' sb => ?_⟩
    have hT2 : h''.get? s.heap.objs.size = some { cls := .type "tuple", data := .seq #[.int i tk, x'] } := (sb.2 _ (Nat.ne_of_gt hel)).trans hT
    have new : ObjOk X.prog X.w (upd H s.heap.objs.size (.tup [.int (i : Nat), x])) h'' s.heap.objs.size (.tup [.int (i : Nat), x]) :=
      ⟨by show 2 ≤ sizeLine; decide, [.int i tk, x'], .cons ⟨_, rfl⟩ (.cons ru .nil), ⟨_, hT2, rfl, _, rfl⟩⟩
    have I1 : Inv X pins σ (upd H s.heap.objs.size (.tup [.int (i : Nat), x])) { s with heap := h'', toks := tk + 1 } :=
      I.turnedNew (ch := [e, it]) (fun b ob hb q => (sb.2 b (fun z => hb (by simp [z]))).trans (hk b ob (fun z => hb (by simp [z])) (fun z => hb (by simp [z])) q)) hf (Nat.le_refl _) new
    refine ⟨.ref s.heap.objs.size, _, I1, rfl, ⟨_, x, rfl, I.hok.fresh (Nat.le_refl _), rfl, fun ys hy => by rw [I.tuple_inj hy hq]; exact hx⟩, ⟨⟨x', ?_⟩, hit'.1.at fun o q => (sb.2 it (Ne.symm hne)).trans q, hne⟩, fun b hb => ?_⟩
    · have e1 : ((i + 1 : Nat) : Int) = (i : Int) + 1 := by omega
      rw [e1]; exact he'
    · have hb' : b < s.heap.objs.size := by
        have e' : b = e ∨ b = it := by simpa using hb
        rcases e' with z | z
        · rw [z]; exact hel
        · rw [z]; exact hil
      rw [upd_ne (Nat.ne_of_lt hb')]
      exact (hf b hb).1
  done := by
    intro X hP hw hK hc i pins s σ H E I hf st hg
    subst hP hw hK
    obtain ⟨⟨old, he⟩, hit, hne⟩ := st
    obtain ⟨xs, hq, hx⟩ := hg
    obtain ⟨its, rv, p, hz⟩ := I.tuple hq
    obtain ⟨f0, f1, f2, f3, f4, f5⟩ := hf it (by simp)
    have hl := rv.length
    have p : s.heap.IsTuple a its.toArray := p
    have nia : a ≠ it := by
      obtain ⟨o, ho, hcl, _⟩ := id p
      obtain ⟨o', ho', hcl', _⟩ := id hit
      exact ne_cls ho ho' (by rw [hcl, hcl']; exact fun z => by injection z with z; revert z; decide)
    have hT : s.TypeIs (.ref e) "enumerate" := ⟨_, he, rfl⟩
    unfold pyNext
    refine wpAny_bind (wpAny_attempt (wpAny_callSpecial?_slot (name := Str.ofString "__next__") hT F.slot_enumerate_next
      (wpAny_call_entry F.slot_enumerate_next hT F.entry_enumerate_next ?_ (F.args_enumerate_next_1 _))))
    show wpAny _ _ (field (.ref e) 2 >>= _) _ _ _
    refine wpAny_bind (wpAny_field he rfl (x := .ref it) rfl ?_)
    refine wpAny_bind (wpAny_nextOf_tuple_end (show X.A.in1.handled = none from I.ok.hd hc) hit p (by simp; omega) fun h' x he' hx' => ?_)
    obtain ⟨o, ho, hcl⟩ := hx'
    refine wpAny_bind (wpAny_isInstance (T := "StopIteration") (b := true) ⟨o, ho, hcl⟩ isSubtype_stop ?_)
    exact wpAny_pure ⟨rfl, I.turned (t' := s.toks) (fun b o hb q => he' b o hb q) f0 f1 f3 f4 f5⟩
  self := fun A i s Q E st h => let ⟨⟨_, he⟩, _⟩ := st; wpAny_pyIter_enum he h
def iEnumA (K : PySem.W.Frag) (ta : TA) : TI := fun σ H R => ta σ H fun vs H1 => ∃ a xs, vs = [.ref a] ∧ ((SqL K H1 a xs ∧ R (Ite K a) H1) ∨ (SqT K H1 a xs ∧ R (IteT K a) H1))
theorem pi_enumA {X : Cx} {e : Expr} {ta : TA} {p pos tpos : Pos} {elts : List Expr} {kk : Nat} (hg : Gl X "enumerate") (hm : X.mg "enumerate" = none) (ha : PA X [e] ta) (hs : starEach [e] X.env = [(false, eval e X.env)] := by rfl) :
    PI X (.Tuple elts kk tpos) (.Call (.Name "enumerate" p) [e] [] pos) (iEnumA X.K ta) := by
  refine ⟨fun pins s σ H R I h => ?_⟩
  refine Call_ (ld_blt I hg hm boot_enumerate (PyProof.Rows.callWith_type1 (thn (ha.run pos pins s σ H _ I h) fun us s1 ⟨vs, H1, I1, r1, q1⟩ => ?_) hs rfl))
  obtain ⟨a, xs, ex, q1⟩ := q1
  subst ex
  cases r1 with
  | cons r rr =>
    cases rr
    cases r
    have fp : ∀ b, b ∈ [s1.heap.objs.size + 1, s1.heap.objs.size] → FpOk X pins H1 b := fun b hb => by
      have e' : b = s1.heap.objs.size + 1 ∨ b = s1.heap.objs.size := by simpa using hb
      have hle : s1.heap.objs.size ≤ b := by
        rcases e' with z | z
        · rw [z]; exact Nat.le_add_right _ _
        · rw [z]; exact Nat.le_refl _
      exact I1.fpOk hle (I1.hok.fresh hle)
    rcases q1 with ⟨hq, q⟩ | ⟨hq, q⟩
    · obtain ⟨its, rv, p', hz⟩ := I1.list hq
      refine call_enumerate_list p'.isList fun h' he hit hsz hk => wpAny_pyIter_enum he ?_
      have I2 : Inv X pins σ H1 { s1 with heap := h' } := I1.kept (t' := s1.toks) hk
      exact ⟨s1.heap.objs.size + 1, [s1.heap.objs.size + 1, s1.heap.objs.size], _, _, H1, rfl, I2, turn_enum a (s1.heap.objs.size + 1) s1.heap.objs.size, ⟨⟨.none, he⟩, hit, Nat.succ_ne_self _⟩, fp, q⟩
    · obtain ⟨its, rv, p', hz⟩ := I1.tuple hq
      have p' : s1.heap.IsTuple a its.toArray := p'
      refine enum_begins1 (begins_tuple a its.toArray) p' fun h' he hit hsz hk => wpAny_pyIter_enum he ?_
      have I2 : Inv X pins σ H1 { s1 with heap := h' } := I1.kept (t' := s1.toks) hk
      exact ⟨s1.heap.objs.size + 1, [s1.heap.objs.size + 1, s1.heap.objs.size], _, _, H1, rfl, I2, turn_enumT a (s1.heap.objs.size + 1) s1.heap.objs.size, ⟨⟨.none, he⟩, ⟨_, hit, rfl, rfl⟩, Nat.succ_ne_self _⟩, fp, q⟩
section
variable {X : Cx} {W : WX} {a b c e : Expr} {es : List Expr} {fa fb fc : M D} {pos : Pos} {f : M (List D)} {N : List Str} {sc raw : Scope}
def enD (l : List D) : List D := (List.range l.length).map fun k => .tup [.int (k : Nat), l.getD k .non]
theorem enD_at {l : List D} {i : Nat} {d : D} (h : (enD l)[i]? = some d) : ∃ x, l[i]? = some x ∧ d = .tup [.int (i : Nat), x] := by
  unfold enD at h
  rw [List.getElem?_map] at h
  have hi : i < l.length := by
    cases q : (List.range l.length)[i]? with
    | none => rw [q] at h; cases h
    | some k => have := (List.getElem?_eq_some_iff.mp q).1; simpa using this
  rw [List.getElem?_range hi] at h
  cases h
  refine ⟨l[i], List.getElem?_eq_getElem hi, ?_⟩
  dsimp only
  rw [List.getD_eq_getElem?_getD, List.getElem?_eq_getElem hi]; rfl
theorem enD_len {l : List D} : (enD l).length = l.length := by unfold enD; rw [List.length_map, List.length_range]
theorem itok_enL {K : PySem.W.Frag} {mg : MG} {Hf : Hp} {a : Addr} {xs : List L2.V} {l : List D} (hx : SqL K Hf a xs) (rx : Rps K mg Hf xs l) : ItOk K mg Hf (Ite K a) (enD l) where
  go := fun i d hd ps σ env Hf2 H2 x S => by
    obtain ⟨dx, h1, rfl⟩ := enD_at hd
    obtain ⟨u, hu, ru⟩ := rx.get h1
    have qx := ex_l S.ex (ex_l x hx)
    refine ⟨⟨xs, u, qx, hu⟩, fun v H3 yl => ?_⟩
    obtain ⟨T, x', rfl, nT, rfl, k1⟩ := yl
    have e1 := k1 xs qx
    rw [hu] at e1; cases e1
    have nf := fresh_back S.ex nT
    exact ⟨_, Ex.new nf, S.froze nT, .tup (.inl (.inl upd_same)) (.cons (.int _) (.cons ((ru.mono x).mono (Ex.new nf)) .nil))⟩
  stop := fun i hi ps σ env Hf2 H2 x S => by
    rw [enD_len] at hi
    exact ⟨xs, ex_l S.ex (ex_l x hx), by rw [rx.length]; exact hi⟩
theorem itok_enT {K : PySem.W.Frag} {mg : MG} {Hf : Hp} {a : Addr} {xs : List L2.V} {l : List D} (hx : SqT K Hf a xs) (rx : Rps K mg Hf xs l) : ItOk K mg Hf (IteT K a) (enD l) where
  go := fun i d hd ps σ env Hf2 H2 x S => by
    obtain ⟨dx, h1, rfl⟩ := enD_at hd
    obtain ⟨u, hu, ru⟩ := rx.get h1
    have qx := ex_t S.ex (ex_t x hx)
    refine ⟨⟨xs, u, qx, hu⟩, fun v H3 yl => ?_⟩
    obtain ⟨T, x', rfl, nT, rfl, k1⟩ := yl
    have e1 := k1 xs qx
    rw [hu] at e1; cases e1
    have nf := fresh_back S.ex nT
    exact ⟨_, Ex.new nf, S.froze nT, .tup (.inl (.inl upd_same)) (.cons (.int _) (.cons ((ru.mono x).mono (Ex.new nf)) .nil))⟩
  stop := fun i hi ps σ env Hf2 H2 x S => by
    rw [enD_len] at hi
    exact ⟨xs, ex_t S.ex (ex_t x hx), by rw [rx.length]; exact hi⟩
/-- what a list or a tuple holds -/
def itemsD : D → Option (List D) | .lst l => some l | .tup l => some l | _ => none
def enO (o : Option (List D)) : M (List D) := match o with | some l => ret (enD l) | none => stk
def mEnu (f : M (List D)) : M (List D) := bnd f fun ds => match ds with | [x] => enO (itemsD x) | _ => stk
theorem ji_enum {p tpos : Pos} {elts : List Expr} {kk : Nat} (V : Nm X N sc raw) (hG : okG sc "enumerate" = true) (hm : X.mg "enumerate" = none) (ja : JA X W [a] f) (hs : starEach [a] X.env = [(false, eval a X.env)] := by rfl) :
    JI X W (.Tuple elts kk tpos) (.Call (.Name "enumerate" p) [a] [] pos) (mEnu f) := by
  have hg := (V.g hG).1
  obtain ⟨t, q, h⟩ := ja.ex
  refine ⟨⟨_, pi_enumA hg hm q hs, fun ps σ Hf H env S R z => ?_⟩⟩
  refine h ps σ Hf H env S _ (EG.bnd z fun ds e1 Hf1 H1 x1 S1 h1 vs r => ?_)
  split at h1
  · rename_i d
    cases r with
    | cons r1 r2 =>
      cases r2
      cases r1 with
      | lst hx rx => exact ⟨_, _, rfl, .inl ⟨ex_l S1.ex hx, h1.ret S1 _ (itok_enL hx rx)⟩⟩
      | tup hx rx => exact ⟨_, _, rfl, .inr ⟨ex_t S1.ex hx, h1.ret S1 _ (itok_enT hx rx)⟩⟩
      | _ => exact h1.elim
  · exact h1.elim
end
/-! ### zip(v, u), lists and tuples mixed -/
def SqB (K : PySem.W.Frag) (H : Hp) (k : Bool) (a : Addr) (xs : List V) : Prop := match k with | true => SqL K H a xs | false => SqT K H a xs
def ItrB (h : Heap) (k : Bool) (it a : Addr) (i : Nat) : Prop := match k with | true => h.IsListIter it a i | false => h.IsTupleIter it a i
def IsB (h : Heap) (k : Bool) (a : Addr) (its : Array Value) : Prop := match k with | true => h.IsList a its | false => h.IsTuple a its
def oIt (k : Bool) (a : Addr) : Obj := match k with | true => { cls := .type "list_iterator", data := .fields #[.ref a, .int 0 0] } | false => { cls := .type "tuple_iterator", data := .fields #[.ref a, .int 0 0] }
theorem begins_B (k : Bool) (a : Addr) (its : Array Value) : Begins (.ref a) (oIt k a) fun h => IsB h k a its := match k with
  | true => begins_list a its
  | false => begins_tuple a its
theorem itrB_at {h h' : Heap} {k : Bool} {it a : Addr} {i : Nat} (x : ItrB h k it a i) (f : ∀ o, h.get? it = some o → h'.get? it = some o) : ItrB h' k it a i := match k, x with
  | true, x => Heap.IsListIter.at x f
  | false, x => Heap.IsTupleIter.at x f
theorem itrB_obj {h : Heap} {k : Bool} {it a : Addr} {i : Nat} (x : ItrB h k it a i) : ∃ o, h.get? it = some o ∧ (o.cls = .type "list_iterator" ∨ o.cls = .type "tuple_iterator") ∧ ∀ v, o.data ≠ .cell v := match k, x with
  | true, ⟨o, e, c, d⟩ => ⟨o, e, .inl c, fun v q => by rw [d] at q; cases q⟩
  | false, ⟨o, e, c, d⟩ => ⟨o, e, .inr c, fun v q => by rw [d] at q; cases q⟩
theorem isB_obj {h : Heap} {k : Bool} {a : Addr} {its : Array Value} (x : IsB h k a its) : ∃ o, h.get? a = some o ∧ (o.cls = .type "list" ∨ o.cls = .type "tuple") := match k, x with
  | true, ⟨o, e, c, d⟩ => ⟨o, e, .inl c⟩
  | false, ⟨o, e, c, d⟩ => ⟨o, e, .inr c⟩
theorem isB_at {h h' : Heap} {k : Bool} {a : Addr} {its : Array Value} (x : IsB h k a its) (f : ∀ o, h.get? a = some o → h'.get? a = some o) : IsB h' k a its := match k, x with
  | true, x => Heap.IsList.at x f
  | false, x => Heap.IsTuple.at x f
theorem drawsB {prog : Program} {w : World} {A : Around} (hh : A.handled = none) (k : Bool) (it a : Addr) (hne : a ≠ it) (items : Array Value) :
    Draws prog w A it [it, a] items.size (fun i v => items[i]? = some v) (fun i h => ItrB h k it a i ∧ IsB h k a items) := match k with
  | true => Draws.list hh it a hne items
  | false => Draws.tuple hh it a hne items
theorem endB {prog : Program} {w : World} {A : Around} {s : Shared} {Q : Value → Shared → Prop} {E : Value → Shared → Prop} (hh : A.handled = none) {k : Bool} {it a : Addr} {i : Nat} {items : Array Value} (h1 : ItrB s.heap k it a i) (h2 : IsB s.heap k a items) (hx : items[i]? = none)
    (hE : ∀ h' e, Heap.ExtBut it s.heap h' → (∃ o, h'.get? e = some o ∧ o.cls = .type "StopIteration") → E (.ref e) { s with heap := h' }) : wpAny (model prog w) A (Builtin.SmallTypes.nextOf (.ref it)) Q E s := match k, h1, h2 with
  | true, h1, h2 => wpAny_nextOf_list_end hh h1 h2 hx hE
  | false, h1, h2 => wpAny_nextOf_tuple_end hh h1 h2 hx hE
theorem drawsEnd {prog : Program} {w : World} {A : Around} {s : Shared} (hh : A.handled = none) {k : Bool} {it a : Addr} (hne : a ≠ it) {i : Nat} {items : Array Value} (h1 : ItrB s.heap k it a i) (h2 : IsB s.heap k a items) :
    ∃ n P St, Draws prog w A it [it, a] n P St ∧ St i s.heap ∧ i ≤ n ∧ (items.size ≤ i → i = n) := by
  by_cases hs : items.size ≤ i
  · refine ⟨i, fun _ _ => False, fun j h => j = i ∧ ItrB h k it a i ∧ IsB h k a items, ⟨fun j h st => ?_, fun j h h' st hk => ⟨st.1, itrB_at st.2.1 fun o e => hk it (by simp) o e, isB_at st.2.2 fun o e => hk a (by simp) o e⟩, fun j s Q E hj st => ?_, fun s Q E st hE => ?_⟩, ⟨rfl, h1, h2⟩, Nat.le_refl _, fun _ => rfl⟩
    · obtain ⟨o, e, _⟩ := itrB_obj st.2.1; exact ⟨o, e⟩
    · exact absurd st.1 (Nat.ne_of_lt hj)
    · exact endB hh st.2.1 st.2.2 (by simp; exact hs) hE
  · exact ⟨_, _, _, drawsB hh k it a hne items, ⟨h1, h2⟩, by omega, fun q => absurd q hs⟩
/-- the sequences at a and b as they stand at each turn, the items in new pairs -/
def ItzB (K : PySem.W.Frag) (ka kb : Bool) (a b : Addr) : It :=
  ⟨fun i H => ∃ (xs ys : List V) (x y : V), SqB K H ka a xs ∧ SqB K H kb b ys ∧ xs[i]? = some x ∧ ys[i]? = some y,
    fun i H v H' => ∃ T x y, v = .ref T ∧ H T = none ∧ H' = upd H T (.tup [x, y]) ∧ (∀ xs, SqB K H ka a xs → xs[i]? = some x) ∧ ∀ ys, SqB K H kb b ys → ys[i]? = some y,
    fun i H => ∃ xs ys : List V, SqB K H ka a xs ∧ SqB K H kb b ys ∧ (xs.length ≤ i ∨ ys.length ≤ i)⟩
theorem inv_B {X : Cx} {pins : List (Addr × Obj)} {σ : L2.St} {H : Hp} {s : Shared} (I : Inv X pins σ H s) {k : Bool} {a : Addr} {xs : List V} (h : SqB X.K H k a xs) : ∃ its : List Value, Vals xs its ∧ IsB s.heap k a its.toArray := match k, h with
  | true, h => by obtain ⟨its, rv, p, _⟩ := I.list h; exact ⟨its, rv, p.isList⟩
  | false, h => by obtain ⟨its, rv, p, _⟩ := I.tuple h; exact ⟨its, rv, p⟩
theorem inv_B_inj {X : Cx} {pins : List (Addr × Obj)} {σ : L2.St} {H : Hp} {s : Shared} (I : Inv X pins σ H s) {k : Bool} {a : Addr} {xs ys : List V} (h : SqB X.K H k a xs) (h' : SqB X.K H k a ys) : xs = ys := match k, h, h' with
  | true, h, h' => I.list_inj h h'
  | false, h, h' => I.tuple_inj h h'
theorem itB_ne {h : Heap} {k : Bool} {it a : Addr} {i : Nat} {k' : Bool} {its : Array Value} (x : ItrB h k it a i) {b : Addr} (y : IsB h k' b its) : b ≠ it := by
  obtain ⟨o, e, c, _⟩ := itrB_obj x
  obtain ⟨o', e', c'⟩ := isB_obj y
  refine ne_cls e' e fun z => ?_
  rw [z] at c'
  rcases c with c | c <;> rcases c' with c' | c' <;> rw [c] at c' <;> injection c' with c' <;> revert c' <;> decide
structure ZApart (z TI TO i1 i2 : Addr) : Prop where
  TIz : TI ≠ z
  TOz : TO ≠ z
  TITO : TI ≠ TO
  TIi1 : TI ≠ i1
  TIi2 : TI ≠ i2
  zi1 : z ≠ i1
  zi2 : z ≠ i2
  Ti1 : TO ≠ i1
  Ti2 : TO ≠ i2
  i12 : i1 ≠ i2
theorem ZApart.sep {z TI TO i1 i2 a b : Addr} (D : ZApart z TI TO i1 i2) (h1 : z ≠ a) (h2 : TO ≠ a) (h3 : z ≠ b) (h4 : TO ≠ b) (h5 : i1 ≠ b) (h6 : i2 ≠ a) : ZipSep2 z TI TO i1 i2 [i1, a] [i2, b] :=
  ⟨D.TIz, D.TOz, D.TITO, D.TIi1, by simp, by simp [D.zi1, h1], by simp [D.Ti1, h2], D.TIi2, by simp, by simp [D.zi2, h3], by simp [D.Ti2, h4], by simp [D.i12, h5], by simp [Ne.symm D.i12, h6]⟩
theorem turn_zipB {P : Program} {w : World} {K : PySem.W.Frag} {elts : List Expr} {kk : Nat} {tpos : Pos} {ka kb : Bool} {a b z TI TO i1 i2 : Addr} (D : ZApart z TI TO i1 i2) (lt : TO ≠ a ∧ TO ≠ b) :
    Turn P w K (.Tuple elts kk tpos) (ItzB K ka kb a b) [z, TI, TO, i1, i2] z (fun i h => IsZip h z TI TO .none ∧ IsTupOf2 h TI (.ref i1) (.ref i2) ∧ (∃ x y, IsTupOf2 h TO x y) ∧ ItrB h ka i1 a i ∧ ItrB h kb i2 b i) where
  mem := by simp
  obj := fun i h st c hc => by
    obtain ⟨hz, hTI, ⟨x, y, hTO⟩, q1, q2⟩ := st
    obtain ⟨o1, e1, _, d1⟩ := itrB_obj q1
    obtain ⟨o2, e2, _, d2⟩ := itrB_obj q2
    have e' : c = z ∨ c = TI ∨ c = TO ∨ c = i1 ∨ c = i2 := by simpa using hc
    rcases e' with q | q | q | q | q
    · rw [q]; exact ⟨_, hz, fun v q => nomatch q⟩
    · rw [q]; exact ⟨_, hTI, fun v q => nomatch q⟩
    · rw [q]; exact ⟨_, hTO, fun v q => nomatch q⟩
    · rw [q]; exact ⟨o1, e1, d1⟩
    · rw [q]; exact ⟨o2, e2, d2⟩
  keep := fun i h h' st k => by
    obtain ⟨hz, hTI, ⟨x, y, hTO⟩, h1, h2⟩ := st
    exact ⟨k z (by simp) _ hz, k TI (by simp) _ hTI, ⟨x, y, k TO (by simp) _ hTO⟩, itrB_at h1 fun o q => k i1 (by simp) o q, itrB_at h2 fun o q => k i2 (by simp) o q⟩
  item := by
    intro X hP hw hK hc i pins s σ H E I hf st hg
    subst hP hw hK
    obtain ⟨hz, hTI, ⟨x0, y0, hTO⟩, h1, h2⟩ := st
    obtain ⟨xs, ys, x, y, hqx, hqy, hx, hy⟩ := hg
    obtain ⟨its, rv, p⟩ := inv_B I hqx
    obtain ⟨its2, rv2, p2⟩ := inv_B I hqy
    obtain ⟨u, hu, ru⟩ := rv.get hx
    obtain ⟨u2, hu2, ru2⟩ := rv2.get hy
    have hzl : z < s.heap.objs.size := Heap.lt_size hz
    have nz : ∀ {k' : Bool} {c : Addr} {js : Array Value}, IsB s.heap k' c js → z ≠ c := fun y => by
      obtain ⟨o, e, c⟩ := isB_obj y
      refine ne_cls hz e fun q => ?_
      rcases c with c | c <;> rw [c] at q <;> injection q with q <;> revert q <;> decide
    have S := D.sep (a := a) (b := b) (nz p) lt.1 (nz p2) lt.2 (Ne.symm (itB_ne h1 p2)) (Ne.symm (itB_ne h2 p))
    have D1 := drawsB (prog := X.prog) (w := X.w) (A := X.A.in1) (show X.A.in1.handled = none from I.ok.hd hc) ka i1 a (itB_ne h1 p) its.toArray
    have D2 := drawsB (prog := X.prog) (w := X.w) (A := X.A.in1) (show X.A.in1.handled = none from I.ok.hd hc) kb i2 b (itB_ne h2 p2) its2.toArray
    have l1 : i < its.toArray.size := by have := (List.getElem?_eq_some_iff.mp hu).1; simpa using this
    have l2 : i < its2.toArray.size := by have := (List.getElem?_eq_some_iff.mp hu2).1; simpa using this
    refine wpAny_pyNext_zipD2_item S D1 D2 hz hTI hTO ⟨h1, p⟩ ⟨h2, p2⟩ l1 l2 fun x1 x2 h' tk g1 g2 z' TO' h1' h2' hT hsz hk => ?_
    have ex1 : x1 = u := by
      have q : its.toArray[i]? = some u := by simpa using hu
      rw [q] at g1; exact (Option.some.inj g1).symm
    have ex2 : x2 = u2 := by
      have q : its2.toArray[i]? = some u2 := by simpa using hu2
      rw [q] at g2; exact (Option.some.inj g2).symm
    subst ex1 ex2
    refine ⟨_, rfl, wpAny_letOwnedTupleGo_zip (s := { s with heap := h', toks := tk }) z' fun h'' z'' sb => ?_⟩
    have hT2 : h''.get? s.heap.objs.size = some { cls := .type "tuple", data := .seq #[x1, x2] } := (sb.2 _ (Nat.ne_of_gt hzl)).trans hT
    have new : ObjOk X.prog X.w (upd H s.heap.objs.size (.tup [x, y])) h'' s.heap.objs.size (.tup [x, y]) :=
      ⟨by show 2 ≤ sizeLine; decide, [x1, x2], .cons ru (.cons ru2 .nil), ⟨_, hT2, rfl, _, rfl⟩⟩
    have I1 : Inv X pins σ (upd H s.heap.objs.size (.tup [x, y])) { s with heap := h'', toks := tk } :=
      I.turnedNew (ch := [z, TI, TO, i1, i2]) (fun c o hb q => (sb.2 c (fun q' => hb (by simp [q']))).trans (hk c o (fun q' => hb (by simp [q'])) (fun q' => hb (by simp [q'])) (fun q' => hb (by simp [q'])) (fun q' => hb (by simp [q'])) q)) hf (Nat.le_refl _) new
    refine ⟨.ref s.heap.objs.size, _, I1, rfl, ⟨_, x, y, rfl, I.hok.fresh (Nat.le_refl _), rfl, fun l hl => by rw [inv_B_inj I hl hqx]; exact hx, fun l hl => by rw [inv_B_inj I hl hqy]; exact hy⟩, ⟨z'', ?_, ⟨x1, x2, ?_⟩, ?_, ?_⟩, fun c hcm => ?_⟩
    · exact (sb.2 _ D.TIz).trans (hk _ _ D.TIz D.TITO D.TIi1 D.TIi2 hTI)
    · exact (sb.2 _ D.TOz).trans TO'
    · exact itrB_at h1'.1 fun o q => (sb.2 _ (Ne.symm D.zi1)).trans q
    · exact itrB_at h2'.1 fun o q => (sb.2 _ (Ne.symm D.zi2)).trans q
    · have hlt : c < s.heap.objs.size := by
        have e' : c = z ∨ c = TI ∨ c = TO ∨ c = i1 ∨ c = i2 := by simpa using hcm
        rcases e' with q | q | q | q | q
        · rw [q]; exact hzl
        · rw [q]; exact Heap.lt_size hTI
        · rw [q]; exact Heap.lt_size hTO
        · rw [q]; obtain ⟨_, e1, _⟩ := itrB_obj h1; exact Heap.lt_size e1
        · rw [q]; obtain ⟨_, e1, _⟩ := itrB_obj h2; exact Heap.lt_size e1
      rw [upd_ne (Nat.ne_of_lt hlt)]
      exact (hf c hcm).1
  done := by
    intro X hP hw hK hc i pins s σ H E I hf st hg
    subst hP hw hK
    obtain ⟨hz, hTI, ⟨x0, y0, hTO⟩, h1, h2⟩ := st
    obtain ⟨xs, ys, hqx, hqy, hend⟩ := hg
    obtain ⟨its, rv, p⟩ := inv_B I hqx
    obtain ⟨its2, rv2, p2⟩ := inv_B I hqy
    have l1 := rv.length
    have l2 := rv2.length
    have nz : ∀ {k' : Bool} {c : Addr} {js : Array Value}, IsB s.heap k' c js → z ≠ c := fun y => by
      obtain ⟨o, e, c⟩ := isB_obj y
      refine ne_cls hz e fun q => ?_
      rcases c with c | c <;> rw [c] at q <;> injection q with q <;> revert q <;> decide
    have S := D.sep (a := a) (b := b) (nz p) lt.1 (nz p2) lt.2 (Ne.symm (itB_ne h1 p2)) (Ne.symm (itB_ne h2 p))
    obtain ⟨n1, P1, St1, D1, s1, le1, en1⟩ := drawsEnd (prog := X.prog) (w := X.w) (A := X.A.in1) (show X.A.in1.handled = none from I.ok.hd hc) (itB_ne h1 p) h1 p
    obtain ⟨n2, P2, St2, D2, s2, le2, en2⟩ := drawsEnd (prog := X.prog) (w := X.w) (A := X.A.in1) (show X.A.in1.handled = none from I.ok.hd hc) (itB_ne h2 p2) h2 p2
    refine wpAny_pyNext_zipD2_end S D1 D2 hz hTI hTO s1 s2 le1 le2 ?_ fun h' tk hk => ⟨rfl, I.turnedL (t' := tk) (ch := [z, TI, TO, i1, i2]) (fun c o hb q =>
      hk c o (fun q' => hb (by simp [q'])) (fun q' => hb (by simp [q'])) (fun q' => hb (by simp [q'])) (fun q' => hb (by simp [q'])) q) hf⟩
    rcases hend with q | q
    · exact .inl (en1 (by simp; omega))
    · exact .inr (en2 (by simp; omega))
  self := fun A i s Q E st h => wpAny_pyIter_zip st.1 h
def iZipB (K : PySem.W.Frag) (ta : TA) : TI := fun σ H R => ta σ H fun vs H1 => ∃ a b xs ys ka kb, vs = [.ref a, .ref b] ∧ SqB K H1 ka a xs ∧ SqB K H1 kb b ys ∧ R (ItzB K ka kb a b) H1
theorem pi_zipB {X : Cx} {e e2 : Expr} {ta : TA} {p pos tpos : Pos} {elts : List Expr} {kk : Nat} (hg : Gl X "zip") (hm : X.mg "zip" = none) (ha : PA X [e, e2] ta)
    (hs : starEach [e, e2] X.env = (false, eval e X.env) :: starEach [e2] X.env := by rfl) (hpl : (backTo pos (starEach [e2] X.env)).any (·.1) = false := by rfl) :
    PI X (.Tuple elts kk tpos) (.Call (.Name "zip" p) [e, e2] [] pos) (iZipB X.K ta) := by
  refine ⟨fun pins s σ H R I h => ?_⟩
  refine Call_ (ld_blt I hg hm PyProof.Rows.boot_zip (PyProof.Rows.callWith_type1 (thn (ha.run pos pins s σ H _ I h) fun us s1 ⟨vs, H1, I1, r1, q1⟩ => ?_) hs hpl))
  obtain ⟨a, b, xs, ys, ka, kb, ex, hqx, hqy, q⟩ := q1
  subst ex
  cases r1 with
  | cons r rr =>
    cases rr with
    | cons r' rr =>
      cases rr
      cases r
      cases r'
      have fresh5 : ∀ c, c ∈ [s1.heap.objs.size + 4, s1.heap.objs.size + 2, s1.heap.objs.size + 3, s1.heap.objs.size, s1.heap.objs.size + 1] → FpOk X pins H1 c := fun c hcm => by
        have e' : c = s1.heap.objs.size + 4 ∨ c = s1.heap.objs.size + 2 ∨ c = s1.heap.objs.size + 3 ∨ c = s1.heap.objs.size ∨ c = s1.heap.objs.size + 1 := by simpa using hcm
        have hle : s1.heap.objs.size ≤ c := by
          rcases e' with z | z | z | z | z
          · rw [z]; exact Nat.le_add_right _ _
          · rw [z]; exact Nat.le_add_right _ _
          · rw [z]; exact Nat.le_add_right _ _
          · rw [z]; exact Nat.le_refl _
          · rw [z]; exact Nat.le_add_right _ _
        exact I1.fpOk hle (I1.hok.fresh hle)
      obtain ⟨its, rv, p1⟩ := inv_B I1 hqx
      obtain ⟨its2, rv2, p2⟩ := inv_B I1 hqy
      obtain ⟨o1, ho1, _⟩ := isB_obj p1
      obtain ⟨o2, ho2, _⟩ := isB_obj p2
      have la : (a : Nat) < s1.heap.objs.size := Heap.lt_size ho1
      have lb : (b : Nat) < s1.heap.objs.size := Heap.lt_size ho2
      refine zip_begins2 (begins_B ka a its.toArray) (begins_B kb b its2.toArray) p1 p2 fun h' hz hTI hTO h1 h2 hsz hk => wpAny_pyIter_zip hz ?_
      have I2 : Inv X pins σ H1 { s1 with heap := h' } := I1.kept (t' := s1.toks) hk
      generalize hN : s1.heap.objs.size = N at *
      have AP : ZApart (N + 4) (N + 2) (N + 3) N (N + 1) := ⟨show (N + 2 : Nat) ≠ N + 4 by omega, show (N + 3 : Nat) ≠ N + 4 by omega, show (N + 2 : Nat) ≠ N + 3 by omega, show (N + 2 : Nat) ≠ N by omega, show (N + 2 : Nat) ≠ N + 1 by omega, show (N + 4 : Nat) ≠ N by omega, show (N + 4 : Nat) ≠ N + 1 by omega, show (N + 3 : Nat) ≠ N by omega, show (N + 3 : Nat) ≠ N + 1 by omega, show (N : Nat) ≠ N + 1 by omega⟩
      have i1 : ItrB h' ka N a 0 := match ka, h1 with
        | true, h1 => ⟨_, h1, rfl, rfl⟩
        | false, h1 => ⟨_, h1, rfl, rfl⟩
      have i2 : ItrB h' kb (N + 1) b 0 := match kb, h2 with
        | true, h2 => ⟨_, h2, rfl, rfl⟩
        | false, h2 => ⟨_, h2, rfl, rfl⟩
      exact ⟨N + 4, [N + 4, N + 2, N + 3, N, N + 1], _, _, H1, rfl, I2, turn_zipB AP ⟨Nat.ne_of_gt (Nat.lt_of_lt_of_le la (Nat.le_add_right _ _)), Nat.ne_of_gt (Nat.lt_of_lt_of_le lb (Nat.le_add_right _ _))⟩, ⟨hz, hTI, ⟨_, _, hTO⟩, i1, i2⟩, fresh5, q⟩
section
variable {X : Cx} {W : WX} {a b c e : Expr} {es : List Expr} {fa fb fc : M D} {pos : Pos} {f : M (List D)} {N : List Str} {sc raw : Scope}
theorem sqB_ex {K : PySem.W.Frag} {H H' : Hp} {k : Bool} {a : Addr} {xs : List L2.V} (x : Ex H H') (h : SqB K H k a xs) : SqB K H' k a xs := match k, h with
  | true, h => ex_l x h
  | false, h => ex_t x h
theorem itok_zipB {K : PySem.W.Frag} {mg : MG} {Hf : Hp} {ka kb : Bool} {a b : Addr} {xs ys : List L2.V} {l m : List D} (hx : SqB K Hf ka a xs) (rx : Rps K mg Hf xs l) (hy : SqB K Hf kb b ys) (ry : Rps K mg Hf ys m) : ItOk K mg Hf (ItzB K ka kb a b) (zipD l m) where
  go := fun i d hd ps σ env Hf2 H2 x S => by
    obtain ⟨dx, dy, h1, h2, rfl⟩ := zipD_at hd
    obtain ⟨u, hu, ru⟩ := rx.get h1
    obtain ⟨w, hw, rw'⟩ := ry.get h2
    have qx := sqB_ex S.ex (sqB_ex x hx)
    have qy := sqB_ex S.ex (sqB_ex x hy)
    refine ⟨⟨xs, ys, u, w, qx, qy, hu, hw⟩, fun v H3 yl => ?_⟩
    obtain ⟨T, x', y', rfl, nT, rfl, k1, k2⟩ := yl
    have e1 := k1 xs qx
    have e2 := k2 ys qy
    rw [hu] at e1; cases e1
    rw [hw] at e2; cases e2
    have nf := fresh_back S.ex nT
    exact ⟨_, Ex.new nf, S.froze nT, .tup (.inl (.inl upd_same)) (.cons ((ru.mono x).mono (Ex.new nf)) (.cons ((rw'.mono x).mono (Ex.new nf)) .nil))⟩
  stop := fun i hi ps σ env Hf2 H2 x S => by
    rw [zipD_len] at hi
    refine ⟨xs, ys, sqB_ex S.ex (sqB_ex x hx), sqB_ex S.ex (sqB_ex x hy), ?_⟩
    rw [rx.length, ry.length]
    omega
theorem rp_items {K : PySem.W.Frag} {mg : MG} {H : Hp} {v : L2.V} {d : D} {l : List D} (r : Rp K mg H v d) (h : itemsD d = some l) : ∃ k a xs, v = .ref a ∧ SqB K H k a xs ∧ Rps K mg H xs l := by
  cases r with
  | lst hq r => cases h; exact ⟨true, _, _, rfl, hq, r⟩
  | tup hq r => cases h; exact ⟨false, _, _, rfl, hq, r⟩
  | _ => cases h
def zip2 (o o' : Option (List D)) : M (List D) := match o, o' with | some l, some m => ret (zipD l m) | _, _ => stk
def mZipM (f : M (List D)) : M (List D) := bnd f fun ds => match ds with | [x, y] => zip2 (itemsD x) (itemsD y) | _ => stk
theorem ji_zipM {p tpos : Pos} {elts : List Expr} {kk : Nat} (V : Nm X N sc raw) (hG : okG sc "zip" = true) (hm : X.mg "zip" = none) (ja : JA X W [a, b] f) (hs : starEach [a, b] X.env = (false, eval a X.env) :: starEach [b] X.env := by rfl) (hpl : (backTo pos (starEach [b] X.env)).any (·.1) = false := by rfl) :
    JI X W (.Tuple elts kk tpos) (.Call (.Name "zip" p) [a, b] [] pos) (mZipM f) := by
  have hg := (V.g hG).1
  obtain ⟨t, q, h⟩ := ja.ex
  refine ⟨⟨_, pi_zipB hg hm q hs hpl, fun ps σ Hf H env S R z => ?_⟩⟩
  refine h ps σ Hf H env S _ (EG.bnd z fun ds e1 Hf1 H1 x1 S1 h1 vs r => ?_)
  split at h1
  · rename_i dx dy
    cases r with
    | cons r1 r2 => cases r2 with
      | cons r3 r4 =>
        cases r4
        cases w1 : itemsD dx with
        | none => rw [w1] at h1; exact h1.elim
        | some l =>
          cases w2 : itemsD dy with
          | none => rw [w1, w2] at h1; exact h1.elim
          | some m =>
            rw [w1, w2] at h1
            obtain ⟨ka, aa, xs, rfl, hx, rx⟩ := rp_items r1 w1
            obtain ⟨kb, ab, ys, rfl, hy, ry⟩ := rp_items r3 w2
            exact ⟨_, _, _, _, ka, kb, rfl, sqB_ex S1.ex hx, sqB_ex S1.ex hy, h1.ret S1 _ (itok_zipB hx rx hy ry)⟩
  · exact h1.elim
end
/-! ### try .. except T: -/
section
variable {X : Cx} {W : WX} {a b c e : Expr} {es : List Expr} {fa fb fc : M D} {pos : Pos} {f : M (List D)} {N : List Str} {sc raw : Scope}
def unT : Res Fl → Res Fl
  | .exc _ _ _ => .stuck
  | r => r
def mTry1 (tab : ETab) (T : Str) (fb : M Fl) (fs : Str → M Fl) : M Fl := fun env => match fb env with
  | .exc x none e' => (match tabAt tab x T with
    | some true => unT (fs x e')
    | some false => .exc x none e'
    | none => .stuck)
  | .exc _ (some _) _ => .stuck
  | r => r
theorem js_try1 {tab : ETab} {T : Str} {np pos' : Pos} {body suite : List Stmt} {b0 : Stmt} {fb : M Fl} {fs : Str → M Fl} (C : CtxOk X W) (V : Nm X N sc raw) (Y : Df X) (hT : okG sc T = true) {u : Value} (hu : X.mg T = some u) (TO : CatOk X.K X.mg tab)
    (jb : ∀ (X' : Cx) (W' : WX), CtxOk X' W' → Nm X' N sc raw → Df X' → Bl X X' → JSs X' W' body fb)
    (jh : ∀ (X' : Cx) (a : Addr) (y : Str), HotX X' a y → Nm X' N sc raw → BlH X X' → JSs X' WF (b0 :: suite) (fs y)) :
    JS X W (.Try body [.ExceptHandler (some (.Name T np)) none (b0 :: suite) pos'] [] [] pos) (mTry1 tab T fb fs) := by
  obtain ⟨hg, hdb, _⟩ := V.g hT
  refine ⟨⟨_, L2N.ps_try_many (Wout := W) (l := [(u, fun a cls d De σ H => ∀ oe pn, L2N.Zn cls d oe → (∃ vs, oe.data = .fields vs) → tAll (X.suite a ((a, oe) :: pn)) (b0 :: suite) De σ H)]) Y.hs Y.hf C.tk
    (tb := fun W' De σ H => ∀ pn xe, L2N.Takes (X.tr pn xe) W' → PassesOwn (model X.prog X.w) X.A X.env xe → tAll (X.tr pn xe) body De σ H)
    (fun W' pn xe tk po => ⟨fun pins s σ H De I h => tAll_ok.run pins s σ H De I (h pn xe tk po)⟩)
    (.cons ⟨hg, hdb, .inl hu⟩ (fun a oe cls d pn hz hv => ⟨fun pins s σ H De I h => tAll_ok.run pins s σ H De I (h oe pn hz hv)⟩) .nil), fun ps σ Hf H env S De z => ?_⟩⟩
  intro pn xe tk po
  refine tAll_of (X := X.tr pn xe) (W := wMany X.K W De _) (jb (X.tr pn xe) _ ⟨C.calm, C.hu, po, tk, ⟨C.py.tree, C.py.seer, C.py.st, C.py.dp⟩⟩ ⟨V.hN, V.hs, V.nd, V.kind, V.fn⟩ ⟨Y.hs, Y.hf⟩ ⟨rfl, rfl, rfl, rfl, rfl, rfl⟩) S ?_
  unfold mTry1 at z
  cases q : fb env with
  | ok fl e' => rw [q] at z; exact z
  | stuck => rw [q] at z; exact z
  | exc x p e' =>
    rw [q] at z
    cases p with
    | some d => exact False.elim z
    | none =>
      dsimp only at z
      cases w : tabAt tab x T with
      | none => rw [w] at z; exact False.elim z
      | some b =>
        rw [w] at z
        obtain ⟨Dd, u', hx, hT', hex⟩ := TO x T b (tabAt_mem w)
        cases (hu.symm.trans hT')
        intro cls dd σ' Hf' H' x' S' ie
        obtain ⟨ie1, ie2⟩ := ie
        cases (hx.symm.trans ie1)
        cases ie2
        refine ⟨b, hex, fun hb a ha oe pn' hz hv => ?_, fun hb => ?_⟩
        · subst hb
          obtain ⟨vs, hv⟩ := hv
          refine tAll_of (X := X.suite a ((a, oe) :: pn')) (W := WF) (jh (X.suite a ((a, oe) :: pn')) a x ⟨rfl, oe, vs, Dd, List.mem_cons_self, hx, hz.zc, hv, hz.2.2 vs hv⟩ ⟨V.hN, V.hs, V.nd, V.kind, V.fn⟩ ⟨rfl, rfl, rfl, rfl, rfl, rfl, rfl⟩) S' ?_
          have z : SG X.K X.mg ps W De Hf (unT (fs x e')) := z
          have z := SG.mono x' z
          cases r : fs x e' with
          | ok fl e2 => rw [r] at z; exact z
          | exc y p e2 => rw [r] at z; exact False.elim z
          | stuck => rw [r] at z; exact False.elim z
        · subst hb
          exact z (.ref Dd) none σ' Hf' H' x' S' ⟨hx, rfl⟩
end
end DL

/-! DLo: own lists handed back by a def, lent to a calm expression, cleared. -/
namespace DL
open PySem PySem.Spec PyProof.Rows L2 Evl
section
variable {X : Cx} {W : WX} {a b c e : Expr} {es : List Expr} {fa fb fc : M D} {pos : Pos} {f : M (List D)} {N : List Str} {sc raw : Scope}
/-! ### return of an own list -/
def mRetF (f : M (List D)) : M Fl := bnd f fun l => ret (.ro l)
theorem js_retF (j : JF X W e f) : JS X W (.Return (some e) pos) (mRetF f) := by
  obtain ⟨t, p, h⟩ := j.ex
  refine ⟨⟨_, ps_ret p, fun ps σ Hf H env S De z => ?_⟩⟩
  refine h ps σ Hf H env S _ ?_
  unfold mRetF bnd at z
  cases q : f env with
  | ok l e' =>
    rw [q] at z
    exact fun Hf' H' p vs x S' hp nf ng r no => z σ Hf' H' x S' p vs hp nf ng r
  | exc x p e' => rw [q] at z; exact fun cls dd Hf' H' x S' ie => z cls dd σ Hf' H' x S' ie
  | stuck => rw [q] at z; exact z
/-- a name's own list is taken from it -/
def mTake (i : Nat) : M (List D) := fun env => match env[i]? with
  | some (.own none (.lst l)) => .ok l (env.set i .no)
  | _ => .stuck
theorem jf_var (V : Nm X N sc raw) {i : Nat} {x : Str} (hv : okV N sc i x = true) : JF X W (.Name x pos) (mTake i) := by
  obtain ⟨hN, hv, hd, hcd⟩ := V.v hv
  refine ⟨⟨_, pe_var hN hv hd hcd, fun ps σ Hf H env S Q h => ?_⟩⟩
  unfold mTake at h
  split at h
  · rename_i l q
    obtain ⟨p, o, hp, nf, hh, ⟨vs, rfl, r⟩, hk⟩ := S.own q
    refine ⟨.ref p, hp, h Hf H p vs (Ex.refl _) (S.forget i) hh nf ?_ r fun j k l2 w q1 q2 f => ?_⟩
    · cases w : ps.g p with
      | none => rfl
      | some u => exact ((S.fg p u w).2.2 i _ _ q hp).elim
    · have hl : i < env.length := (List.getElem?_eq_some_iff.mp q).1
      by_cases hj : i = j
      · subst hj; rw [List.getElem?_set_self hl] at q1; cases q1
      · rw [List.getElem?_set_ne hj] at q1
        exact S.apF i j _ _ _ _ p w p hj q q1 hp q2 .self f
  · exact h.elim
end
/-- as spP: what comes back is a new list, the caller's own -/
def spO (K : PySem.W.Frag) (mg : MG) (n : Nat) (F : List D → Rs) : Sp := fun vs H Q E => vs.length = n ∧ ∃ Hf ds, Ex Hf H ∧ Rps K mg Hf vs ds ∧ match F ds with
  | .ok (.lst l) => ∀ p us Hf' H', Ex Hf Hf' → Ex Hf' H' → (∀ a o, H a = some o → Hf a = none → H' a = some o ∧ Hf' a = none) → H p = none → H' p = some (.lst us) → Hf' p = none → Rps K mg Hf' us l → Q (.ref p) H'
  | .exc x p => ∀ cls dd Hf' H', Ex Hf Hf' → Ex Hf' H' → (∀ a o, H a = some o → Hf a = none → H' a = some o ∧ Hf' a = none) → IsExc K mg Hf' x p cls dd → E cls dd H'
  | _ => False
def runO (n : Nat) (f : M Fl) (ds : List D) : Rs := match f (envOf n ds) with
  | .ok (.ro l) _ => .ok (.lst l)
  | .exc x p _ => .exc x p
  | _ => .stuck
theorem runF_runO {n : Nat} {f : M Fl} {ds : List D} {d : D} (h : runO n f ds = .ok d) : runF n f ds = .ok d := by
  unfold runO at h
  unfold runF
  cases q : f (envOf n ds) with
  | ok fl e =>
    rw [q] at h
    cases fl with
    | ro l => exact h
    | nx => cases h
    | rt d => cases h
    | bk => cases h
    | ct => cases h
  | exc x p e => rw [q] at h; cases h
  | stuck => rw [q] at h; cases h
section
variable {P : Program} {w : World} {K : PySem.W.Frag} {mg : MG} {base : Heap}
theorem fn_okO {x qual : Str} {st : Stmt} {f : Addr} {fd : FuncData} {N ps : List Str} {k : Nat} {g : M Fl} (F : Fun K x qual st f fd) (NS : Big P base k) (S : FnScope N ps (defScope st))
    (hbody : ∀ (X : Cx) (W : WX), X.prog = P → X.w = w → X.K = K → X.mg = mg → X.base = base → Room k X.A → CtxOk X W → Nm X N (defScope st) (defScope st) → Df X → JSs X W (defBody st) g) (hle : ps.length ≤ N.length := by decide) :
    FnOk P w K mg base (L2N.CX P w) (k + 1) f fd ps (spO K mg ps.length (runO N.length g)) := by
  refine okN F S (fun vs H Q E h => h.1) (fun cdv A outer s H vs Q E hr h => ?_)
  obtain ⟨hl, Hf, ds, x, r, hF⟩ := h
  obtain ⟨t, p, ht⟩ := (hbody (cxOf (L2N.CX P w) P w K mg base N qual (defScope st) f cdv A outer s H E) (fun cls d _ H => E cls d H) rfl rfl rfl rfl rfl hr ⟨rfl, hr.units, passes_of rfl, L2N.takes_of rfl rfl rfl rfl, ⟨NS.tree, NS.seer, ⟨_, _, rfl, S.gen, S.co, rfl, rfl⟩, by show (A.deeper (envOfC qual (defScope st) s.heap.objs.size f cdv)).depth + Builtin.pylongFrames < recursionLimit; have := hr.dp; have e : Builtin.pylongFrames = 100 := rfl; have := NS.k; omega⟩⟩ ⟨rfl, rfl, S.nd, S.kind, fun _ _ => rfl⟩ ⟨rfl, rfl⟩).ex
  refine ⟨t, p, ht _ _ Hf H _ (sr_start x r (by omega)) _ ?_⟩
  unfold runO at hF
  cases q : g (envOf N.length ds) with
  | ok fl e' =>
    rw [q] at hF
    cases fl with
    | ro l => exact fun σ' Hf' H' x' S' p us hp nf ng rv => hF p us Hf' H' x' S'.ex (fg_back S') (ro_new (fresh_back x' nf) ng) hp nf rv
    | nx => exact hF.elim
    | rt d => exact hF.elim
    | bk => exact hF.elim
    | ct => exact hF.elim
  | exc y p e' => rw [q] at hF; exact fun cls dd σ' Hf' H' x' S' z => hF cls dd Hf' H' x' S'.ex (fg_back S') z
  | stuck => rw [q] at hF; exact hF.elim
end
structure CalO (X : Cx) (x : Str) (n : Nat) (F : List D → Rs) : Prop where
  ex : ∃ k f fd ps, FnOk X.prog X.w X.K X.mg X.base (L2N.CX X.prog X.w) k f fd ps (spO X.K X.mg n F) ∧ Room k X.A ∧ X.mg x = some (.ref f) ∧ PySem.W.keepIn X.K (.ref f) = true ∧ Binds X.K fd ps []
structure CalleeO (P : Program) (w : World) (K : PySem.W.Frag) (mg : MG) (base : Heap) (x : Str) (k n : Nat) (F : List D → Rs) : Prop where
  ex : ∃ f fd ps, FnOk P w K mg base (L2N.CX P w) k f fd ps (spO K mg n F) ∧ mg x = some (.ref f) ∧ PySem.W.keepIn K (.ref f) = true ∧ Binds K fd ps []
theorem CalleeO.calO {X : Cx} {x : Str} {k k' n : Nat} {F : List D → Rs} (c : CalleeO X.prog X.w X.K X.mg X.base x k n F) (hr : Room k' X.A) (h : k ≤ k' := by decide) : CalO X x n F := by
  obtain ⟨f, fd, ps, G, hm, hk, hb⟩ := c.ex
  exact ⟨⟨k, f, fd, ps, G, hr.mono h, hm, hk, hb⟩⟩
theorem calleeO_of {P : Program} {w : World} {K : PySem.W.Frag} {mg : MG} {base : Heap} {x : Str} {f : Addr} {fd : FuncData} {ps : List Str} {k n : Nat} {F : List D → Rs} (G : FnOk P w K mg base (L2N.CX P w) k f fd ps (spO K mg n F)) (hm : mg x = some (.ref f)) (hk : PySem.W.keepIn K (.ref f) = true) (hb : Binds K fd ps []) : CalleeO P w K mg base x k n F := ⟨⟨f, fd, ps, G, hm, hk, hb⟩⟩
theorem Bl.calO {X X' : Cx} (B : Bl X X') {x : Str} {n : Nat} {F : List D → Rs} (c : CalO X x n F) : CalO X' x n F := by
  obtain ⟨k, f, fd, ps, h⟩ := c.ex
  refine ⟨⟨k, f, fd, ps, ?_⟩⟩
  rw [B.prog, B.w, B.K, B.mg, B.base, B.A]
  exact h
def mCallO (f : M (List D)) (F : List D → Rs) : M (List D) := bnd f fun ds env => match F ds with
  | .ok (.lst l) => .ok l env | .exc x p => .exc x p env | _ => .stuck
section
variable {X : Cx} {W : WX} {a b c e : Expr} {es : List Expr} {fa fb fc : M D} {pos : Pos} {f : M (List D)} {N : List Str} {sc raw : Scope}
theorem jf_call {x : Str} {p : Pos} {n : Nat} {F : List D → Rs} (C : CtxOk X W) (V : Nm X N sc raw) (hG : okG sc x = true) (c : CalO X x n F) (ja : JA X W (e :: es) f) (hn : ∀ env ds env', f env = .ok ds env' → ds.length = n)
    (he : starEach (e :: es) X.env = (false, eval e X.env) :: starEach es X.env := by rfl) (hpl : (backTo pos (starEach es X.env)).any (·.1) = false := by rfl) :
    JF X W (.Call (.Name x p) (e :: es) [] pos) (mCallO f F) := by
  obtain ⟨hg, hdb, _⟩ := V.g hG
  obtain ⟨k, fa, fd, ps', G, hr, hm, hk, hb⟩ := c.ex
  obtain ⟨t, q, h⟩ := ja.ex
  refine ⟨⟨_, pe_callS G hr hg hm hk hb (fun σ => L2N.passAt C.tk σ) q hdb he hpl, fun ps σ Hf H env S Q z => ?_⟩⟩
  unfold mCallO bnd at z
  refine h ps σ Hf H env S _ ?_
  cases w : f env with
  | ok ds e1 =>
    rw [w] at z
    intro Hf1 H1 x1 S1 vs r
    refine ⟨by rw [r.length]; exact hn _ _ _ w, Hf1, ds, S1.ex, r, ?_⟩
    have z := FGd.mono x1 z
    cases q : F ds with
    | ok d =>
      simp only [q] at z
      cases d with
      | lst l =>
        intro p us Hf' H' x y fr np hp nf rv
        refine z Hf' H' p us x (S1.after x y fr) hp nf (S1.ng_new np) rv fun i k2 od w q1 q2 f => ?_
        obtain ⟨z1, u, z2⟩ := S1.live q1 q2 .self
        have hw := (fr w u z2 z1).1
        exact S1.nob_new np i k2 od w q1 q2 (f.of_eq (by rw [hw, z2]))
      | _ => exact z.elim
    | exc c p => simp only [q] at z; exact fun cls dd Hf' H' x y fr ie => z cls dd Hf' H' x (S1.after x y fr) ie
    | stuck => simp only [q] at z; exact z.elim
  | exc y p e1 => rw [w] at z; exact z
  | stuck => rw [w] at z; exact z
end
/-! ### own lists lent -/
def shw1 : Sl → Sl
  | .own _ (.lst l) => .val (.lst l)
  | .own _ (.rows ll) => .val (.lst (ll.map .lst))
  | .own _ _ => .no
  | s => s
def shw (e : DEnv) : DEnv := e.map shw1
def D.plain : D → Bool
  | .non => true | .bl _ => true | .int _ => true | .str _ => true | _ => false
theorem Rp.plain {K : PySem.W.Frag} {mg : MG} {H H' : Hp} {v : V} {d : D} (r : Rp K mg H v d) (h : d.plain = true) : Rp K mg H' v d := by
  cases r with
  | non => exact .non
  | bl b => exact .bl b
  | int i => exact .int i
  | str x => exact .str x
  | _ => cases h
theorem Rps.plain {K : PySem.W.Frag} {mg : MG} {H H' : Hp} : ∀ {vs : List V} {ds : List D}, Rps K mg H vs ds → ds.all D.plain = true → Rps K mg H' vs ds
  | _, _, .nil, _ => .nil
  | _, _, .cons r rr, h => by
    rw [List.all_cons, Bool.and_eq_true] at h
    exact .cons (r.plain h.1) (Rps.plain rr h.2)
def OD.isL : OD → Bool
  | .lst _ => true
  | .rows _ => true
  | _ => false
/-- the addresses of the own lists -/
def OwnL (H : Hp) (e : DEnv) (σ : L2.St) (a : Addr) : Prop := ∃ (i : Nat) (k : Option Nat) (od : OD) (p : Addr), e[i]? = some (Sl.own k od) ∧ σ[i]? = some (some (L2.V.ref p)) ∧ od.isL = true ∧ Ft H od p a
section
variable {K : PySem.W.Frag} {mg : MG} {ps : Fg} {Hf H Hf' H' : Hp} {σ : L2.St} {env : DEnv}
open Classical in
noncomputable def lentH (env : DEnv) (σ : L2.St) (Hf H : Hp) : Hp := fun a => if OwnL H env σ a then H a else Hf a
open Classical in
noncomputable def backH (env : DEnv) (σ : L2.St) (H Hf : Hp) : Hp := fun a => if OwnL H env σ a then none else Hf a
def lentG (Hf1 H : Hp) (ps : Fg) : Fg := ⟨ps.ps, fun a => if (Hf1 a).isSome then none else H a⟩
theorem SR.ownL (S : SR K mg ps Hf H σ env) {a : Addr} (h : OwnL H env σ a) : Hf a = none ∧ ∃ u, H a = some u := by
  obtain ⟨i, k, od, p, h1, h2, _, f⟩ := h
  exact S.live h1 h2 f
theorem SR.lent_ex (S : SR K mg ps Hf H σ env) : Ex Hf (lentH env σ Hf H) := fun a u h => by
  unfold lentH
  split
  · exact S.ex a u h
  · exact h
theorem SR.lent (S : SR K mg ps Hf H σ env) : SR K mg (lentG (lentH env σ Hf H) H ps) (lentH env σ Hf H) H σ (shw env) := by
  have no : ∀ {i : Nat} {k : Option Nat} {l : OD}, (shw env)[i]? = some (.own k l) → False := fun {i k l} h => by
    unfold shw at h
    rw [List.getElem?_map] at h
    cases q : env[i]? with
    | none => rw [q] at h; cases h
    | some s =>
      rw [q] at h
      cases s with
      | no => cases h
      | val d => cases h
      | own k2 od => cases od <;> cases h
  refine ⟨fun a u h => ?_, by unfold shw; rw [List.length_map, S.len], fun i s h => ?_, fun i j k k' l l' p _ _ hij h1 => (no h1).elim, fun a o h => ?_⟩
  · unfold lentH at h
    split at h
    · exact h
    · exact S.ex a u h
  · unfold shw at h
    rw [List.getElem?_map] at h
    cases q : env[i]? with
    | none => rw [q] at h; cases h
    | some s0 =>
      rw [q] at h
      obtain ⟨x, hx, r⟩ := S.sl i s0 q
      refine ⟨x, hx, ?_⟩
      cases s0 with
      | no => cases h; trivial
      | val d => cases h; obtain ⟨v, a1, b1⟩ := r; exact ⟨v, a1, b1.mono S.lent_ex⟩
      | own k od =>
        obtain ⟨p, o, rfl, nf, hh, hr, hk⟩ := r
        cases od with
        | lst l =>
          cases h
          obtain ⟨vs, rfl, rr⟩ := hr
          refine ⟨.ref p, rfl, .lst (.inl (.inl ?_)) (rr.mono S.lent_ex)⟩
          unfold lentH
          rw [if_pos ⟨i, k, _, p, q, hx, rfl, .self⟩]
          exact hh
        | dK ks l => cases h; trivial
        | dT ks l => cases h; trivial
        | rows ll =>
          cases h
          obtain ⟨as, rfl, _, _, l1, l2⟩ := hr
          have pin : ∀ a, Ft H (.rows ll) p a → lentH env σ Hf H a = H a := fun a f => by
            unfold lentH
            rw [if_pos ⟨i, k, _, p, q, hx, rfl, f⟩]
          have go : ∀ (bs : List Addr) (ls : List (List D)), (∀ a ∈ bs, a ∈ as) → RwR K mg Hf H bs ls → Rps K mg (lentH env σ Hf H) (bs.map V.ref) (ls.map D.lst) := by
            intro bs
            induction bs with
            | nil =>
              intro ls _ r
              cases ls with
              | nil => exact .nil
              | cons l ls => exact absurd r.1 (by simp)
            | cons b bs ih =>
              intro ls m r
              cases ls with
              | nil => exact absurd r.1 (by simp)
              | cons l ls =>
                obtain ⟨_, vs, h1, h2⟩ := r.2 0 b l rfl rfl
                refine .cons (.lst (.inl (.inl ?_)) (h2.mono S.lent_ex)) (ih ls (fun a q => m a (List.mem_cons_of_mem _ q)) ⟨by have := r.1; simpa using this, fun k a l' q1 q2 => r.2 (k + 1) a l' (by simpa using q1) (by simpa using q2)⟩)
                rw [pin b (.inr ⟨ll, as, rfl, hh, m b List.mem_cons_self⟩)]; exact h1
          exact ⟨.ref p, rfl, .lst (.inl (.inl ((pin p .self).trans hh))) (go as ll (fun _ m => m) ⟨l1, l2⟩)⟩
  · unfold lentG at h
    dsimp only at h
    split at h
    · cases h
    · rename_i hn
      refine ⟨h, ?_, fun i k l _ q => (no q).elim⟩
      cases q : lentH env σ Hf H a with
      | none => rfl
      | some u => rw [q] at hn; exact absurd rfl hn
theorem SR.unlent (S : SR K mg ps Hf H σ env) {env' : DEnv} (x : Ex (lentH env σ Hf H) Hf') (S' : SR K mg (lentG (lentH env σ Hf H) H ps) Hf' H' σ env') : Ex Hf (backH env σ H Hf') ∧ SR K mg ps (backH env σ H Hf') H' σ env := by
  have x1 : Ex Hf (backH env σ H Hf') := fun a u h => by
    unfold backH
    split
    · rename_i ho; rw [(S.ownL ho).1] at h; cases h
    · exact x a u (S.lent_ex a u h)
  have keep : ∀ {a : Addr} {o : HO}, H a = some o → Hf a = none → ¬ OwnL H env σ a → H' a = some o ∧ Hf' a = none := fun {a o} h n ho => by
    have hl : lentH env σ Hf H a = none := by unfold lentH; rw [if_neg ho]; exact n
    obtain ⟨h1, h2, _⟩ := S'.fg a o (by unfold lentG; dsimp only; rw [hl]; exact h)
    exact ⟨h1, h2⟩
  have bo : ∀ {a : Addr}, OwnL H env σ a → backH env σ H Hf' a = none := fun {a} ho => by unfold backH; rw [if_pos ho]
  have bn : ∀ {a : Addr}, Hf' a = none → backH env σ H Hf' a = none := fun {a} ho => by
    unfold backH
    split
    · rfl
    · exact ho
  have ex1 : Ex (backH env σ H Hf') H' := fun a u h => by
    unfold backH at h
    split at h
    · cases h
    · exact S'.ex a u h
  refine ⟨x1, S.frame x1 ex1 (fun i k l p a h1 h2 f => ?_) fun a o h => ?_⟩
  · obtain ⟨z1, u, z2⟩ := S.live h1 h2 f
    by_cases ho : OwnL H env σ a
    · refine ⟨bo ho, ?_⟩
      rw [z2]
      refine S'.ex a u (x a u ?_)
      unfold lentH; rw [if_pos ho]; exact z2
    · obtain ⟨g1, g2⟩ := keep z2 z1 ho
      exact ⟨bn g2, by rw [g1, z2]⟩
  · obtain ⟨h1, h2, h3⟩ := S.fgF a o h
    have ho : ¬ OwnL H env σ a := fun ⟨i, k, l, p, q1, q2, _, f⟩ => h3 i k _ p q1 q2 f
    obtain ⟨g1, g2⟩ := keep h1 h2 ho
    exact ⟨g1, bn g2⟩
end
def mLend (f : M D) : M D := fun env => match f (shw env) with
  | .ok d _ => if d.plain then .ok d env else .stuck
  | .exc x none _ => .exc x none env
  | _ => .stuck
def mLendF (f : M (List D)) : M (List D) := fun env => match f (shw env) with
  | .ok d _ => if d.all D.plain then .ok d env else .stuck
  | .exc x none _ => .exc x none env
  | _ => .stuck
section
variable {X : Cx} {W : WX} {a b c e : Expr} {es : List Expr} {fa fb fc : M D} {pos : Pos} {f : M (List D)} {N : List Str} {sc raw : Scope}
theorem je_lend (j : JE X W e fa) : JE X W e (mLend fa) := by
  obtain ⟨t, p, h⟩ := j.ex
  refine ⟨⟨t, p, fun ps σ Hf H env S Q z => ?_⟩⟩
  refine h _ σ _ H (shw env) S.lent Q ?_
  unfold mLend at z
  cases q : fa (shw env) with
  | ok d e' =>
    rw [q] at z
    dsimp only at z
    intro Hf' H' x S' v rv
    by_cases hp : d.plain = true
    · rw [if_pos hp] at z
      obtain ⟨x1, S1⟩ := S.unlent x S'
      exact z _ H' x1 S1 v (rv.plain hp)
    · rw [if_neg hp] at z; exact z.elim
  | exc y p e' =>
    rw [q] at z
    cases p with
    | none =>
      intro cls dd Hf' H' x S' ie
      obtain ⟨x1, S1⟩ := S.unlent x S'
      exact z cls dd _ H' x1 S1 ie
    | some d => exact z.elim
  | stuck => rw [q] at z; exact z.elim
theorem jf_lend (j : JF X W e f) : JF X W e (mLendF f) := by
  obtain ⟨t, p, h⟩ := j.ex
  refine ⟨⟨t, p, fun ps σ Hf H env S Q z => ?_⟩⟩
  refine h _ σ _ H (shw env) S.lent Q ?_
  unfold mLendF at z
  cases q : f (shw env) with
  | ok d e' =>
    rw [q] at z
    dsimp only at z
    intro Hf' H' p vs x S' hp nf ng rv no
    by_cases hpl : d.all D.plain = true
    · rw [if_pos hpl] at z
      obtain ⟨x1, S1⟩ := S.unlent x S'
      have nl : lentH env σ Hf H p = none := fresh_back x nf
      have nH : H p = none := ro_new nl ng
      refine z _ H' p vs x1 S1 hp ?_ ?_ (rv.plain hpl) fun i k l w q1 q2 f => ?_
      · unfold backH; split
        · rfl
        · exact nf
      · cases w : ps.g p with
        | none => rfl
        | some u => have := (S.fg p u w).1; rw [nH] at this; cases this
      · obtain ⟨z1, u, z2⟩ := S.live q1 q2 .self
        by_cases ho : OwnL H env σ w
        · have hw := S'.ex w u (x w u (by unfold lentH; rw [if_pos ho]; exact z2))
          exact S.nob_new nH i k l w q1 q2 (f.of_eq (by rw [hw, z2]))
        · have hl : lentH env σ Hf H w = none := by unfold lentH; rw [if_neg ho]; exact z1
          have hw := (S'.fg w u (by unfold lentG; dsimp only; rw [hl]; exact z2)).1
          exact S.nob_new nH i k l w q1 q2 (f.of_eq (by rw [hw, z2]))
    · rw [if_neg hpl] at z; exact z.elim
  | exc y p e' =>
    rw [q] at z
    cases p with
    | none =>
      intro cls dd Hf' H' x S' ie
      obtain ⟨x1, S1⟩ := S.unlent x S'
      exact z cls dd _ H' x1 S1 ie
    | some d => exact z.elim
  | stuck => rw [q] at z; exact z.elim
def mClr (i : Nat) : M Fl := fun env => match ownAt env i with
  | some (k, _) => .ok .nx (env.set i (.own k (.lst [])))
  | none => .stuck
theorem js_clear {x : Str} {i : Nat} {p1 p2 p3 pos2 : Pos} (V : Nm X N sc raw) (hv : okV N sc i x = true)
    (hbase : attributeBase (.Name x p1) "clear" X.env (eval (.Name x p1) X.env) = eval (.Name x p1) X.env := by rfl)
    (hline : (p2.endLine == p3.line) = true := by rfl)
    (hsw : swapsWith (.Call (.Attribute (.Name x p1) "clear" p2) [] [] p3) none pos2.line X.env = pure false := by rfl) :
    JS X W (.Expr (.Call (.Attribute (.Name x p1) "clear" p2) [] [] p3) pos2) (mClr i) := by
  obtain ⟨hN, hvi, hd, hcd⟩ := V.v hv
  refine ⟨⟨_, ps_expr (pe_bm0 PySem.F.plainAttrs_list PySem.F.slot_list_clear PySem.F.type_list_clear mt_clear (pe_var hN hvi hd hcd) hbase hline) hsw, fun ps σ Hf H env S De z => ?_⟩⟩
  unfold mClr at z
  cases w : ownAt env i with
  | none => rw [w] at z; exact z.elim
  | some kl =>
    obtain ⟨k, l⟩ := kl
    rw [w] at z
    obtain ⟨pa, o, hp, nf, ho, ⟨vs, e1, r⟩, hk⟩ := S.own (ownAt_eq w)
    subst e1
    exact ⟨.ref pa, hp, .inl ⟨rfl, vs, .inl (.inl ho)⟩, pa, vs, rfl, rfl, ho, z σ Hf _ (Ex.refl _) (S.turn (ownAt_eq w) hp ⟨[], rfl, .nil⟩)⟩
end
end DL

/-! DLt: how comprehensions, try, == of nested data, loops are reckoned. -/
namespace DL
open PySem PySem.Spec PyProof.Rows L2 Evl
section
variable {α β : Type} {a : α} {e e' : DEnv} {m : M α} {f : α → M β} {x T : Str} {p : Option D} {d d' : D} {i j : Int} {n k : Nat} {fa fb : M D} {g : D → D → M D} {s t : M Fl} {c : M Bool} {b : Bool} {l : List D} {ad : Addr} {tab : ETab}
theorem a_seq : mSeq fa e = rB (fa e) (fun d => match d with | .lst l => DL.ret l | .tup l => DL.ret l | .str z => DL.ret (signsD z) | _ => stk) := rfl
theorem a_listL : cList [.lst l] e = .ok (.lst l) e := rfl
theorem a_listT : cList [.tup l] e = .ok (.lst l) e := rfl
theorem a_tupleL : cTuple [.lst l] e = .ok (.tup l) e := rfl
theorem a_tupleT : cTuple [.tup l] e = .ok (.tup l) e := rfl
theorem a_sum {ns : List Int} : cSum [.lst (ns.map .int)] e = .ok (.int ns.sum) e := by
  show oI (asInts (ns.map .int)) e = _
  rw [asInts_map]; rfl
theorem a_isiT {T : String} : cIsi T [.tup l] e = kM (kitB "tuple" T) e := by
  show (match kitB "tuple" T with | some b => DL.ret (D.bl b) | none => stk) e = _
  cases kitB "tuple" T <;> rfl
theorem a_isiL {T : String} : cIsi T [.lst l] e = kM (kitB "list" T) e := by
  show (match kitB "list" T with | some b => DL.ret (D.bl b) | none => stk) e = _
  cases kitB "list" T <;> rfl
theorem a_isiS {T : String} {z : Str} : cIsi T [.str z] e = kM (kitB "str" T) e := by
  show (match kitB "str" T with | some b => DL.ret (D.bl b) | none => stk) e = _
  cases kitB "str" T <;> rfl
theorem k_tt : kitB "tuple" "tuple" = some true := by decide +kernel
theorem k_lt : kitB "list" "tuple" = some false := by decide +kernel
theorem k_tl : kitB "tuple" "list" = some false := by decide +kernel
theorem k_ll : kitB "list" "list" = some true := by decide +kernel
theorem k_it : kitB "int" "tuple" = some false := by decide +kernel
theorem k_il : kitB "int" "list" = some false := by decide +kernel
theorem k_ss : kitB "str" "str" = some true := by decide +kernel
theorem k_st : kitB "str" "tuple" = some false := by decide +kernel
theorem k_ti : kitB "tuple" "int" = some false := by decide +kernel
theorem k_li : kitB "list" "int" = some false := by decide +kernel
theorem k_tb : kitB "tuple" "bool" = some false := by decide +kernel
theorem k_lb : kitB "list" "bool" = some false := by decide +kernel
/-! exceptions -/
theorem a_isE : cIsE tab ad x T (.opq ad) e = kM (tabAt tab x T) e := by
  show (if ad = ad then (match tabAt tab x T with | some r => DL.ret (D.bl r) | none => stk) else stk) e = _
  rw [if_pos rfl]
  cases tabAt tab x T <;> rfl
def rsE (r : Rs) (e : DEnv) : Res D := match r with | .ok d => .ok d e | _ => .stuck
theorem a_callE {h : M (List D)} {F : List D → Rs} : mCallE h F e = rB (h e) (fun ds e' => rsE (F ds) e') := by
  unfold mCallE; rw [a_bnd]; congr
theorem a_reok : rsE (.ok d) e = .ok d e := rfl
noncomputable def tR (n : Nat) (tab : ETab) (T : Str) (fs : Addr → Str → M Fl) (r : Res Fl) : Res Fl := match r with
  | .exc x none e' => (match tabAt tab x T with
    | some true => mCatch n (fun a => fs a x) e'
    | some false => .exc x none e'
    | none => .stuck)
  | .exc _ (some _) _ => .stuck
  | r => r
noncomputable def cT (o : Option Bool) (n : Nat) (x : Str) (fs : Addr → M Fl) (e : DEnv) : Res Fl := match o with
    | some true => mCatch n fs e
    | some false => .exc x none e
    | none => .stuck
theorem a_try {fs : Addr → Str → M Fl} : mTryAs n tab T s fs e = tR n tab T fs (s e) := rfl
theorem a_tok {fs : Addr → Str → M Fl} {fl : Fl} : tR n tab T fs (.ok fl e) = .ok fl e := rfl
theorem a_texc {fs : Addr → Str → M Fl} : tR n tab T fs (.exc x none e) = cT (tabAt tab x T) n x (fun a => fs a x) e := rfl
theorem a_cT {fs : Addr → M Fl} : cT (some true) n x fs e = mCatch n fs e := rfl
theorem a_cF {fs : Addr → M Fl} : cT (some false) n x fs e = .exc x none e := rfl
theorem a_unN : unS n (.ok .nx e) = .ok .nx (e.set n .no) := rfl
theorem a_unR : unS n (.ok (.rt d) e) = .ok (.rt d) (e.set n .no) := rfl
/-! slices -/
theorem a_slice {fl fu : M (Option Int)} : mSlice fa fl fu e = rB (fa e) (fun x => bnd fl fun l => bnd fu fun u => dSlice x l u) := rfl
theorem a_oNone : oNone e = .ok none e := rfl
theorem a_oSome : oSome fa e = rB (fa e) (fun d => match d with | .int i => DL.ret (some i) | _ => stk) := rfl
theorem a_dSlL {lo hi : Option Int} : dSlice (.lst l) lo hi e = .ok (.lst (cutD l lo hi)) e := rfl
theorem a_dSlT {lo hi : Option Int} : dSlice (.tup l) lo hi e = .ok (.tup (cutD l lo hi)) e := rfl
end
/-! ### comprehensions -/
theorem lcL_eq {vs : List Nat} {g : D → M Unit} {tt : M Bool} {el : M D} {w : DEnv} (p : D → Bool) (f : D → D) : ∀ (ds acc : List D), (∀ d ∈ ds, ∃ e1 e2, g d w = .ok () e1 ∧ tt e1 = .ok (p d) e2 ∧ (p d = true → ∃ e3, el e2 = .ok (f d) e3 ∧ wipeE e3 vs = w) ∧ (p d = false → wipeE e2 vs = w)) → acc.length + ds.length ≤ sizeLine →
    lcL vs g tt el ds acc w = .ok (acc ++ (ds.filter p).map f) w
  | [], acc, _, _ => by
    show DL.ret acc w = _
    rw [List.filter_nil, List.map_nil, List.append_nil]; rfl
  | d :: r, acc, h, hl => by
    obtain ⟨e1, e2, h1, h2, h3, h4⟩ := h d List.mem_cons_self
    have hl' : acc.length + (r.length + 1) ≤ sizeLine := hl
    unfold lcL
    rw [bnd_ok h1, bnd_ok h2]
    cases q : p d with
    | true =>
      obtain ⟨e3, h5, h6⟩ := h3 q
      rw [if_pos rfl, bnd_ok h5]
      rw [if_pos (by omega), h6, lcL_eq p f r (acc ++ [f d]) (fun d' m => h d' (List.mem_cons_of_mem _ m)) (by rw [List.length_append]; show acc.length + 1 + r.length ≤ _; omega), List.filter_cons_of_pos q, List.map_cons, List.append_assoc, List.singleton_append]
    | false =>
      rw [if_neg (by simp), List.filter_cons_of_neg (by simp [q])]
      rw [h4 q]
      exact lcL_eq p f r acc (fun d' m => h d' (List.mem_cons_of_mem _ m)) (by omega)
theorem mLc_filter {vs : List Nat} {fi : M (List D)} {g : D → M Unit} {tt : M Bool} {el : M D} {e e0 : DEnv} {ds : List D} (p : D → Bool) (f : D → D) (hf : fi e = .ok ds e0) (hn : noOwn e0 vs = true) (hb : backE e0 (wipeE e0 vs) vs = e0) (hl : ds.length ≤ sizeLine)
    (h : ∀ d ∈ ds, ∃ e1 e2, g d (wipeE e0 vs) = .ok () e1 ∧ tt e1 = .ok (p d) e2 ∧ (p d = true → ∃ e3, el e2 = .ok (f d) e3 ∧ wipeE e3 vs = wipeE e0 vs) ∧ (p d = false → wipeE e2 vs = wipeE e0 vs)) : mLc vs fi g tt el e = .ok (.lst ((ds.filter p).map f)) e0 := by
  unfold mLc
  rw [bnd_ok hf, if_pos hn, lcL_eq p f ds [] h (by rw [List.length_nil, Nat.zero_add]; exact hl)]
  dsimp only
  rw [hb, List.nil_append]
theorem mLc_map {vs : List Nat} {fi : M (List D)} {g : D → M Unit} {el : M D} {e e0 : DEnv} {ds : List D} (f : D → D) (hf : fi e = .ok ds e0) (hn : noOwn e0 vs = true) (hb : backE e0 (wipeE e0 vs) vs = e0) (hl : ds.length ≤ sizeLine)
    (h : ∀ d ∈ ds, ∃ e1 e3, g d (wipeE e0 vs) = .ok () e1 ∧ el e1 = .ok (f d) e3 ∧ wipeE e3 vs = wipeE e0 vs) : mLc vs fi g (DL.ret true) el e = .ok (.lst (ds.map f)) e0 := by
  have k := mLc_filter (tt := DL.ret true) (el := el) (fun _ => true) f hf hn hb hl fun d hd => by
    obtain ⟨e1, e3, h1, h2, h3⟩ := h d hd
    exact ⟨e1, e1, h1, rfl, fun _ => ⟨e3, h2, h3⟩, fun z => nomatch z⟩
  rw [k, List.filter_eq_self.mpr fun _ _ => rfl]
theorem mLc_ints {vs : List Nat} {fi : M (List D)} {g : D → M Unit} {el : M D} {e e0 : DEnv} {ns : List Int} (f : Int → Int) (hf : fi e = .ok (ns.map .int) e0) (hn : noOwn e0 vs = true) (hb : backE e0 (wipeE e0 vs) vs = e0) (hl : ns.length ≤ sizeLine)
    (h : ∀ n ∈ ns, ∃ e1 e3, g (.int n) (wipeE e0 vs) = .ok () e1 ∧ el e1 = .ok (.int (f n)) e3 ∧ wipeE e3 vs = wipeE e0 vs) : mLc vs fi g (DL.ret true) el e = .ok (.lst ((ns.map f).map .int)) e0 := by
  have k := mLc_map (el := el) (fun d => match d with | .int n => .int (f n) | d => d) hf hn hb (by rw [List.length_map]; exact hl) fun d hd => by
    obtain ⟨n, hn, rfl⟩ := List.mem_map.mp hd
    exact h n hn
  rw [k, List.map_map, List.map_map]; rfl
theorem mLc_rng {vs : List Nat} {fi : M (List D)} {g : D → M Unit} {el : M D} {e e0 : DEnv} {m : Nat} (f : Nat → Int) (hf : fi e = .ok (rngD 0 m) e0) (hn : noOwn e0 vs = true) (hb : backE e0 (wipeE e0 vs) vs = e0) (hl : m ≤ sizeLine)
    (h : ∀ k < m, ∃ e1 e3, g (.int (k : Int)) (wipeE e0 vs) = .ok () e1 ∧ el e1 = .ok (.int (f k)) e3 ∧ wipeE e3 vs = wipeE e0 vs) : mLc vs fi g (DL.ret true) el e = .ok (.lst (((List.range m).map f).map .int)) e0 := by
  have k := mLc_map (el := el) (fun d => match d with | .int n => .int (f n.toNat) | d => d) hf hn hb (by unfold rngD; rw [List.length_map, List.length_range]; exact hl) fun d hd => by
    obtain ⟨k, hk, rfl⟩ := mem_rngD hd
    have e : ((0 : Int) + (k : Int)).toNat = k := by omega
    dsimp only
    rw [e, Int.zero_add]
    exact h k hk
  rw [k]
  unfold rngD
  rw [List.map_map, List.map_map]
  congr 2
  apply List.map_congr_left
  intro k _
  show D.int (f ((0 : Int) + (k : Int)).toNat) = D.int (f k)
  rw [show ((0 : Int) + (k : Int)).toNat = k by omega]
theorem sz0 : szOk 0 = True := eq_true (by decide)
theorem sz1 : szOk 1 = True := eq_true (by decide)
theorem sz2 : szOk 2 = True := eq_true (by decide)
theorem sz3 : szOk 3 = True := eq_true (by decide)
theorem sz4 : szOk 4 = True := eq_true (by decide)
theorem sz5 : szOk 5 = True := eq_true (by decide)
theorem sz6 : szOk 6 = True := eq_true (by decide)
theorem le_size {n : Nat} (h : n ≤ 100000) : n ≤ sizeLine := Nat.le_trans h (by decide)
theorem at0 {x : D} {l : List D} : atI (x :: l) 0 = some x := atI_nat (j := 0) rfl
theorem at1 {x y : D} {l : List D} : atI (x :: y :: l) 1 = some y := atI_nat (j := 1) rfl
theorem at2 {x y z : D} {l : List D} : atI (x :: y :: z :: l) 2 = some z := atI_nat (j := 2) rfl
theorem nc0 : ((0 : Nat) : Int) = 0 := rfl
theorem nc1 : ((1 : Nat) : Int) = 1 := rfl
theorem nc2 : ((2 : Nat) : Int) = 2 := rfl
theorem nc3 : ((3 : Nat) : Int) = 3 := rfl
theorem nc4 : ((4 : Nat) : Int) = 4 := rfl
theorem nc5 : ((5 : Nat) : Int) = 5 := rfl
def Sl.nown : Sl → Bool | .own _ _ => false | _ => true
/-! ### loops -/
theorem forL_fold {σ : Type} {g : D → M Unit} {b : M Fl} (R : σ → DEnv → Prop) (step : σ → D → σ) : ∀ (ds : List D) (s : σ) (e : DEnv), R s e → (∀ d ∈ ds, ∀ s e, R s e → ∃ e1 e2, g d e = .ok () e1 ∧ (b e1 = .ok .nx e2 ∨ b e1 = .ok .ct e2) ∧ R (step s d) e2) → ∃ e', forL g b ds e = .ok .nx e' ∧ R (ds.foldl step s) e'
  | [], s, e, h, _ => ⟨e, rfl, h⟩
  | d :: r, s, e, h, hs => by
    obtain ⟨e1, e2, h1, h2, h3⟩ := hs d List.mem_cons_self s e h
    obtain ⟨e', h4, h5⟩ := forL_fold R step r (step s d) e2 h3 fun d' m => hs d' (List.mem_cons_of_mem _ m)
    refine ⟨e', ?_, h5⟩
    rw [forL_cons, bnd_ok h1]
    unfold again
    rcases h2 with h2 | h2 <;> rw [h2] <;> exact h4
theorem forL_list0 {g : D → M Unit} {b : M Fl} (ds : List D) (R : Nat → DEnv → Prop) (h : ∀ (k : Nat) (d : D), ds[k]? = some d → ∀ e, R k e → ∃ e1 e2, g d e = .ok () e1 ∧ (b e1 = .ok .nx e2 ∨ b e1 = .ok .ct e2) ∧ R (k + 1) e2) : ∀ (n k : Nat) (e : DEnv), k + n = ds.length → R k e → ∃ e', forL g b (ds.drop k) e = .ok .nx e' ∧ R ds.length e'
  | 0, k, e, hk, r => ⟨e, by rw [List.drop_eq_nil_of_le (by omega)]; rfl, by rw [← hk]; exact r⟩
  | n + 1, k, e, hk, r => by
    have hlt : k < ds.length := by omega
    obtain ⟨e1, e2, h1, h2, h3⟩ := h k ds[k] (List.getElem?_eq_getElem hlt) e r
    obtain ⟨e', h4, h5⟩ := forL_list0 ds R h n (k + 1) e2 (by omega) h3
    refine ⟨e', ?_, h5⟩
    rw [List.drop_eq_getElem_cons hlt, forL_cons, bnd_ok h1]
    unfold again
    rcases h2 with h2 | h2 <;> rw [h2] <;> exact h4
/-- a loop over a list, by what holds at each place -/
theorem forL_list {g : D → M Unit} {b : M Fl} {ds : List D} (R : Nat → DEnv → Prop) {e : DEnv} (h0 : R 0 e) (h : ∀ (k : Nat) (d : D), ds[k]? = some d → ∀ e, R k e → ∃ e1 e2, g d e = .ok () e1 ∧ (b e1 = .ok .nx e2 ∨ b e1 = .ok .ct e2) ∧ R (k + 1) e2) : ∃ e', forL g b ds e = .ok .nx e' ∧ R ds.length e' :=
  forL_list0 ds R h ds.length 0 e (Nat.zero_add _) h0
theorem forL_rng {g : D → M Unit} {b : M Fl} {lo : Int} {m : Nat} (R : Nat → DEnv → Prop) {e : DEnv} (h0 : R 0 e) (h : ∀ (k : Nat), k < m → ∀ e, R k e → ∃ e1 e2, g (.int (lo + (k : Int))) e = .ok () e1 ∧ (b e1 = .ok .nx e2 ∨ b e1 = .ok .ct e2) ∧ R (k + 1) e2) : ∃ e', forL g b (rngD lo m) e = .ok .nx e' ∧ R m e' := by
  obtain ⟨e', h1, h2⟩ := forL_list (g := g) (b := b) (ds := rngD lo m) R h0 fun k d hd => by
    unfold rngD at hd
    rw [List.getElem?_map] at hd
    have hk : k < m := by
      cases q : (List.range m)[k]? with
      | none => rw [q] at hd; cases hd
      | some j => have := (List.getElem?_eq_some_iff.mp q).1; simpa using this
    rw [List.getElem?_range hk] at hd
    cases hd
    exact h k hk
  exact ⟨e', h1, by unfold rngD at h2; rw [List.length_map, List.length_range] at h2; exact h2⟩
/-- as forL_rng, from 0 on -/
theorem forL_rng0 {g : D → M Unit} {b : M Fl} {m : Nat} (R : Nat → DEnv → Prop) {e : DEnv} (h0 : R 0 e) (h : ∀ (k : Nat), k < m → ∀ e, R k e → ∃ e1 e2, g (.int (k : Int)) e = .ok () e1 ∧ (b e1 = .ok .nx e2 ∨ b e1 = .ok .ct e2) ∧ R (k + 1) e2) : ∃ e', forL g b (rngD 0 m) e = .ok .nx e' ∧ R m e' :=
  forL_rng R h0 fun k hk e r => by rw [Int.zero_add]; exact h k hk e r
theorem atK {ns : List Int} {k : Nat} (h : k < ns.length) : atI (ns.map D.int) (k : Int) = some (.int (ns.getD k 0)) := by
  rw [atI_ints (by omega) (by omega)]; rfl
/-- while, by an invariant and a measure -/
theorem whN_inv {c : M Bool} {b : M Fl} (I : Nat → DEnv → Prop) (step : ∀ n e, I n e → c e = .ok false e ∨ (c e = .ok true e ∧ ∃ e2 m, m < n ∧ (b e = .ok .nx e2 ∨ b e = .ok .ct e2) ∧ I m e2)) : ∀ (k n : Nat) (e : DEnv), n < k → I n e → ∃ n' e', whN c b k e = .ok .nx e' ∧ I n' e' ∧ c e' = .ok false e'
  | 0, n, e, h, _ => by omega
  | k + 1, n, e, h, i => by
    unfold whN
    rcases step n e i with q | ⟨q, e2, m, hm, hb, i2⟩
    · exact ⟨n, e, by rw [a_if, q]; rfl, i, q⟩
    · obtain ⟨n', e', h1, h2⟩ := whN_inv I step k m e2 (by omega) i2
      refine ⟨n', e', ?_, h2⟩
      rw [a_if, q, a_rok, if_pos rfl, a_again]
      rcases hb with hb | hb <;> rw [hb] <;> exact h1
theorem mWh_inv {c : M Bool} {b : M Fl} (I : Nat → DEnv → Prop) (step : ∀ n e, I n e → c e = .ok false e ∨ (c e = .ok true e ∧ ∃ e2 m, m < n ∧ (b e = .ok .nx e2 ∨ b e = .ok .ct e2) ∧ I m e2)) {n : Nat} {e : DEnv} (h : I n e) : ∃ n' e', mWh c b e = .ok .nx e' ∧ I n' e' ∧ c e' = .ok false e' := by
  obtain ⟨n', e', h1, h2⟩ := whN_inv I step (n + 1) n e (Nat.lt_succ_self n) h
  exact ⟨n', e', mWh_of h1 (fun z => nomatch z), h2⟩
/-! ### == -/
/-- plain data of ints, None, at most n deep -/
def D.pl : Nat → D → Bool
  | _, .int _ => true
  | _, .non => true
  | _, .str z => PyData.strOk z
  | n + 1, .tup l => l.all (D.pl n)
  | n + 1, .lst l => l.all (D.pl n)
  | _, _ => false
theorem pl_tup {n : Nat} {l : List D} (h : D.pl n (.tup l) = true) : ∃ m, n = m + 1 ∧ ∀ d ∈ l, D.pl m d = true := by
  cases n with
  | zero => cases h
  | succ m => exact ⟨m, rfl, List.all_eq_true.mp h⟩
theorem pl_lst {n : Nat} {l : List D} (h : D.pl n (.lst l) = true) : ∃ m, n = m + 1 ∧ ∀ d ∈ l, D.pl m d = true := by
  cases n with
  | zero => cases h
  | succ m => exact ⟨m, rfl, List.all_eq_true.mp h⟩
theorem pls_py : ∀ l : List D, (∀ d ∈ l, d.py = true) → D.pys l = true
  | [], _ => by rw [D.pys]
  | d :: r, h => by rw [D.pys, h d List.mem_cons_self, pls_py r fun d' m => h d' (List.mem_cons_of_mem _ m)]; rfl
theorem pls_can : ∀ l : List D, (∀ d ∈ l, d.toPy.canLay0 = true) → PyData.canLayAll0 (D.toPys l) = true
  | [], _ => by rw [D.toPys, PyData.canLayAll0]
  | d :: r, h => by rw [D.toPys, PyData.canLayAll0, h d List.mem_cons_self, pls_can r fun d' m => h d' (List.mem_cons_of_mem _ m)]; rfl
theorem pls_dep (n : Nat) : ∀ l : List D, (∀ d ∈ l, d.toPy.depth ≤ n) → PyData.depthAll (D.toPys l) ≤ n
  | [], _ => by rw [D.toPys, PyData.depthAll]; omega
  | d :: r, h => by
    rw [D.toPys, PyData.depthAll]
    exact Nat.max_le.mpr ⟨h d List.mem_cons_self, pls_dep n r fun d' m => h d' (List.mem_cons_of_mem _ m)⟩
theorem pl_ok : ∀ (n : Nat) (d : D), D.pl n d = true → d.py = true ∧ d.toPy.canLay0 = true ∧ d.toPy.depth ≤ n := by
  intro n
  induction n with
  | zero =>
    intro d h
    cases d with
    | int i => exact ⟨by rw [D.py] <;> simp, by rw [D.toPy, PyData.canLay0], by rw [D.toPy, PyData.depth]; omega⟩
    | non => exact ⟨by rw [D.py] <;> simp, by rw [D.toPy, PyData.canLay0], by rw [D.toPy, PyData.depth]; omega⟩
    | str z => exact ⟨by rw [D.py] <;> simp, by rw [D.toPy, PyData.canLay0]; exact h, by rw [D.toPy, PyData.depth]; omega⟩
    | _ => cases h
  | succ n ih =>
    intro d h
    cases d with
    | int i => exact ⟨by rw [D.py] <;> simp, by rw [D.toPy, PyData.canLay0], by rw [D.toPy, PyData.depth]; omega⟩
    | non => exact ⟨by rw [D.py] <;> simp, by rw [D.toPy, PyData.canLay0], by rw [D.toPy, PyData.depth]; omega⟩
    | str z => exact ⟨by rw [D.py] <;> simp, by rw [D.toPy, PyData.canLay0]; exact h, by rw [D.toPy, PyData.depth]; omega⟩
    | tup l =>
      obtain ⟨m, e, h⟩ := pl_tup h
      cases e
      refine ⟨by rw [D.py]; exact pls_py l fun d m => (ih d (h d m)).1, by rw [D.toPy, PyData.canLay0]; exact pls_can l fun d m => (ih d (h d m)).2.1, ?_⟩
      rw [D.toPy, PyData.depth]
      have := pls_dep n l fun d m => (ih d (h d m)).2.2
      omega
    | lst l =>
      obtain ⟨m, e, h⟩ := pl_lst h
      cases e
      refine ⟨by rw [D.py]; exact pls_py l fun d m => (ih d (h d m)).1, by rw [D.toPy, PyData.canLay0]; exact pls_can l fun d m => (ih d (h d m)).2.1, ?_⟩
      rw [D.toPy, PyData.depth]
      have := pls_dep n l fun d m => (ih d (h d m)).2.2
      omega
    | _ => cases h
theorem eqOk_pl {n m : Nat} {d d' : D} (h : D.pl n d = true) (h' : D.pl m d' = true) (hn : n ≤ 64 := by decide) (hm : m ≤ 64 := by decide) : eqOk d d' = true := by
  obtain ⟨a1, a2, a3⟩ := pl_ok n d h
  obtain ⟨b1, b2, b3⟩ := pl_ok m d' h'
  unfold eqOk shp SeqAt.shaped
  rw [a1, b1, a2, b2, decide_eq_true (by omega), decide_eq_true (by omega)]; rfl
theorem eqvs {n : Nat} (ih : ∀ d d', D.pl n d = true → D.pl n d' = true → (PyData.eqv d.toPy d'.toPy = true ↔ d = d')) : ∀ l l' : List D, (∀ d ∈ l, D.pl n d = true) → (∀ d ∈ l', D.pl n d = true) → (PyData.eqvAll (D.toPys l) (D.toPys l') = true ↔ l = l')
  | [], [], _, _ => by rw [D.toPys, PyData.eqvAll]; simp
  | [], d :: r, _, _ => by rw [D.toPys, D.toPys, PyData.eqvAll]; simp
  | d :: r, [], _, _ => by rw [D.toPys, D.toPys, PyData.eqvAll]; simp
  | d :: r, d' :: r', h, h' => by
    rw [D.toPys, D.toPys, PyData.eqvAll, Bool.and_eq_true, ih d d' (h d List.mem_cons_self) (h' d' List.mem_cons_self), eqvs ih r r' (fun d m => h d (List.mem_cons_of_mem _ m)) (fun d m => h' d (List.mem_cons_of_mem _ m)), List.cons.injEq]
theorem deq_pl : ∀ (n : Nat) (d d' : D), D.pl n d = true → D.pl n d' = true → (deq d d' = true ↔ d = d') := by
  intro n
  unfold deq
  induction n with
  | zero =>
    intro d d' h h'
    cases d <;> cases d' <;> first
      | (cases h; done)
      | (cases h'; done)
      | (rw [D.toPy, D.toPy, PyData.eqv]; simp)
      | (rw [D.toPy, PyData.eqv]; simp)
  | succ n ih =>
    intro d d' h h'
    cases d <;> cases d' <;> first
      | (cases h; done)
      | (cases h'; done)
      | (obtain ⟨m, e, h⟩ := pl_tup h
         cases e
         obtain ⟨m, e, h'⟩ := pl_tup h'
         cases e
         rw [D.toPy, D.toPy, PyData.eqv, eqvs ih _ _ h h']; simp; done)
      | (obtain ⟨m, e, h⟩ := pl_lst h
         cases e
         obtain ⟨m, e, h'⟩ := pl_lst h'
         cases e
         rw [D.toPy, D.toPy, PyData.eqv, eqvs ih _ _ h h']; simp; done)
      | (rw [D.toPy, D.toPy, PyData.eqv]; simp; done)
      | (rw [D.toPy, PyData.eqv]; simp; done)
theorem deq_self {n : Nat} {d : D} (h : D.pl n d = true) : deq d d = true := (deq_pl n d d h h).mpr rfl
theorem deq_ne {n : Nat} {d d' : D} (h : D.pl n d = true) (h' : D.pl n d' = true) (ne : d ≠ d') : deq d d' = false := by
  cases q : deq d d' with
  | false => rfl
  | true => exact absurd ((deq_pl n d d' h h').mp q) ne
/-- a == b, both plain and the same -/
theorem mEq_same {n : Nat} {d d' : D} {e : DEnv} (h : D.pl n d = true) (he : d = d') (hn : n ≤ 64 := by decide) : mEq d d' e = .ok (.bl true) e := by
  subst he
  rw [a_eq, if_pos (eqOk_pl h h hn hn), deq_self h]
theorem mNe_same {n : Nat} {d d' : D} {e : DEnv} (h : D.pl n d = true) (he : d = d') (hn : n ≤ 64 := by decide) : mNe d d' e = .ok (.bl false) e := by
  subst he
  rw [a_ne, if_pos (eqOk_pl h h hn hn), deq_self h]; rfl
theorem mEq_other {n : Nat} {d d' : D} {e : DEnv} (h : D.pl n d = true) (h' : D.pl n d' = true) (he : d ≠ d') (hn : n ≤ 64 := by decide) : mEq d d' e = .ok (.bl false) e := by
  rw [a_eq, if_pos (eqOk_pl h h' hn hn), deq_ne h h' he]
theorem mNe_other {n : Nat} {d d' : D} {e : DEnv} (h : D.pl n d = true) (h' : D.pl n d' = true) (he : d ≠ d') (hn : n ≤ 64 := by decide) : mNe d d' e = .ok (.bl true) e := by
  rw [a_ne, if_pos (eqOk_pl h h' hn hn), deq_ne h h' he]; rfl
abbrev iL (ns : List Int) : D := .lst (ns.map .int)
abbrev iT (ns : List Int) : D := .tup (ns.map .int)
theorem pl_ints {n : Nat} (ns : List Int) : ∀ d ∈ ns.map D.int, D.pl n d = true := fun d m => by
  obtain ⟨i, _, rfl⟩ := List.mem_map.mp m
  cases n <;> rfl
theorem pl_iL {n : Nat} (ns : List Int) : D.pl (n + 1) (iL ns) = true := List.all_eq_true.mpr (pl_ints ns)
theorem pl_iT {n : Nat} (ns : List Int) : D.pl (n + 1) (iT ns) = true := List.all_eq_true.mpr (pl_ints ns)
theorem atI_map {α : Type} {xs : List α} {f : α → D} {k : Int} {x : α} (h0 : 0 ≤ k) (h : xs[k.toNat]? = some x) : atI (xs.map f) k = some (f x) := by
  obtain ⟨j, rfl⟩ := Int.eq_ofNat_of_zero_le h0
  exact atI_nat (j := j) (by rw [List.getElem?_map]; rw [show xs[j]? = some x from h]; rfl)
theorem atI_get {xs : List Int} {k : Int} (h0 : 0 ≤ k) (h1 : k < xs.length) : atI (xs.map D.int) k = some (.int (xs.getD k.toNat 0)) := atI_ints h0 h1
end DL

local macro_rules | `(tactic| walk_at "dl") => `(tactic| try simp -implicitDefEqProofs only [Bool.true_eq_false, DL.wipeE, DL.at0, DL.at1, DL.at2, DL.nc0, DL.nc1, DL.nc2, DL.nc3, DL.nc4, DL.nc5, not_true_eq_false, not_false_eq_true, eq_self, ne_eq,  DL.sz0, DL.sz1, DL.sz2, DL.sz3, DL.sz4, DL.sz5, DL.sz6, DL.a_seq, DL.a_listL, DL.a_listT, DL.a_tupleL, DL.a_tupleT, DL.a_sum, DL.a_isiT, DL.a_isiL, DL.a_isiS, DL.k_tt, DL.k_lt, DL.k_tl, DL.k_ll, DL.k_it, DL.k_il, DL.k_ss, DL.k_st, DL.k_ti, DL.k_li, DL.k_tb, DL.k_lb, DL.a_isE, DL.a_callE, DL.a_reok, DL.a_try, DL.a_tok, DL.a_texc, DL.a_cT, DL.a_cF, DL.a_unN, DL.a_unR, DL.a_slice, DL.a_oNone, DL.a_oSome, DL.a_dSlL, DL.a_dSlT, DL.a_ret, DL.a_stk, DL.a_bnd, DL.a_rok, DL.a_rexc, DL.a_rst, DL.a_rite, DL.a_var, DL.a_oval, DL.a_oown, DL.a_m2, DL.a_g2i, DL.a_add, DL.a_mAdd, DL.a_sub, DL.a_mul, DL.a_div, DL.a_mod, DL.a_pow, DL.a_shr, DL.a_cmp, DL.a_eq, DL.a_ne, DL.eqOk_ii, DL.deq_ii, DL.a_u1i, DL.a_mB, DL.a_truB, DL.a_truI, DL.a_truN, DL.a_truL, DL.a_truT, DL.a_bAnd, DL.a_bOr, DL.a_bNot, DL.a_vAnd, DL.a_vOr, DL.a_vNot, DL.a_if, DL.a_ite, DL.a_aNil, DL.a_aCons, DL.a_tup, DL.a_lst, DL.a_c1i, DL.a_c2i, DL.a_cIntI, DL.a_cIntB, DL.a_lenL, DL.a_lenT, DL.a_lenS, DL.a_nx, DL.a_sq, DL.a_snx, DL.a_srt, DL.a_sbk, DL.a_sct, DL.a_sexc, DL.a_sst, DL.a_site, DL.a_asg, DL.a_mRet, DL.a_drop, DL.a_aug, DL.a_oA, DL.a_gN, DL.a_gsNil, DL.a_gsCons, DL.a_gTpT, DL.a_gTpL, DL.a_asgT, DL.a_par, DL.a_again, DL.a_gnx, DL.a_gct, DL.a_gbk, DL.a_grt, DL.a_gexc, DL.a_gite, DL.a_rng1, DL.a_rng2, DL.a_raise, DL.a_call, DL.a_rsok, DL.a_rsexc, DL.a_rsst, DL.a_has, DL.a_hval, DL.a_hown, DL.a_onSl, DL.a_slD, DL.a_oDv, DL.a_oDo, DL.a_oDs, DL.a_ixN, DL.a_mIxI, DL.a_dIxL, DL.a_dIxT, DL.a_oM, DL.a_isiI, DL.a_isiB, DL.a_kM, DL.k_ii, DL.k_ib, DL.k_bi, DL.k_bb, DL.a_runF, DL.a_rFrt, DL.a_rFnx, DL.a_rFexc, DL.a_rFite, DL.envOf, List.map_cons, List.map_nil, List.length_cons, List.length_nil, List.cons_append, List.nil_append, List.getElem?_cons_zero, List.getElem?_cons_succ, List.set_cons_zero, List.set_cons_succ, List.replicate, if_true, if_false, Bool.false_eq_true, reduceIte, List.length_map, Nat.reduceAdd, Nat.reduceSub, Nat.zero_add, decide_eq_true_eq, Bool.not_eq_true', decide_eq_false_iff_not, Bool.not_true, Bool.not_false])
/-! DLm: divisors, places, as plain mathematics. -/
namespace DL
open PySem PySem.Spec PyProof.Rows L2 Evl
theorem gcd_wh : ∀ (k m n : Nat), n < k → whN gcdC gcdB k [.val (.int m), .val (.int n)] = .ok .nx [.val (.int (Nat.gcd m n : Nat)), .val (.int 0)]
  | 0, m, n, h => by omega
  | k + 1, m, n, h => by
    unfold whN
    walk_at "dl"
    by_cases hn : n = 0
    · subst hn
      rw [if_neg (by omega), Nat.gcd_zero_right]; rfl
    · rw [if_pos (by omega), if_pos (by omega)]
      rw [fmod_nat, gcd_wh k n (m % n) (by have := Nat.mod_lt m (show 0 < n by omega); omega), Nat.gcd_comm n, ← Nat.gcd_rec n m, Nat.gcd_comm]
theorem gcd_mWh (m n : Nat) : mWh gcdC gcdB [.val (.int m), .val (.int n)] = .ok .nx [.val (.int (Nat.gcd m n : Nat)), .val (.int 0)] := mWh_of (gcd_wh (n + 1) m n (Nat.lt_succ_self n)) (fun z => nomatch z)
def gd (a b : Int) : Int := (Nat.gcd a.natAbs b.natAbs : Nat)
/-- the body of divisor -/
noncomputable abbrev gcdF : M Fl :=
  (sq (mAsg 0 (bnd (aCons (mVar 0) aNil) (c1i fun i => ret (.int (iAbs i)))))
  (sq (mAsg 1 (bnd (aCons (mVar 1) aNil) (c1i fun i => ret (.int (iAbs i)))))
  (sq (mWh (bnd (m2 (mVar 1) (ret (.int 0)) (g2i (iCmp fun i j => decide (j < i)))) mB) (mPar 0 1 (aCons (mVar 1) (aCons (m2 (mVar 0) (mVar 1) (g2i iMod)) aNil))))
  (mRet (mVar 0)))))
theorem e_gcd (a b : Int) : runF 2 gcdF [.int a, .int b] = .ok (.int (gd a b)) := by
  walk_at "dl"
  rw [iAbs_eq, iAbs_eq, gcd_mWh]
  walk_at "dl"
  rfl
theorem gd_nonneg (a b : Int) : 0 ≤ gd a b := by unfold gd; omega
theorem gd_comm (a b : Int) : gd b a = gd a b := by unfold gd; rw [Nat.gcd_comm]
theorem gd_zero {a b : Int} (h : gd a b = 0) : a = 0 ∧ b = 0 := by
  unfold gd at h
  have h' : Nat.gcd a.natAbs b.natAbs = 0 := by omega
  have := Nat.gcd_eq_zero_iff.mp h'
  omega
theorem gd_l (a b : Int) : gd a b ∣ a := by unfold gd; exact Int.ofNat_dvd_left.mpr (Nat.gcd_dvd_left _ _)
theorem gd_r (a b : Int) : gd a b ∣ b := by unfold gd; exact Int.ofNat_dvd_left.mpr (Nat.gcd_dvd_right _ _)
theorem gd_dvd {a b c : Int} (h : c ∣ a) (k : c ∣ b) : c ∣ gd a b := by
  unfold gd
  exact Int.natAbs_dvd.mp (Int.ofNat_dvd.mpr (Nat.dvd_gcd (Int.natAbs_dvd_natAbs.mpr h) (Int.natAbs_dvd_natAbs.mpr k)))
theorem fmod_dvd {a b : Int} (h : b ∣ a) (h0 : 0 ≤ b) : a.fmod b = 0 := by rw [Int.fmod_eq_emod_of_nonneg _ h0]; exact Int.emod_eq_zero_of_dvd h
theorem gd_bits {a b : Int} {m : Nat} (ha : ib a ≤ m) (hb : ib b ≤ m) : ib (gd a b) ≤ m := by
  by_cases h : a = 0
  · refine intBits_le_of_natAbs (y := b) ?_ hb
    unfold gd; subst h; simp
  · refine intBits_le_of_natAbs (y := a) ?_ ha
    have := Nat.le_of_dvd (by omega) (Nat.gcd_dvd_left a.natAbs b.natAbs)
    unfold gd; omega
/-- a number and more: the divisor of all -/
def gdl (b : Int) (ns : List Int) : Int := ns.foldl gd b
theorem gdl_cons {b n : Int} {ns : List Int} : gdl b (n :: ns) = gdl (gd b n) ns := rfl
theorem gdl_dvd : ∀ {ns : List Int} {b : Int}, gdl b ns ∣ b ∧ ∀ n ∈ ns, gdl b ns ∣ n
  | [], b => ⟨Int.dvd_refl _, fun n h => by cases h⟩
  | m :: ns, b => by
    obtain ⟨h1, h2⟩ := gdl_dvd (ns := ns) (b := gd b m)
    rw [gdl_cons]
    refine ⟨Int.dvd_trans h1 (gd_l b m), fun n h => ?_⟩
    rcases List.mem_cons.mp h with rfl | h
    · exact Int.dvd_trans h1 (gd_r b n)
    · exact h2 n h
theorem dvd_gdl : ∀ {ns : List Int} {b c : Int}, c ∣ b → (∀ n ∈ ns, c ∣ n) → c ∣ gdl b ns
  | [], b, c, h, _ => h
  | m :: ns, b, c, h, k => by
    rw [gdl_cons]
    exact dvd_gdl (gd_dvd h (k m List.mem_cons_self)) fun n hn => k n (List.mem_cons_of_mem _ hn)
theorem gdl_nonneg : ∀ {ns : List Int} {b : Int}, 0 ≤ b → 0 ≤ gdl b ns
  | [], b, h => h
  | m :: ns, b, h => by rw [gdl_cons]; exact gdl_nonneg (gd_nonneg b m)
theorem dvd_le {a b : Int} (h : a ∣ b) (hb : b ≠ 0) : a.natAbs ≤ b.natAbs := Nat.le_of_dvd (by omega) (Int.natAbs_dvd_natAbs.mpr h)
theorem ib_dvd {a b : Int} {m : Nat} (h : a ∣ b) (hb : b ≠ 0) (k : ib b ≤ m) : ib a ≤ m := intBits_le_of_natAbs (dvd_le h hb) k
/-- what all of a place is divided by -/
def pby (u : Int) (ns : List Int) : Int := if u < 0 then -gdl u.natAbs ns else gdl u.natAbs ns
theorem pby_dvd {u : Int} {ns : List Int} : pby u ns ∣ u ∧ ∀ n ∈ ns, pby u ns ∣ n := by
  obtain ⟨h1, h2⟩ := gdl_dvd (ns := ns) (b := (u.natAbs : Int))
  have h1 : gdl u.natAbs ns ∣ u := Int.dvd_trans h1 (Int.natAbs_dvd.mpr (Int.dvd_refl u))
  unfold pby
  split
  · exact ⟨Int.neg_dvd.mpr h1, fun n h => Int.neg_dvd.mpr (h2 n h)⟩
  · exact ⟨h1, h2⟩
theorem pby_ne {u : Int} {ns : List Int} (hu : u ≠ 0) : pby u ns ≠ 0 := fun h => by
  have := pby_dvd (u := u) (ns := ns) |>.1
  rw [h] at this
  exact hu (Int.zero_dvd.mp this)
theorem mul_div_of {a b : Int} (hb : b ≠ 0) (h : b ∣ a) : b * a.fdiv b = a := by
  obtain ⟨k, rfl⟩ := h
  rw [Int.mul_comm b k, Int.mul_fdiv_cancel k hb, Int.mul_comm]
/-- the place's under -/
def pun (u : Int) (ns : List Int) : Int := u.fdiv (pby u ns)
/-- the place's tops -/
def pts (u : Int) (ns : List Int) : List Int := ns.map fun n => n.fdiv (pby u ns)
theorem pun_mul {u : Int} {ns : List Int} (hu : u ≠ 0) : pby u ns * pun u ns = u := mul_div_of (pby_ne hu) pby_dvd.1
theorem pun_pos {u : Int} {ns : List Int} (hu : u ≠ 0) : 0 < pun u ns := by
  have h := pun_mul (ns := ns) hu
  have g := gdl_nonneg (ns := ns) (b := (u.natAbs : Int)) (by omega)
  have hne := pby_ne (ns := ns) hu
  have hs : (u < 0 → pby u ns < 0) ∧ (0 < u → 0 < pby u ns) := by
    unfold pby at hne ⊢
    constructor
    · intro q; rw [if_pos q] at hne ⊢; omega
    · intro q; rw [if_neg (by omega)] at hne ⊢; omega
  rcases Int.lt_or_gt_of_ne hu with q | q
  · have h1 := hs.1 q
    refine Int.not_le.mp fun z => ?_
    have := Int.mul_nonneg_of_nonpos_of_nonpos (Int.le_of_lt h1) z
    omega
  · have h1 := hs.2 q
    refine Int.not_le.mp fun z => ?_
    have := Int.mul_nonpos_of_nonneg_of_nonpos (Int.le_of_lt h1) z
    omega
/-- in lowest terms: no divisor above 1 in common -/
def low (v : Int) (qs : List Int) : Prop := gdl v qs = 1
theorem low_of {v : Int} {qs : List Int} (hv : 0 < v) (h : ∀ c : Int, 0 ≤ c → c ∣ v → (∀ q ∈ qs, c ∣ q) → c = 1) : low v qs := by
  obtain ⟨h1, h2⟩ := gdl_dvd (ns := qs) (b := v)
  exact h _ (gdl_nonneg (by omega)) h1 h2
theorem low_use {v : Int} {qs : List Int} (hl : low v qs) {c : Int} (h0 : 0 ≤ c) (h1 : c ∣ v) (h2 : ∀ q ∈ qs, c ∣ q) : c = 1 := by
  have h := dvd_gdl h1 h2
  rw [hl] at h
  exact Int.eq_one_of_dvd_one h0 h
theorem natAbs_pby {u : Int} {ns : List Int} : pby u ns ∣ gdl u.natAbs ns ∧ gdl u.natAbs ns ∣ pby u ns := by
  unfold pby
  split
  · exact ⟨Int.neg_dvd.mpr (Int.dvd_refl _), Int.dvd_neg.mpr (Int.dvd_refl _)⟩
  · exact ⟨Int.dvd_refl _, Int.dvd_refl _⟩
theorem pl_low {u : Int} {ns : List Int} (hu : u ≠ 0) : low (pun u ns) (pts u ns) := by
  refine low_of (pun_pos hu) fun c c0 c1 c2 => ?_
  have hb := pby_ne (ns := ns) hu
  have hg : pby u ns * c ∣ gdl u.natAbs ns := by
    refine dvd_gdl ?_ fun n hn => ?_
    · refine Int.dvd_natAbs.mpr ?_
      have := Int.mul_dvd_mul_left (pby u ns) c1
      rw [pun_mul hu] at this
      exact this
    · have := Int.mul_dvd_mul_left (pby u ns) (c2 _ (List.mem_map_of_mem hn))
      rw [mul_div_of hb (pby_dvd.2 n hn)] at this
      exact this
  have := Int.dvd_trans hg natAbs_pby.2
  have h1 : pby u ns * c ∣ pby u ns * 1 := by rw [Int.mul_one]; exact this
  exact Int.eq_one_of_dvd_one c0 (Int.dvd_of_mul_dvd_mul_left hb h1)
/-- a place in lowest terms comes as it is -/
theorem pby_low {v : Int} {qs : List Int} (hv : 0 < v) (h : low v qs) : pby v qs = 1 := by
  unfold pby
  rw [if_neg (by omega), show ((v.natAbs : Nat) : Int) = v by omega]
  exact h
theorem fdiv_one (a : Int) : a.fdiv 1 = a := by rw [Int.fdiv_eq_ediv_of_nonneg _ (by decide)]; exact Int.ediv_one a
theorem pun_low {v : Int} {qs : List Int} (hv : 0 < v) (h : low v qs) : pun v qs = v := by unfold pun; rw [pby_low hv h, fdiv_one]
theorem pts_low {v : Int} {qs : List Int} (hv : 0 < v) (h : low v qs) : pts v qs = qs := by
  unfold pts
  rw [pby_low hv h]
  exact (List.map_congr_left fun q _ => fdiv_one q).trans (List.map_id _)
/-- the rest -/
def rst (v : Int) (qs : List Int) : List Int := qs.map fun q => q.fmod v
theorem fmod_rng {a v : Int} (hv : 0 < v) : 0 ≤ a.fmod v ∧ a.fmod v < v := ⟨Int.fmod_nonneg_of_pos a hv, Int.fmod_lt_of_pos a hv⟩
theorem fmod_small {a v : Int} (h0 : 0 ≤ a) (h : a < v) : a.fmod v = a := by rw [Int.fmod_eq_emod_of_nonneg _ (by omega)]; exact Int.emod_eq_of_lt h0 h
theorem dvd_sub_fmod (a v : Int) : v ∣ a.fmod v - a := by
  have h := Int.fmod_add_mul_fdiv a v
  refine ⟨-(a.fdiv v), ?_⟩
  rw [Int.mul_neg]; omega
theorem dvd_congr {a b c v : Int} (hc : c ∣ v) (h : v ∣ a - b) : c ∣ a ↔ c ∣ b := by
  have h1 := Int.dvd_trans hc h
  constructor
  · intro h2
    have := Int.dvd_sub h2 h1
    rwa [show a - (a - b) = b by omega] at this
  · intro h2
    have := Int.dvd_add h1 h2
    rwa [show a - b + b = a by omega] at this
/-- tops that differ by wholes are in lowest terms together -/
theorem low_congr {v : Int} {qs rs : List Int} (hv : 0 < v) (hl : qs.length = rs.length) (h : ∀ (k : Nat) (q r : Int), qs[k]? = some q → rs[k]? = some r → v ∣ q - r) (hq : low v qs) : low v rs := by
  refine low_of hv fun c c0 c1 c2 => low_use hq c0 c1 fun q hm => ?_
  obtain ⟨k, hk⟩ := List.getElem?_of_mem hm
  have hk' : k < rs.length := by rw [← hl]; exact (List.getElem?_eq_some_iff.mp hk).1
  exact (dvd_congr c1 (h k q rs[k] hk (List.getElem?_eq_getElem hk'))).mpr (c2 _ (List.getElem_mem hk'))
theorem low_rst {v : Int} {qs : List Int} (hv : 0 < v) (h : low v qs) : low v (rst v qs) := by
  refine low_congr hv (by unfold rst; rw [List.length_map]) (fun k q r h1 h2 => ?_) h
  unfold rst at h2
  rw [List.getElem?_map, h1] at h2
  cases h2
  have := dvd_sub_fmod q v
  have := Int.dvd_neg.mpr this
  rwa [show -(q.fmod v - q) = q - q.fmod v by omega] at this
theorem fmod_congr {a b v : Int} (hv : 0 < v) (h : v ∣ a - b) : a.fmod v = b.fmod v := by
  rw [Int.fmod_eq_emod_of_nonneg _ (by omega), Int.fmod_eq_emod_of_nonneg _ (by omega)]
  exact Int.emod_eq_emod_iff_emod_sub_eq_zero.mpr (Int.emod_eq_zero_of_dvd h)
theorem rst_congr {v : Int} {qs rs : List Int} (hv : 0 < v) (hl : qs.length = rs.length) (h : ∀ (k : Nat) (q r : Int), qs[k]? = some q → rs[k]? = some r → v ∣ q - r) : rst v qs = rst v rs := by
  apply List.ext_getElem?
  intro k
  unfold rst
  rw [List.getElem?_map, List.getElem?_map]
  cases q : qs[k]? with
  | none =>
    have : rs[k]? = none := List.getElem?_eq_none (by rw [← hl]; exact List.getElem?_eq_none_iff.mp q)
    rw [this]
  | some x =>
    have hk' : k < rs.length := by rw [← hl]; exact (List.getElem?_eq_some_iff.mp q).1
    rw [List.getElem?_eq_getElem hk']
    show some (x.fmod v) = some (rs[k].fmod v)
    rw [fmod_congr hv (h k x rs[k] q (List.getElem?_eq_getElem hk'))]
end DL

/-! DLv: vectors, rows, determinants, what is alike modulo a number: plain mathematics. -/
namespace DL
open PySem PySem.Spec PyProof.Rows L2 Evl
/-! sums -/
theorem sum_dvd {u : Int} : ∀ l : List Int, (∀ x ∈ l, u ∣ x) → u ∣ l.sum
  | [], _ => by rw [List.sum_nil]; exact Int.dvd_zero u
  | x :: r, h => by
    rw [List.sum_cons]
    exact Int.dvd_add (h x List.mem_cons_self) (sum_dvd r fun y hy => h y (List.mem_cons_of_mem _ hy))
theorem sum_sub (f g : Nat → Int) : ∀ l : List Nat, (l.map f).sum - (l.map g).sum = (l.map fun x => f x - g x).sum
  | [] => by simp
  | x :: r => by
    rw [List.map_cons, List.map_cons, List.map_cons, List.sum_cons, List.sum_cons, List.sum_cons, ← sum_sub f g r]
    omega
theorem sum_bits {m : Nat} : ∀ l : List Int, (∀ x ∈ l, ib x ≤ m) → ib l.sum ≤ m + l.length
  | [], _ => by rw [List.sum_nil]; exact Nat.le_trans (by decide : ib 0 ≤ 0) (Nat.zero_le _)
  | x :: r, h => by
    rw [List.sum_cons]
    have h1 := h x List.mem_cons_self
    have h2 := sum_bits r fun y hy => h y (List.mem_cons_of_mem _ hy)
    refine Nat.le_trans (intBits_add_le h1 h2) ?_
    rw [List.length_cons]; omega
/-! what is alike -/
structure Cg (U : Int) (A B : List Int) : Prop where
  len : A.length = B.length
  at_ : ∀ k : Nat, U ∣ A.getD k 0 - B.getD k 0
def dtn (n : Nat) (r t : List Int) : Int := ((List.range n).map fun j => r.getD j 0 * t.getD j 0).sum
def led (X : List (List Int)) (t : List Int) : List Int := X.map fun r => dtn t.length r t
theorem dtn_cg {u : Int} {n : Nat} {r t t' : List Int} (h : Cg u t t') : u ∣ dtn n r t - dtn n r t' := by
  unfold dtn
  rw [sum_sub]
  refine sum_dvd _ fun x hx => ?_
  obtain ⟨k, _, rfl⟩ := List.mem_map.mp hx
  have := Int.dvd_mul_of_dvd_right (h.at_ k) (b := r.getD k 0)
  rwa [Int.mul_sub] at this
theorem getD_map' {α : Type} {f : α → Int} {l : List α} {k : Nat} {d : α} : (l.map f).getD k 0 = if k < l.length then f (l.getD k d) else 0 := by
  rw [List.getD_eq_getElem?_getD, List.getElem?_map]
  by_cases h : k < l.length
  · rw [if_pos h, List.getElem?_eq_getElem h, List.getD_eq_getElem?_getD, List.getElem?_eq_getElem h]; rfl
  · rw [if_neg h, List.getElem?_eq_none (by omega)]; rfl
theorem led_len {X : List (List Int)} {t : List Int} : (led X t).length = X.length := List.length_map _
theorem led_cg {u : Int} {X : List (List Int)} {t t' : List Int} (h : Cg u t t') : Cg u (led X t) (led X t') := by
  refine ⟨by rw [led_len, led_len], fun k => ?_⟩
  unfold led
  rw [getD_map' (d := []), getD_map' (d := [])]
  by_cases hk : k < X.length
  · rw [if_pos hk, if_pos hk, h.len]; exact dtn_cg h
  · rw [if_neg hk, if_neg hk]; exact ⟨0, by simp⟩
theorem gdl_cg {U : Int} {A B : List Int} (h : Cg U A B) : gdl U A ∣ gdl U B := by
  obtain ⟨h1, h2⟩ := gdl_dvd (ns := A) (b := U)
  refine dvd_gdl h1 fun n hn => ?_
  obtain ⟨k, hk⟩ := List.getElem?_of_mem hn
  have kl : k < A.length := by rw [h.len]; exact (List.getElem?_eq_some_iff.mp hk).1
  have e1 : B.getD k 0 = n := by rw [List.getD_eq_getElem?_getD, hk]; rfl
  have e2 : A.getD k 0 ∈ A := by
    rw [List.getD_eq_getElem?_getD, List.getElem?_eq_getElem kl]
    exact List.getElem_mem kl
  have := (dvd_congr h1 (h.at_ k)).mp (h2 _ e2)
  rwa [e1] at this
theorem Cg.symm {U : Int} {A B : List Int} (h : Cg U A B) : Cg U B A := ⟨h.len.symm, fun k => by
  have := Int.dvd_neg.mpr (h.at_ k)
  rwa [show -(A.getD k 0 - B.getD k 0) = B.getD k 0 - A.getD k 0 by omega] at this⟩
theorem gdl_eq {U : Int} {A B : List Int} (u0 : 0 < U) (h : Cg U A B) : gdl U A = gdl U B :=
  Int.dvd_antisymm (gdl_nonneg (by omega)) (gdl_nonneg (by omega)) (gdl_cg h) (gdl_cg h.symm)
theorem pby_pos {U : Int} {A : List Int} (u0 : 0 < U) : pby U A = gdl U A := by
  unfold pby
  rw [if_neg (by omega), show ((U.natAbs : Nat) : Int) = U by omega]
/-- places alike modulo their under have the same rest, and the same under in lowest terms -/
theorem place_cg {U : Int} {A B : List Int} (u0 : 0 < U) (h : Cg U A B) : pun U A = pun U B ∧ rst (pun U A) (pts U A) = rst (pun U B) (pts U B) := by
  have e : pby U A = pby U B := by rw [pby_pos u0, pby_pos u0, gdl_eq u0 h]
  have e1 : pun U A = pun U B := by unfold pun; rw [e]
  refine ⟨e1, ?_⟩
  rw [← e1]
  have hA := pby_dvd (u := U) (ns := A)
  have hB := pby_dvd (u := U) (ns := B)
  have hn := pby_ne (u := U) (ns := A) (by omega)
  have hU := pun_mul (u := U) (ns := A) (by omega)
  refine rst_congr (pun_pos (by omega)) (by unfold pts; rw [List.length_map, List.length_map, h.len]) fun k q r h1 h2 => ?_
  unfold pts at h1 h2
  rw [List.getElem?_map] at h1 h2
  cases qa : A[k]? with
  | none => rw [qa] at h1; cases h1
  | some a =>
    cases qb : B[k]? with
    | none => rw [qb] at h2; cases h2
    | some b =>
      rw [qa] at h1; cases h1
      rw [qb] at h2; cases h2
      have ma := mul_div_of hn (hA.2 a (List.mem_of_getElem? qa))
      have mb := mul_div_of hn (by rw [e]; exact hB.2 b (List.mem_of_getElem? qb))
      have d := h.at_ k
      rw [List.getD_eq_getElem?_getD, List.getD_eq_getElem?_getD, qa, qb] at d
      have d : U ∣ a - b := d
      rw [← e]
      generalize pby U A = H at *
      generalize pun U A = v at *
      refine Int.dvd_of_mul_dvd_mul_left hn ?_
      rw [Int.mul_sub, ma, mb, hU]
      exact d
/-! rows -/
def sn : List (List Int) → Int
  | [[a, b], [c, d]] => a * d - b * c
  | [[a, b, c], [d, e, f], [g, h, i]] => a * (e * i - f * h) + b * (f * g - d * i) + c * (d * h - e * g)
  | _ => 0
def Sh (n : Nat) (X : List (List Int)) : Prop := (n = 2 ∧ ∃ a b c d, X = [[a, b], [c, d]]) ∨ (n = 3 ∧ ∃ a b c d e f g h i, X = [[a, b, c], [d, e, f], [g, h, i]])
def cols (M : List (List Int)) : List (List Int) := (List.range M.length).map fun j => M.map fun r => r.getD j 0
def pm (O M : List (List Int)) : List (List Int) := O.map fun r => (cols M).map fun c => dtn r.length r c
def adj : List (List Int) → List (List Int)
  | [[a, b], [c, d]] => let y := a * d - b * c; [[y * d, -y * b], [-y * c, y * a]]
  | [[a, b, c], [d, e, f], [g, h, i]] => let y := a * (e * i - f * h) + b * (f * g - d * i) + c * (d * h - e * g)
    [[y * (e * i - f * h), y * (h * c - i * b), y * (b * f - c * e)], [y * (f * g - d * i), y * (i * a - g * c), y * (c * d - a * f)], [y * (d * h - e * g), y * (g * b - h * a), y * (a * e - b * d)]]
  | _ => []
theorem pm_sh {n : Nat} {O M : List (List Int)} (hO : Sh n O) (hM : Sh n M) : Sh n (pm O M) ∧ sn (pm O M) = sn O * sn M := by
  rcases hO with ⟨rfl, a, b, c, d, rfl⟩ | ⟨rfl, a, b, c, d, e, f, g, h, i, rfl⟩
  · rcases hM with ⟨_, p, q, r, s, rfl⟩ | ⟨z, _⟩
    · refine ⟨.inl ⟨rfl, _, _, _, _, rfl⟩, ?_⟩
      show sn [[a * p + (b * r + 0), a * q + (b * s + 0)], [c * p + (d * r + 0), c * q + (d * s + 0)]] = sn [[a, b], [c, d]] * sn [[p, q], [r, s]]
      unfold sn
      grind
    · omega
  · rcases hM with ⟨z, _⟩ | ⟨_, a', b', c', d', e', f', g', h', i', rfl⟩
    · omega
    · refine ⟨.inr ⟨rfl, _, _, _, _, _, _, _, _, _, rfl⟩, ?_⟩
      show sn [[a * a' + (b * d' + (c * g' + 0)), a * b' + (b * e' + (c * h' + 0)), a * c' + (b * f' + (c * i' + 0))], [d * a' + (e * d' + (f * g' + 0)), d * b' + (e * e' + (f * h' + 0)), d * c' + (e * f' + (f * i' + 0))], [g * a' + (h * d' + (i * g' + 0)), g * b' + (h * e' + (i * h' + 0)), g * c' + (h * f' + (i * i' + 0))]] = sn [[a, b, c], [d, e, f], [g, h, i]] * sn [[a', b', c'], [d', e', f'], [g', h', i']]
      unfold sn
      grind
theorem Sh.len {n : Nat} {X : List (List Int)} (h : Sh n X) : X.length = n ∧ ∀ r ∈ X, r.length = n := by
  rcases h with ⟨rfl, a, b, c, e, rfl⟩ | ⟨rfl, a, b, c, d', e, f, g, h, i, rfl⟩
  · exact ⟨rfl, fun r h => by simp at h; rcases h with rfl | rfl <;> rfl⟩
  · exact ⟨rfl, fun r h => by simp at h; rcases h with rfl | rfl | rfl <;> rfl⟩
theorem Sh.n {n : Nat} {X : List (List Int)} (h : Sh n X) : n = 2 ∨ n = 3 := by
  rcases h with ⟨rfl, _⟩ | ⟨rfl, _⟩
  · exact .inl rfl
  · exact .inr rfl
theorem adj_sh {n : Nat} {M : List (List Int)} (hM : Sh n M) (hs : sn M = 1 ∨ sn M = -1) : Sh n (adj M) ∧ (sn (adj M) = 1 ∨ sn (adj M) = -1) := by
  rcases hM with ⟨rfl, a, b, c, d, rfl⟩ | ⟨rfl, a, b, c, d, e, f, g, h, i, rfl⟩
  · refine ⟨.inl ⟨rfl, _, _, _, _, rfl⟩, ?_⟩
    have e : sn (adj [[a, b], [c, d]]) = sn [[a, b], [c, d]] * sn [[a, b], [c, d]] * sn [[a, b], [c, d]] := by
      unfold adj sn
      dsimp only
      grind
    rw [e]
    rcases hs with h | h <;> rw [h] <;> decide
  · refine ⟨.inr ⟨rfl, _, _, _, _, _, _, _, _, _, rfl⟩, ?_⟩
    have e : sn (adj [[a, b, c], [d, e, f], [g, h, i]]) = sn [[a, b, c], [d, e, f], [g, h, i]] * sn [[a, b, c], [d, e, f], [g, h, i]] * sn [[a, b, c], [d, e, f], [g, h, i]] * sn [[a, b, c], [d, e, f], [g, h, i]] * sn [[a, b, c], [d, e, f], [g, h, i]] := by
      unfold adj sn
      dsimp only
      generalize hy : a * (e * i - f * h) + b * (f * g - d * i) + c * (d * h - e * g) = y
      have k : (e * i - f * h) * ((i * a - g * c) * (a * e - b * d) - (c * d - a * f) * (g * b - h * a)) + (h * c - i * b) * ((c * d - a * f) * (d * h - e * g) - (f * g - d * i) * (a * e - b * d)) + (b * f - c * e) * ((f * g - d * i) * (g * b - h * a) - (i * a - g * c) * (d * h - e * g)) = y * y := by
        subst hy
        grind
      have k2 : ∀ A B C D E F G H I : Int, y * A * (y * E * (y * I) - y * F * (y * H)) + y * B * (y * F * (y * G) - y * D * (y * I)) + y * C * (y * D * (y * H) - y * E * (y * G)) = y * y * y * (A * (E * I - F * H) + B * (F * G - D * I) + C * (D * H - E * G)) := fun A B C D E F G H I => by grind
      rw [k2, k]
      grind
    rw [e]
    rcases hs with h | h <;> rw [h] <;> decide
/-! elementary steps -/
def rw_ (X : List (List Int)) (i : Nat) : List Int := X.getD i []
def negR (r : List Int) : List Int := r.map fun x => -x
def addR (n : Nat) (k : Int) (r s : List Int) : List Int := (List.range n).map fun j => r.getD j 0 + k * s.getD j 0
theorem step_swap {n : Nat} {X : List (List Int)} (h : Sh n X) {i j : Nat} (hi : i < n) (hj : j < n) (ne : i ≠ j) : Sh n ((X.set i (rw_ X j)).set j (rw_ X i)) ∧ sn ((X.set i (rw_ X j)).set j (rw_ X i)) = -sn X := by
  rcases h with ⟨rfl, a, b, c, d, rfl⟩ | ⟨rfl, a, b, c, d, e, f, g, h, k, rfl⟩
  · have : (i = 0 ∧ j = 1) ∨ (i = 1 ∧ j = 0) := by omega
    rcases this with ⟨rfl, rfl⟩ | ⟨rfl, rfl⟩
    · exact ⟨.inl ⟨rfl, _, _, _, _, rfl⟩, by show sn [[c, d], [a, b]] = -sn [[a, b], [c, d]]; unfold sn; grind⟩
    · exact ⟨.inl ⟨rfl, _, _, _, _, rfl⟩, by show sn [[c, d], [a, b]] = -sn [[a, b], [c, d]]; unfold sn; grind⟩
  · have : (i = 0 ∧ j = 1) ∨ (i = 1 ∧ j = 0) ∨ (i = 0 ∧ j = 2) ∨ (i = 2 ∧ j = 0) ∨ (i = 1 ∧ j = 2) ∨ (i = 2 ∧ j = 1) := by omega
    rcases this with ⟨rfl, rfl⟩ | ⟨rfl, rfl⟩ | ⟨rfl, rfl⟩ | ⟨rfl, rfl⟩ | ⟨rfl, rfl⟩ | ⟨rfl, rfl⟩
    · exact ⟨.inr ⟨rfl, _, _, _, _, _, _, _, _, _, rfl⟩, by show sn [[d, e, f], [a, b, c], [g, h, k]] = -sn [[a, b, c], [d, e, f], [g, h, k]]; unfold sn; grind⟩
    · exact ⟨.inr ⟨rfl, _, _, _, _, _, _, _, _, _, rfl⟩, by show sn [[d, e, f], [a, b, c], [g, h, k]] = -sn [[a, b, c], [d, e, f], [g, h, k]]; unfold sn; grind⟩
    · exact ⟨.inr ⟨rfl, _, _, _, _, _, _, _, _, _, rfl⟩, by show sn [[g, h, k], [d, e, f], [a, b, c]] = -sn [[a, b, c], [d, e, f], [g, h, k]]; unfold sn; grind⟩
    · exact ⟨.inr ⟨rfl, _, _, _, _, _, _, _, _, _, rfl⟩, by show sn [[g, h, k], [d, e, f], [a, b, c]] = -sn [[a, b, c], [d, e, f], [g, h, k]]; unfold sn; grind⟩
    · exact ⟨.inr ⟨rfl, _, _, _, _, _, _, _, _, _, rfl⟩, by show sn [[a, b, c], [g, h, k], [d, e, f]] = -sn [[a, b, c], [d, e, f], [g, h, k]]; unfold sn; grind⟩
    · exact ⟨.inr ⟨rfl, _, _, _, _, _, _, _, _, _, rfl⟩, by show sn [[a, b, c], [g, h, k], [d, e, f]] = -sn [[a, b, c], [d, e, f], [g, h, k]]; unfold sn; grind⟩
theorem step_neg {n : Nat} {X : List (List Int)} (h : Sh n X) {i : Nat} (hi : i < n) : Sh n (X.set i (negR (rw_ X i))) ∧ sn (X.set i (negR (rw_ X i))) = -sn X := by
  rcases h with ⟨rfl, a, b, c, d, rfl⟩ | ⟨rfl, a, b, c, d, e, f, g, h, k, rfl⟩
  · have : i = 0 ∨ i = 1 := by omega
    rcases this with rfl | rfl
    · exact ⟨.inl ⟨rfl, _, _, _, _, rfl⟩, by show sn [[-a, -b], [c, d]] = -sn [[a, b], [c, d]]; unfold sn; grind⟩
    · exact ⟨.inl ⟨rfl, _, _, _, _, rfl⟩, by show sn [[a, b], [-c, -d]] = -sn [[a, b], [c, d]]; unfold sn; grind⟩
  · have : i = 0 ∨ i = 1 ∨ i = 2 := by omega
    rcases this with rfl | rfl | rfl
    · exact ⟨.inr ⟨rfl, _, _, _, _, _, _, _, _, _, rfl⟩, by show sn [[-a, -b, -c], [d, e, f], [g, h, k]] = -sn [[a, b, c], [d, e, f], [g, h, k]]; unfold sn; grind⟩
    · exact ⟨.inr ⟨rfl, _, _, _, _, _, _, _, _, _, rfl⟩, by show sn [[a, b, c], [-d, -e, -f], [g, h, k]] = -sn [[a, b, c], [d, e, f], [g, h, k]]; unfold sn; grind⟩
    · exact ⟨.inr ⟨rfl, _, _, _, _, _, _, _, _, _, rfl⟩, by show sn [[a, b, c], [d, e, f], [-g, -h, -k]] = -sn [[a, b, c], [d, e, f], [g, h, k]]; unfold sn; grind⟩
theorem step_add {n : Nat} {X : List (List Int)} (h : Sh n X) {i j : Nat} (hi : i < n) (hj : j < n) (ne : i ≠ j) (y : Int) : Sh n (X.set i (addR n y (rw_ X i) (rw_ X j))) ∧ sn (X.set i (addR n y (rw_ X i) (rw_ X j))) = sn X := by
  rcases h with ⟨rfl, a, b, c, d, rfl⟩ | ⟨rfl, a, b, c, d, e, f, g, h, k, rfl⟩
  · have : (i = 0 ∧ j = 1) ∨ (i = 1 ∧ j = 0) := by omega
    rcases this with ⟨rfl, rfl⟩ | ⟨rfl, rfl⟩
    · exact ⟨.inl ⟨rfl, _, _, _, _, rfl⟩, by show sn [[a + y * c, b + y * d], [c, d]] = sn [[a, b], [c, d]]; unfold sn; grind⟩
    · exact ⟨.inl ⟨rfl, _, _, _, _, rfl⟩, by show sn [[a, b], [c + y * a, d + y * b]] = sn [[a, b], [c, d]]; unfold sn; grind⟩
  · have : (i = 0 ∧ j = 1) ∨ (i = 1 ∧ j = 0) ∨ (i = 0 ∧ j = 2) ∨ (i = 2 ∧ j = 0) ∨ (i = 1 ∧ j = 2) ∨ (i = 2 ∧ j = 1) := by omega
    rcases this with ⟨rfl, rfl⟩ | ⟨rfl, rfl⟩ | ⟨rfl, rfl⟩ | ⟨rfl, rfl⟩ | ⟨rfl, rfl⟩ | ⟨rfl, rfl⟩
    · exact ⟨.inr ⟨rfl, _, _, _, _, _, _, _, _, _, rfl⟩, by show sn [[a + y * d, b + y * e, c + y * f], [d, e, f], [g, h, k]] = sn [[a, b, c], [d, e, f], [g, h, k]]; unfold sn; grind⟩
    · exact ⟨.inr ⟨rfl, _, _, _, _, _, _, _, _, _, rfl⟩, by show sn [[a, b, c], [d + y * a, e + y * b, f + y * c], [g, h, k]] = sn [[a, b, c], [d, e, f], [g, h, k]]; unfold sn; grind⟩
    · exact ⟨.inr ⟨rfl, _, _, _, _, _, _, _, _, _, rfl⟩, by show sn [[a + y * g, b + y * h, c + y * k], [d, e, f], [g, h, k]] = sn [[a, b, c], [d, e, f], [g, h, k]]; unfold sn; grind⟩
    · exact ⟨.inr ⟨rfl, _, _, _, _, _, _, _, _, _, rfl⟩, by show sn [[a, b, c], [d, e, f], [g + y * a, h + y * b, k + y * c]] = sn [[a, b, c], [d, e, f], [g, h, k]]; unfold sn; grind⟩
    · exact ⟨.inr ⟨rfl, _, _, _, _, _, _, _, _, _, rfl⟩, by show sn [[a, b, c], [d + y * g, e + y * h, f + y * k], [g, h, k]] = sn [[a, b, c], [d, e, f], [g, h, k]]; unfold sn; grind⟩
    · exact ⟨.inr ⟨rfl, _, _, _, _, _, _, _, _, _, rfl⟩, by show sn [[a, b, c], [d, e, f], [g + y * d, h + y * e, k + y * f]] = sn [[a, b, c], [d, e, f], [g, h, k]]; unfold sn; grind⟩
end DL

namespace DL
open PySem PySem.Spec PyProof.Rows L2
/-! deeds as triples: what comes of two, back, still -/
def mvA (n : Nat) (O : List (List Int)) (s : List Int) (v : Int) (t : List Int) (u : Int) : List Int := (List.range n).map fun i => (led O t).getD i 0 * v + s.getD i 0 * u
theorem mvA_len {n : Nat} {O : List (List Int)} {s : List Int} {v : Int} {t : List Int} {u : Int} : (mvA n O s v t u).length = n := by unfold mvA; rw [List.length_map, List.length_range]
def idm (d : Nat) : List (List Int) := (List.range d).map fun (i : Nat) => (List.range d).map fun (j : Nat) => if decide ((i : Int) = (j : Int)) = true then 1 else 0
theorem wgetD_rng {f : Nat → Int} {n k : Nat} : ((List.range n).map f).getD k 0 = if k < n then f k else 0 := by
  rw [getD_map' (d := 0), List.length_range]
  by_cases h : k < n
  · rw [if_pos h, if_pos h, List.getD_eq_getElem?_getD, List.getElem?_range h]; rfl
  · rw [if_neg h, if_neg h]
theorem wgetD_out {t : List Int} {k : Nat} (h : ¬ k < t.length) : t.getD k 0 = 0 := by
  rw [List.getD_eq_getElem?_getD, List.getElem?_eq_none (by omega)]; rfl
structure Tr where
  M : List (List Int)
  t : List Int
  u : Int
structure TOk (n : Nat) (A : Tr) : Prop where
  sh : Sh n A.M
  sg : sn A.M = 1 ∨ sn A.M = -1
  tl : A.t.length = n
  u0 : 0 < A.u
structure Okk (n : Nat) (A : Tr) : Prop extends TOk n A where
  lo : low A.u A.t
def nm (A : Tr) : Tr := ⟨A.M, pts A.u A.t, pun A.u A.t⟩
def rawB (n : Nat) (A B : Tr) : Tr := ⟨pm B.M A.M, mvA n B.M B.t B.u A.t A.u, B.u * A.u⟩
def bh (n : Nat) (A B : Tr) : Tr := nm (rawB n A B)
def rawW (A : Tr) : Tr := ⟨adj A.M, (led (adj A.M) A.t).map fun x => -x, A.u⟩
def bk (A : Tr) : Tr := nm (rawW A)
def stl (n : Nat) : Tr := ⟨idm n, List.replicate n 0, 1⟩
/-- of the same worth -/
structure Ev (A B : Tr) : Prop where
  M : A.M = B.M
  tl : A.t.length = B.t.length
  w : ∀ k, A.t.getD k 0 * B.u = B.t.getD k 0 * A.u
theorem Ev.symm {A B : Tr} (h : Ev A B) : Ev B A := ⟨h.M.symm, h.tl.symm, fun k => (h.w k).symm⟩
theorem Ev.refl {A : Tr} : Ev A A := ⟨rfl, rfl, fun k => rfl⟩
theorem Ev.trans {A B C : Tr} (hB : 0 < B.u) (h : Ev A B) (k : Ev B C) : Ev A C := ⟨h.M.trans k.M, h.tl.trans k.tl, fun j => by
  have h1 := h.w j
  have h2 := k.w j
  have : (A.t.getD j 0 * C.u) * B.u = (C.t.getD j 0 * A.u) * B.u := by grind
  exact Int.eq_of_mul_eq_mul_right (by omega) this⟩
theorem nm_ok {n : Nat} {A : Tr} (h : TOk n A) : Okk n (nm A) := { sh := h.sh, sg := h.sg, tl := (List.length_map _).trans h.tl, u0 := pun_pos (by have := h.u0; omega), lo := pl_low (by have := h.u0; omega) }
theorem nm_ev {A : Tr} (h : 0 < A.u) : Ev (nm A) A := ⟨rfl, List.length_map _, fun k => by
  show (pts A.u A.t).getD k 0 * A.u = A.t.getD k 0 * pun A.u A.t
  have h1 := pun_mul (u := A.u) (ns := A.t) (by omega)
  unfold pts
  rw [getD_map' (d := 0)]
  by_cases hk : k < A.t.length
  · rw [if_pos hk]
    have hm : A.t.getD k 0 ∈ A.t := by rw [List.getD_eq_getElem?_getD, List.getElem?_eq_getElem hk]; exact List.getElem_mem hk
    have h2 := mul_div_of (pby_ne (ns := A.t) (u := A.u) (by omega)) (pby_dvd.2 _ hm)
    grind
  · rw [if_neg hk, wgetD_out hk]; omega⟩
theorem nm_low {A : Tr} (h : 0 < A.u) (l : low A.u A.t) : nm A = A := by
  unfold nm
  rw [pts_low h l, pun_low h l]
theorem gd_mul {a b U : Int} (h : 0 ≤ U) : gd (a * U) (b * U) = gd a b * U := by
  obtain ⟨m, rfl⟩ := Int.eq_ofNat_of_zero_le h
  unfold gd
  rw [Int.natAbs_mul, Int.natAbs_mul, Int.natAbs_natCast, Nat.gcd_mul_right, Int.natCast_mul]
theorem gdl_mul {U : Int} (h : 0 ≤ U) : ∀ (ns : List Int) (b : Int), gdl (b * U) (ns.map (· * U)) = gdl b ns * U
  | [], b => rfl
  | n :: r, b => by
    rw [List.map_cons, gdl_cons, gdl_cons, gd_mul h, gdl_mul h r]
/-- what divides all tops, so many times, divides so many -/
theorem low_dvd {v U : Int} {qs : List Int} (h0 : 0 ≤ U) (hl : low v qs) (h : ∀ q ∈ qs, v ∣ q * U) : v ∣ U := by
  have : v ∣ gdl (v * U) (qs.map (· * U)) := dvd_gdl ⟨U, rfl⟩ fun x hx => by
    obtain ⟨q, hq, rfl⟩ := List.mem_map.mp hx
    exact h q hq
  rw [gdl_mul h0, show gdl v qs = 1 from hl, Int.one_mul] at this
  exact this
theorem ev_dvd {n : Nat} {A B : Tr} (hA : Okk n A) (hB : 0 < B.u) (h : Ev A B) : A.u ∣ B.u := low_dvd (by omega) hA.lo fun q hq => by
  obtain ⟨k, hk, rfl⟩ := List.getElem_of_mem hq
  have e := h.w k
  rw [show A.t.getD k 0 = A.t[k] by rw [List.getD_eq_getElem?_getD, List.getElem?_eq_getElem hk]; rfl] at e
  exact ⟨B.t.getD k 0, by grind⟩
theorem ev_eq {n : Nat} {A B : Tr} (hA : Okk n A) (hB : Okk n B) (h : Ev A B) : A = B := by
  have e : A.u = B.u := Int.dvd_antisymm (by have := hA.u0; omega) (by have := hB.u0; omega) (ev_dvd hA hB.u0 h) (ev_dvd hB hA.u0 h.symm)
  have t : A.t = B.t := by
    refine List.ext_getElem h.tl fun k h1 h2 => ?_
    have w := h.w k
    rw [show A.t.getD k 0 = A.t[k] by rw [List.getD_eq_getElem?_getD, List.getElem?_eq_getElem h1]; rfl, show B.t.getD k 0 = B.t[k] by rw [List.getD_eq_getElem?_getD, List.getElem?_eq_getElem h2]; rfl, e] at w
    exact Int.eq_of_mul_eq_mul_right (by have := hB.u0; omega) w
  cases A; cases B
  cases h.M; cases t; cases e
  rfl
/-! the explicit shapes -/
theorem len2 {t : List Int} (h : t.length = 2) : ∃ x y, t = [x, y] := by
  match t, h with
  | [x, y], _ => exact ⟨x, y, rfl⟩
theorem len3 {t : List Int} (h : t.length = 3) : ∃ x y z, t = [x, y, z] := by
  match t, h with
  | [x, y, z], _ => exact ⟨x, y, z, rfl⟩
theorem pm2 {a b c d p q r s : Int} : pm [[a, b], [c, d]] [[p, q], [r, s]] = [[a * p + b * r, a * q + b * s], [c * p + d * r, c * q + d * s]] := by
  show [[a * p + (b * r + 0), a * q + (b * s + 0)], [c * p + (d * r + 0), c * q + (d * s + 0)]] = _
  simp only [Int.add_zero]
theorem pm3 {a b c d e f g h i a' b' c' d' e' f' g' h' i' : Int} : pm [[a, b, c], [d, e, f], [g, h, i]] [[a', b', c'], [d', e', f'], [g', h', i']] = [[a * a' + (b * d' + c * g'), a * b' + (b * e' + c * h'), a * c' + (b * f' + c * i')], [d * a' + (e * d' + f * g'), d * b' + (e * e' + f * h'), d * c' + (e * f' + f * i')], [g * a' + (h * d' + i * g'), g * b' + (h * e' + i * h'), g * c' + (h * f' + i * i')]] := by
  show [[a * a' + (b * d' + (c * g' + 0)), a * b' + (b * e' + (c * h' + 0)), a * c' + (b * f' + (c * i' + 0))], [d * a' + (e * d' + (f * g' + 0)), d * b' + (e * e' + (f * h' + 0)), d * c' + (e * f' + (f * i' + 0))], [g * a' + (h * d' + (i * g' + 0)), g * b' + (h * e' + (i * h' + 0)), g * c' + (h * f' + (i * i' + 0))]] = _
  simp only [Int.add_zero]
theorem led2 {a b c d x y : Int} : led [[a, b], [c, d]] [x, y] = [a * x + b * y, c * x + d * y] := by
  show [a * x + (b * y + 0), c * x + (d * y + 0)] = _
  simp only [Int.add_zero]
theorem led3 {a b c d e f g h i x y z : Int} : led [[a, b, c], [d, e, f], [g, h, i]] [x, y, z] = [a * x + (b * y + c * z), d * x + (e * y + f * z), g * x + (h * y + i * z)] := by
  show [a * x + (b * y + (c * z + 0)), d * x + (e * y + (f * z + 0)), g * x + (h * y + (i * z + 0))] = _
  simp only [Int.add_zero]
theorem mv2 {O : List (List Int)} {l1 l2 s1 s2 v u : Int} {t : List Int} (h : led O t = [l1, l2]) : mvA 2 O [s1, s2] v t u = [l1 * v + s1 * u, l2 * v + s2 * u] := by
  unfold mvA
  rw [h]
  rfl
theorem mv3 {O : List (List Int)} {l1 l2 l3 s1 s2 s3 v u : Int} {t : List Int} (h : led O t = [l1, l2, l3]) : mvA 3 O [s1, s2, s3] v t u = [l1 * v + s1 * u, l2 * v + s2 * u, l3 * v + s3 * u] := by
  unfold mvA
  rw [h]
  rfl
theorem Tr.ext' {A B : Tr} (h1 : A.M = B.M) (h2 : A.t = B.t) (h3 : A.u = B.u) : A = B := by
  cases A; cases B; cases h1; cases h2; cases h3; rfl
/-- a triple, spelt out -/
theorem TOk.cs {n : Nat} {A : Tr} (h : TOk n A) : (n = 2 ∧ ∃ a b c d x y u, A = ⟨[[a, b], [c, d]], [x, y], u⟩) ∨ (n = 3 ∧ ∃ a b c d e f g h i x y z u, A = ⟨[[a, b, c], [d, e, f], [g, h, i]], [x, y, z], u⟩) := by
  obtain ⟨M, t, u⟩ := A
  rcases h.sh with ⟨rfl, a, b, c, d, e⟩ | ⟨rfl, a, b, c, d, e', f, g, h', i, e⟩
  · obtain ⟨x, y, k⟩ := len2 h.tl
    refine .inl ⟨rfl, a, b, c, d, x, y, u, ?_⟩
    exact Tr.ext' e k rfl
  · obtain ⟨x, y, z, k⟩ := len3 h.tl
    refine .inr ⟨rfl, a, b, c, d, e', f, g, h', i, x, y, z, u, ?_⟩
    exact Tr.ext' e k rfl
theorem raw_ok {n : Nat} {A B : Tr} (hA : TOk n A) (hB : TOk n B) : TOk n (rawB n A B) where
  sh := (pm_sh hB.sh hA.sh).1
  sg := by
    show sn (pm B.M A.M) = 1 ∨ _
    show sn (pm B.M A.M) = 1 ∨ sn (pm B.M A.M) = -1
    rw [(pm_sh hB.sh hA.sh).2]
    rcases hA.sg with h | h <;> rcases hB.sg with k | k <;> rw [h, k] <;> decide
  tl := mvA_len
  u0 := Int.mul_pos hB.u0 hA.u0
theorem rawW_ok {n : Nat} {A : Tr} (hA : TOk n A) : TOk n (rawW A) where
  sh := (adj_sh hA.sh hA.sg).1
  sg := (adj_sh hA.sh hA.sg).2
  tl := by
    show ((led (adj A.M) A.t).map fun x => -x).length = n
    rw [List.length_map, led_len, (adj_sh hA.sh hA.sg).1.len.1]
  u0 := hA.u0
theorem bh_ok {n : Nat} {A B : Tr} (hA : TOk n A) (hB : TOk n B) : Okk n (bh n A B) := nm_ok (raw_ok hA hB)
theorem bk_ok {n : Nat} {A : Tr} (hA : TOk n A) : Okk n (bk A) := nm_ok (rawW_ok hA)
theorem assoc_raw {n : Nat} {A B C : Tr} (hA : TOk n A) (hB : TOk n B) (hC : TOk n C) : rawB n (rawB n A B) C = rawB n A (rawB n B C) := by
  rcases hA.cs with ⟨rfl, a1, a2, a3, a4, ax, ay, au, rfl⟩ | ⟨rfl, a1, a2, a3, a4, a5, a6, a7, a8, a9, ax, ay, az, au, rfl⟩
  · rcases hB.cs with ⟨_, b1, b2, b3, b4, bx, by_, bu, rfl⟩ | ⟨z, _⟩
    · rcases hC.cs with ⟨_, c1, c2, c3, c4, cx, cy, cu, rfl⟩ | ⟨z, _⟩
      · unfold rawB
        simp only [pm2, mv2 led2]
        refine Tr.ext' ?_ ?_ ?_
        · simp only [List.cons.injEq, and_true]
          refine ⟨⟨?_, ?_⟩, ?_, ?_⟩ <;> grind
        · simp only [List.cons.injEq, and_true]
          refine ⟨?_, ?_⟩ <;> grind
        · show cu * (bu * au) = cu * bu * au
          grind
      · omega
    · omega
  · rcases hB.cs with ⟨z, _⟩ | ⟨_, b1, b2, b3, b4, b5, b6, b7, b8, b9, bx, by_, bz, bu, rfl⟩
    · omega
    · rcases hC.cs with ⟨z, _⟩ | ⟨_, c1, c2, c3, c4, c5, c6, c7, c8, c9, cx, cy, cz, cu, rfl⟩
      · omega
      · unfold rawB
        simp only [pm3, mv3 led3]
        refine Tr.ext' ?_ ?_ ?_
        · simp only [List.cons.injEq, and_true]
          refine ⟨⟨?_, ?_, ?_⟩, ⟨?_, ?_, ?_⟩, ?_, ?_, ?_⟩ <;> grind
        · simp only [List.cons.injEq, and_true]
          refine ⟨?_, ?_, ?_⟩ <;> grind
        · show cu * (bu * au) = cu * bu * au
          grind
/-! worth -/
theorem sum_mul (f : Nat → Int) (c : Int) : ∀ l : List Nat, (l.map f).sum * c = (l.map fun x => f x * c).sum
  | [] => Int.zero_mul c
  | x :: r => by rw [List.map_cons, List.map_cons, List.sum_cons, List.sum_cons, Int.add_mul, sum_mul f c r]
theorem dtn_w {n : Nat} {r t t' : List Int} {u u' : Int} (h : ∀ k, t.getD k 0 * u' = t'.getD k 0 * u) : dtn n r t * u' = dtn n r t' * u := by
  unfold dtn
  rw [sum_mul, sum_mul]
  refine congrArg List.sum (List.map_congr_left fun k _ => ?_)
  have := h k
  grind
theorem led_w {X : List (List Int)} {t t' : List Int} {u u' : Int} (hl : t.length = t'.length) (h : ∀ k, t.getD k 0 * u' = t'.getD k 0 * u) (k : Nat) : (led X t).getD k 0 * u' = (led X t').getD k 0 * u := by
  unfold led
  rw [getD_map' (d := []), getD_map' (d := []), hl]
  by_cases hk : k < X.length
  · rw [if_pos hk, if_pos hk]; exact dtn_w h
  · rw [if_neg hk, if_neg hk]; omega
theorem raw_ev {n : Nat} {A A' B B' : Tr} (hA : Ev A A') (hB : Ev B B') : Ev (rawB n A B) (rawB n A' B') := ⟨by
  show pm B.M A.M = pm B'.M A'.M
  rw [hA.M, hB.M], by
  show (mvA _ _ _ _ _ _).length = (mvA _ _ _ _ _ _).length
  rw [mvA_len, mvA_len], fun k => by
  show (mvA n B.M B.t B.u A.t A.u).getD k 0 * (B'.u * A'.u) = (mvA n B'.M B'.t B'.u A'.t A'.u).getD k 0 * (B.u * A.u)
  unfold mvA
  rw [wgetD_rng, wgetD_rng]
  by_cases hk : k < n
  · rw [if_pos hk, if_pos hk, ← hB.M]
    have h1 := led_w (X := B.M) hA.tl hA.w k
    have h2 := hB.w k
    generalize (led B.M A.t).getD k 0 = p at *
    generalize (led B.M A'.t).getD k 0 = q at *
    grind
  · rw [if_neg hk, if_neg hk]; omega⟩
theorem rawW_ev {A A' : Tr} (hA : Ev A A') : Ev (rawW A) (rawW A') := ⟨by
  show adj A.M = adj A'.M
  rw [hA.M], by
  show ((led (adj A.M) A.t).map _).length = ((led (adj A'.M) A'.t).map _).length
  rw [List.length_map, List.length_map, led_len, led_len, hA.M], fun k => by
  show ((led (adj A.M) A.t).map fun x => -x).getD k 0 * A'.u = ((led (adj A'.M) A'.t).map fun x => -x).getD k 0 * A.u
  rw [getD_map' (d := 0), getD_map' (d := 0), led_len, led_len, ← hA.M]
  by_cases hk : k < (adj A.M).length
  · rw [if_pos hk, if_pos hk]
    have h1 := led_w (X := adj A.M) hA.tl hA.w k
    generalize (led (adj A.M) A.t).getD k 0 = p at *
    generalize (led (adj A.M) A'.t).getD k 0 = q at *
    grind
  · rw [if_neg hk, if_neg hk]; omega⟩
theorem bh_assoc {n : Nat} {A B C : Tr} (hA : TOk n A) (hB : TOk n B) (hC : TOk n C) : bh n (bh n A B) C = bh n A (bh n B C) := by
  have a := raw_ok hA hB
  have b := raw_ok hB hC
  have ab := bh_ok hA hB
  have bc := bh_ok hB hC
  refine ev_eq (bh_ok ab.toTOk hC) (bh_ok hA bc.toTOk) ?_
  have e1 : Ev (bh n (bh n A B) C) (rawB n (rawB n A B) C) := (nm_ev (raw_ok ab.toTOk hC).u0).trans (raw_ok ab.toTOk hC).u0 (raw_ev (nm_ev a.u0) Ev.refl)
  have e2 : Ev (bh n A (bh n B C)) (rawB n A (rawB n B C)) := (nm_ev (raw_ok hA bc.toTOk).u0).trans (raw_ok hA bc.toTOk).u0 (raw_ev Ev.refl (nm_ev b.u0))
  rw [assoc_raw hA hB hC] at e1
  exact e1.trans (raw_ok hA b).u0 e2.symm
/-! still -/
theorem idm2 : idm 2 = [[1, 0], [0, 1]] := rfl
theorem idm3 : idm 3 = [[1, 0, 0], [0, 1, 0], [0, 0, 1]] := rfl
theorem stl_ok {n : Nat} (hn : n = 2 ∨ n = 3) : Okk n (stl n) where
  sh := by
    rcases hn with rfl | rfl
    · exact .inl ⟨rfl, _, _, _, _, rfl⟩
    · exact .inr ⟨rfl, _, _, _, _, _, _, _, _, _, rfl⟩
  sg := by rcases hn with rfl | rfl <;> exact .inl (by decide)
  tl := List.length_replicate
  u0 := by show (0 : Int) < 1; decide
  lo := by
    rcases hn with rfl | rfl
    · exact (by decide : gdl 1 [0, 0] = 1)
    · exact (by decide : gdl 1 [0, 0, 0] = 1)
theorem Okk.nmz {n : Nat} {A : Tr} (h : Okk n A) : nm A = A := nm_low h.u0 h.lo
theorem raw_stl_l {n : Nat} {A : Tr} (hA : TOk n A) : rawB n (stl n) A = A := by
  rcases hA.cs with ⟨rfl, a1, a2, a3, a4, ax, ay, au, rfl⟩ | ⟨rfl, a1, a2, a3, a4, a5, a6, a7, a8, a9, ax, ay, az, au, rfl⟩
  · refine Tr.ext' ?_ ?_ (Int.mul_one _)
    · show pm [[a1, a2], [a3, a4]] [[1, 0], [0, 1]] = [[a1, a2], [a3, a4]]
      rw [pm2]; simp
    · show mvA 2 [[a1, a2], [a3, a4]] [ax, ay] au [0, 0] 1 = [ax, ay]
      rw [mv2 led2]; simp
  · refine Tr.ext' ?_ ?_ (Int.mul_one _)
    · show pm [[a1, a2, a3], [a4, a5, a6], [a7, a8, a9]] [[1, 0, 0], [0, 1, 0], [0, 0, 1]] = [[a1, a2, a3], [a4, a5, a6], [a7, a8, a9]]
      rw [pm3]; simp
    · show mvA 3 [[a1, a2, a3], [a4, a5, a6], [a7, a8, a9]] [ax, ay, az] au [0, 0, 0] 1 = [ax, ay, az]
      rw [mv3 led3]; simp
theorem raw_stl_r {n : Nat} {A : Tr} (hA : TOk n A) : rawB n A (stl n) = A := by
  rcases hA.cs with ⟨rfl, a1, a2, a3, a4, ax, ay, au, rfl⟩ | ⟨rfl, a1, a2, a3, a4, a5, a6, a7, a8, a9, ax, ay, az, au, rfl⟩
  · refine Tr.ext' ?_ ?_ (Int.one_mul _)
    · show pm [[1, 0], [0, 1]] [[a1, a2], [a3, a4]] = [[a1, a2], [a3, a4]]
      rw [pm2]; simp
    · show mvA 2 [[1, 0], [0, 1]] [0, 0] 1 [ax, ay] au = [ax, ay]
      rw [mv2 led2]; simp
  · refine Tr.ext' ?_ ?_ (Int.one_mul _)
    · show pm [[1, 0, 0], [0, 1, 0], [0, 0, 1]] [[a1, a2, a3], [a4, a5, a6], [a7, a8, a9]] = [[a1, a2, a3], [a4, a5, a6], [a7, a8, a9]]
      rw [pm3]; simp
    · show mvA 3 [[1, 0, 0], [0, 1, 0], [0, 0, 1]] [0, 0, 0] 1 [ax, ay, az] au = [ax, ay, az]
      rw [mv3 led3]; simp
theorem bh_stl_l {n : Nat} {A : Tr} (hA : Okk n A) : bh n (stl n) A = A := by
  unfold bh; rw [raw_stl_l hA.toTOk, hA.nmz]
theorem bh_stl_r {n : Nat} {A : Tr} (hA : Okk n A) : bh n A (stl n) = A := by
  unfold bh; rw [raw_stl_r hA.toTOk, hA.nmz]
/-! the way back -/
theorem adj2 {a b c d : Int} : adj [[a, b], [c, d]] = [[sn [[a, b], [c, d]] * d, -sn [[a, b], [c, d]] * b], [-sn [[a, b], [c, d]] * c, sn [[a, b], [c, d]] * a]] := rfl
theorem adj3 {a b c d e f g h i : Int} : adj [[a, b, c], [d, e, f], [g, h, i]] = [[sn [[a, b, c], [d, e, f], [g, h, i]] * (e * i - f * h), sn [[a, b, c], [d, e, f], [g, h, i]] * (h * c - i * b), sn [[a, b, c], [d, e, f], [g, h, i]] * (b * f - c * e)], [sn [[a, b, c], [d, e, f], [g, h, i]] * (f * g - d * i), sn [[a, b, c], [d, e, f], [g, h, i]] * (i * a - g * c), sn [[a, b, c], [d, e, f], [g, h, i]] * (c * d - a * f)], [sn [[a, b, c], [d, e, f], [g, h, i]] * (d * h - e * g), sn [[a, b, c], [d, e, f], [g, h, i]] * (g * b - h * a), sn [[a, b, c], [d, e, f], [g, h, i]] * (a * e - b * d)]] := rfl
theorem pm_adj {n : Nat} {M : List (List Int)} (h : Sh n M) (s : sn M = 1 ∨ sn M = -1) : pm (adj M) M = idm n ∧ pm M (adj M) = idm n := by
  rcases h with ⟨rfl, a, b, c, d, rfl⟩ | ⟨rfl, a, b, c, d, e, f, g, h, i, rfl⟩
  · have ss : sn [[a, b], [c, d]] * (a * d - b * c) = 1 := by
      rcases s with h | h <;> (have h' : a * d - b * c = _ := h; rw [h, h']; decide)
    rw [adj2]
    generalize sn [[a, b], [c, d]] = y at ss
    rw [pm2, pm2, idm2]
    simp only [List.cons.injEq, and_true]
    refine ⟨⟨⟨?_, ?_⟩, ?_, ?_⟩, ⟨?_, ?_⟩, ?_, ?_⟩ <;> grind
  · have ss : sn [[a, b, c], [d, e, f], [g, h, i]] * (a * (e * i - f * h) + b * (f * g - d * i) + c * (d * h - e * g)) = 1 := by
      rcases s with k | k <;> (have h' : a * (e * i - f * h) + b * (f * g - d * i) + c * (d * h - e * g) = _ := k; rw [k, h']; decide)
    rw [adj3]
    generalize sn [[a, b, c], [d, e, f], [g, h, i]] = y at ss
    rw [pm3, pm3, idm3]
    simp only [List.cons.injEq, and_true]
    refine ⟨⟨⟨?_, ?_, ?_⟩, ⟨?_, ?_, ?_⟩, ?_, ?_, ?_⟩, ⟨?_, ?_, ?_⟩, ⟨?_, ?_, ?_⟩, ?_, ?_, ?_⟩ <;> grind
theorem raw_back {n : Nat} {A : Tr} (hA : TOk n A) : Ev (rawB n A (rawW A)) (stl n) := ⟨(pm_adj hA.sh hA.sg).1, by
  show (mvA _ _ _ _ _ _).length = (List.replicate n 0).length
  rw [mvA_len, List.length_replicate], fun k => by
  show (mvA n (adj A.M) ((led (adj A.M) A.t).map fun x => -x) A.u A.t A.u).getD k 0 * 1 = (List.replicate n (0 : Int)).getD k 0 * (A.u * A.u)
  have z : (List.replicate n (0 : Int)).getD k 0 = 0 := by
    by_cases h : k < n
    · rw [List.getD_eq_getElem?_getD, List.getElem?_eq_getElem (by rw [List.length_replicate]; exact h), List.getElem_replicate]; rfl
    · exact wgetD_out (by rw [List.length_replicate]; exact h)
  rw [z]
  unfold mvA
  rw [wgetD_rng]
  by_cases h : k < n
  · have l : k < (led (adj A.M) A.t).length := by rw [led_len, (adj_sh hA.sh hA.sg).1.len.1]; exact h
    rw [if_pos h, getD_map' (d := 0), if_pos l]
    grind
  · rw [if_neg h]; omega⟩
theorem bh_bk {n : Nat} {A : Tr} (hA : TOk n A) : bh n A (bk A) = stl n := by
  have w := rawW_ok hA
  have k := bk_ok hA
  refine ev_eq (bh_ok hA k.toTOk) (stl_ok hA.sh.n) ?_
  have e1 : Ev (bh n A (bk A)) (rawB n A (rawW A)) := (nm_ev (raw_ok hA k.toTOk).u0).trans (raw_ok hA k.toTOk).u0 (raw_ev Ev.refl (nm_ev w.u0))
  exact e1.trans (raw_ok hA w).u0 (raw_back hA)
theorem bk_bk {n : Nat} {A : Tr} (hA : Okk n A) : bk (bk A) = A := by
  have k := bk_ok hA.toTOk
  have k2 := bk_ok k.toTOk
  have h1 := bh_bk hA.toTOk
  have h2 := bh_bk k.toTOk
  have h3 := bh_assoc hA.toTOk k.toTOk k2.toTOk
  rw [h1, h2, bh_stl_l k2, bh_stl_r hA] at h3
  exact h3
theorem bk_bh {n : Nat} {A : Tr} (hA : Okk n A) : bh n (bk A) A = stl n := by
  have h := bh_bk (bk_ok hA.toTOk).toTOk
  rwa [bk_bk hA] at h
/-! so many times -/
def pw (n : Nat) (A : Tr) : Nat → Tr
  | 0 => stl n
  | k + 1 => bh n (pw n A k) A
theorem pw_ok {n : Nat} {A : Tr} (hA : Okk n A) : ∀ k, Okk n (pw n A k)
  | 0 => stl_ok hA.sh.n
  | k + 1 => bh_ok (pw_ok hA k).toTOk hA.toTOk
theorem pw_one {n : Nat} {A : Tr} (hA : Okk n A) : pw n A 1 = A := bh_stl_l hA
theorem pw_add {n : Nat} {A : Tr} (hA : Okk n A) (a : Nat) : ∀ b, bh n (pw n A a) (pw n A b) = pw n A (a + b)
  | 0 => bh_stl_r (pw_ok hA a)
  | b + 1 => by
    show bh n (pw n A a) (bh n (pw n A b) A) = bh n (pw n A (a + b)) A
    rw [← pw_add hA a b, bh_assoc (pw_ok hA a).toTOk (pw_ok hA b).toTOk hA.toTOk]
theorem pw_back {n : Nat} {A : Tr} (hA : Okk n A) (k : Nat) : bh n (pw n (bk A) (k + 1)) A = pw n (bk A) k := by
  have w := bk_ok hA.toTOk
  show bh n (bh n (pw n (bk A) k) (bk A)) A = _
  rw [bh_assoc (pw_ok w k).toTOk w.toTOk hA.toTOk, bk_bh hA, bh_stl_r (pw_ok w k)]
/-! the under divides -/
theorem bh_dvd {n : Nat} {A B : Tr} (hA : TOk n A) (hB : TOk n B) {U : Int} (h0 : 0 ≤ U) (ha : A.u ∣ U) (hb : B.u ∣ U) : (bh n A B).u ∣ U := low_dvd h0 (bh_ok hA hB).lo fun q hq => by
  obtain ⟨k, hk, rfl⟩ := List.getElem_of_mem hq
  have w := (nm_ev (raw_ok hA hB).u0).w k
  have hk' : k < n := by rw [← (bh_ok hA hB).tl]; exact hk
  have e1 : (nm (rawB n A B)).t.getD k 0 = (bh n A B).t[k] := by rw [List.getD_eq_getElem?_getD, List.getElem?_eq_getElem (show k < (nm (rawB n A B)).t.length from hk)]; rfl
  have e2 : (rawB n A B).t.getD k 0 = (led B.M A.t).getD k 0 * B.u + B.t.getD k 0 * A.u := by
    show (mvA _ _ _ _ _ _).getD k 0 = _
    unfold mvA
    rw [wgetD_rng, if_pos hk']
  rw [e1, e2] at w
  have w : (bh n A B).t[k] * (B.u * A.u) = ((led B.M A.t).getD k 0 * B.u + B.t.getD k 0 * A.u) * (bh n A B).u := w
  obtain ⟨a, ha⟩ := ha
  obtain ⟨b, hb⟩ := hb
  have p : 0 < B.u * A.u := (raw_ok hA hB).u0
  generalize (led B.M A.t).getD k 0 = l at w
  generalize B.t.getD k 0 = s at w
  generalize (bh n A B).t[k] = q at w
  generalize (bh n A B).u = v at w
  refine ⟨l * a + s * b, ?_⟩
  refine Int.eq_of_mul_eq_mul_right (a := B.u * A.u) (by omega) ?_
  have h1 : l * B.u * U = l * a * (B.u * A.u) := by rw [ha]; grind
  have h2 : s * A.u * U = s * b * (B.u * A.u) := by rw [hb]; grind
  grind
theorem bk_dvd {n : Nat} {A : Tr} (hA : TOk n A) : (bk A).u ∣ A.u := ev_dvd (B := rawW A) (bk_ok hA) hA.u0 (nm_ev (A := rawW A) hA.u0)
theorem pw_dvd {n : Nat} {A : Tr} (hA : Okk n A) {U : Int} (h0 : 0 ≤ U) (h : A.u ∣ U) : ∀ k, (pw n A k).u ∣ U
  | 0 => Int.one_dvd U
  | k + 1 => bh_dvd (pw_ok hA k).toTOk hA.toTOk h0 (pw_dvd hA h0 h k) h
end DL

/-! DLx: str(int), max of a list, extend, clear, pop of own lists. -/
namespace DL
open PySem PySem.Spec PyProof.Rows L2 Evl
section
variable {X : Cx} {W : WX} {a b c e : Expr} {es : List Expr} {fa fb fc : M D} {pos : Pos} {N : List Str} {sc raw : Scope} {f : M (List D)}
def StrIOk (i : Int) : Prop := i.natAbs.log2 < 1920
instance (i : Int) : Decidable (StrIOk i) := by unfold StrIOk; infer_instance
def cStr : List D → M D := fun ds => match ds with | [.int i] => if StrIOk i then ret (.str (toString i)) else stk | _ => stk
theorem je_strC {p : Pos} {f : M (List D)} (V : Nm X N sc raw) (hG : okG sc "str" = true) (hm : X.mg "str" = none) (ja : JA X W [a] f) (he : starEach [a] X.env = (false, eval a X.env) :: starEach [] X.env := by rfl) : JE X W (.Call (.Name "str" p) [a] [] pos) (bnd f cStr) := by
  refine je_callTy call_str_int (fun ps σ Hf H env xs ds Q S rx q => ?_) V hG hm ja (by decide +kernel) he
  unfold cStr at q
  split at q
  · rename_i i
    by_cases h : StrIOk i
    · rw [if_pos h] at q
      cases rx with
      | cons r1 r2 => cases r2; rw [r1.int_inv]; exact ⟨_, rfl, h, q.ret S _ (.str _)⟩
    · rw [if_neg h] at q; exact q.elim
  · exact q.elim
/-! max(list of ints) -/
def mxI (n : Int) (r : List Int) : Int := r.foldl max n
theorem mxI_ok : ∀ (r : List Int) (n : Int), mxI n r ∈ n :: r ∧ ∀ y ∈ n :: r, y ≤ mxI n r
  | [], n => ⟨List.mem_cons_self, fun y h => by rw [List.mem_singleton.mp h]; exact Int.le_refl _⟩
  | x :: r, n => by
    obtain ⟨h1, h2⟩ := mxI_ok r (max n x)
    have e : mxI n (x :: r) = mxI (max n x) r := rfl
    rw [e]
    refine ⟨?_, fun y hy => ?_⟩
    · rcases List.mem_cons.mp h1 with h | h
      · rw [h]
        by_cases k : n ≤ x
        · rw [Int.max_eq_right k]; exact List.mem_cons_of_mem _ List.mem_cons_self
        · rw [Int.max_eq_left (by omega)]; exact List.mem_cons_self
      · exact List.mem_cons_of_mem _ (List.mem_cons_of_mem _ h)
    · have h3 := h2 (max n x) List.mem_cons_self
      rcases List.mem_cons.mp hy with h | h
      · rw [h]; omega
      · rcases List.mem_cons.mp h with h | h
        · rw [h]; omega
        · exact h2 y (List.mem_cons_of_mem _ h)
def oMx (o : Option (List Int)) : M D := match o with | some (n :: r) => ret (.int (mxI n r)) | _ => stk
def cMaxL : List D → M D := fun ds => match ds with | [.lst l] => oMx (asInts l) | _ => stk
theorem je_maxL {p : Pos} (C : CtxOk X W) (V : Nm X N sc raw) (hG : okG sc "max" = true) (hm : X.mg "max" = none) (ja : JA X W [a] f) (he : starEach [a] X.env = (false, eval a X.env) :: starEach [] X.env := by rfl) : JE X W (.Call (.Name "max" p) [a] [] pos) (bnd f cMaxL) := by
  refine je_callB (cr_max C.calm) (fun ps σ Hf H env xs ds Q S rx q => ?_) V hG hm ja (by decide +kernel) he
  unfold cMaxL at q
  split at q
  · rename_i l
    cases w : asInts l with
    | none => rw [w] at q; exact q.elim
    | some ns =>
      rw [w] at q
      cases ns with
      | nil => exact q.elim
      | cons n r0 =>
        have e := asInts_eq w
        subst e
        cases rx with
        | cons r1 r2 => cases r2; cases r1 with
          | lst hq r =>
            have ev := r.ints
            subst ev
            refine ⟨_, n :: r0, rfl, ex_l S.ex hq, by simp, fun m hm1 hm2 => ?_⟩
            obtain ⟨k1, k2⟩ := mxI_ok r0 n
            have : m = mxI n r0 := by
              have h1 := hm2 _ k1
              have h2 := k2 _ hm1
              omega
            rw [this]
            exact q.ret S _ (.int _)
  · exact q.elim
/-! x.extend(a new list) -/
def kExt (i : Nat) (l2 : List D) : M Fl := fun env => match ownAt env i with
  | some (k, l) => if l.length + l2.length ≤ sizeLine then .ok .nx (env.set i (.own k (.lst (l ++ l2)))) else .stuck
  | none => .stuck
def mExt (i : Nat) (f : M (List D)) : M Fl := fun env => match ownAt env i with | some _ => bnd f (kExt i) env | none => .stuck
theorem js_ext {x : Str} {i : Nat} {p1 p2 p3 pos2 : Pos} (V : Nm X N sc raw) (hv : okV N sc i x = true) (j : JF X W e f)
    (hbase : attributeBase (.Name x p1) "extend" X.env (eval (.Name x p1) X.env) = eval (.Name x p1) X.env := by rfl)
    (hfew : ((backTo p3 (starEach [e] X.env)).all (fun x => !x.1) && (backToKw p3 (keywordEach [] X.env)).all (fun x => x.1.isSome)
      && decide ([e].length + ([] : List Keyword).length + (if ([] : List Keyword).isEmpty then 0 else 1) < 30)) = true := by rfl)
    (hline : (p2.endLine == p3.line) = true := by rfl) (hs : starEach [e] X.env = (false, eval e X.env) :: starEach [] X.env := by rfl) (hplain : (backTo p3 (starEach [] X.env)).any (·.1) = false := by rfl)
    (hsw : swapsWith (.Call (.Attribute (.Name x p1) "extend" p2) [e] [] p3) none pos2.line X.env = pure false := by rfl) :
    JS X W (.Expr (.Call (.Attribute (.Name x p1) "extend" p2) [e] [] p3) pos2) (mExt i f) := by
  obtain ⟨hN, hvi, hd, hcd⟩ := V.v hv
  obtain ⟨t, p, h⟩ := j.ex
  refine ⟨⟨_, ps_expr (pe_bm PySem.F.plainAttrs_list PySem.F.slot_list_extend PySem.F.type_list_extend mt_extend (pe_var hN hvi hd hcd) (pa_cons p pa_nil hs) hbase hfew hline hs hplain) hsw, fun ps σ Hf H env S De z => ?_⟩⟩
  unfold mExt at z
  cases w : ownAt env i with
  | none => rw [w] at z; exact z.elim
  | some kl =>
    obtain ⟨k, l⟩ := kl
    rw [w] at z
    obtain ⟨pa, o, hp, nf, ho, ⟨vs, e1, r⟩, hk⟩ := S.own (ownAt_eq w)
    subst e1
    refine ⟨.ref pa, hp, .inl ⟨rfl, vs, .inl (.inl ho)⟩, ?_⟩
    refine h ps σ Hf H env S _ ?_
    unfold bnd at z
    cases q : f env with
    | stuck => rw [q] at z; exact z
    | exc x pp e' => rw [q] at z; exact fun cls dd Hf' H' x S ie => z cls dd σ Hf' H' x S ie
    | ok l2 e1 =>
      rw [q] at z
      intro Hf1 H1 p2 vs2 x1 S1 hp2 nf2 ng2 r2 no2
      have z1 : SG X.K X.mg ps W De Hf (kExt i l2 e1) := z
      unfold kExt at z1
      cases w1 : ownAt e1 i with
      | none => rw [w1] at z1; exact z1.elim
      | some kl1 =>
        obtain ⟨k1, l1⟩ := kl1
        rw [w1] at z1
        dsimp only at z1
        by_cases hz : l1.length + l2.length ≤ sizeLine
        · rw [if_pos hz] at z1
          obtain ⟨p1, o1, hp1, nf1, ho1, ⟨vs1, e2, r1⟩, hk1⟩ := S1.own (ownAt_eq w1)
          subst e2
          rw [hp] at hp1; cases hp1
          exact ⟨pa, p2, vs1, vs2, rfl, rfl, ho1, hp2, by rw [r1.length, r2.length]; exact hz, z1 σ Hf1 _ x1 (S1.turn (ownAt_eq w1) hp ⟨vs1 ++ vs2, rfl, r1.append r2⟩)⟩
        · rw [if_neg hz] at z1; exact z1.elim
end
end DL

/-! DLu: how own lists, texts, stepped ranges are reckoned. -/
namespace DL
open PySem PySem.Spec PyProof.Rows L2 Evl
section
variable {α β : Type} {e e' : DEnv} {m : M α} {f : α → M β} {x T : Str} {d d' : D} {i j : Int} {n k : Nat} {fa fb : M D} {h : M (List D)} {l : List D} {s z : Str} {o : Option Nat}
theorem a_xStr {g : Str → M D} : xStr g (.str s) e = g s e := rfl
theorem a_dSplit : dSplit s (.str z) e = if (z.length == 0) = false ∧ s.length + 2 ≤ sizeLine then .ok (.lst ((Txt.split s z).map .str)) e else .stuck := by
  show (if (z.length == 0) = false ∧ s.length + 2 ≤ sizeLine then DL.ret (D.lst ((Txt.split s z).map .str)) else stk) e = _
  split <;> rfl
theorem a_dJoinL {ys : List Str} : dJoin s (.lst (ys.map .str)) e = if joinOk s ys then .ok (.str (Txt.join s ys)) e else .stuck := by
  show oJoin s (asStrs (ys.map .str)) e = _
  rw [asStrs_map]
  unfold oJoin
  dsimp only
  split <;> rfl
theorem a_dJoinT {ys : List Str} : dJoin s (.tup (ys.map .str)) e = if joinOk s ys then .ok (.str (Txt.join s ys)) e else .stuck := a_dJoinL
theorem a_dIn {neg : Bool} : dIn neg (.str s) (.str z) e = inS neg (sgn s) z e := rfl
theorem a_inF {c : Nat} : inS false (some c) z e = .ok (.bl (decide (c ∈ z.cps.toList))) e := rfl
theorem a_inT {c : Nat} : inS true (some c) z e = .ok (.bl (!decide (c ∈ z.cps.toList))) e := rfl
theorem a_mOwn : mOwn n h e = rB (h e) (fun ds env => .ok .nx (env.set n (.own none (.lst ds)))) := rfl
theorem a_mFl : mFl h e = rB (h e) (fun ds => if szOk ds.length then DL.ret ds else stk) := rfl
def uL (r : Res D) : Res (List D) := match r with | .ok (.lst l) e => .ok l e | .exc x p e => .exc x p e | _ => .stuck
theorem a_unL : unL fa e = uL (fa e) := rfl
theorem a_uLok : uL (.ok (.lst l) e) = .ok l e := rfl
def oOw (o : Option Sl) : Option (Option Nat × List D) := match o with | some (.own k (.lst l)) => some (k, l) | _ => none
theorem a_ownAt : ownAt e n = oOw e[n]? := rfl
theorem a_oOw {q : Option Nat} : oOw (some (.own q (.lst l))) = some (q, l) := rfl
def aP (o : Option (Option Nat × List D)) (n : Nat) (f : M D) (e : DEnv) : Res Fl := match o with | some _ => bnd f (kApp n) e | none => .stuck
theorem a_app : mApp n fa e = aP (ownAt e n) n fa e := rfl
theorem a_aP {q : Option Nat × List D} : aP (some q) n fa e = rB (fa e) (kApp n) := rfl
def kA (o : Option (Option Nat × List D)) (n : Nat) (d : D) (e : DEnv) : Res Fl := match o with
  | some (k, l) => if l.length < sizeLine then .ok .nx (e.set n (.own k (.lst (l ++ [d])))) else .stuck
  | none => .stuck
theorem a_kApp : kApp n d e = kA (ownAt e n) n d e := rfl
theorem a_kA {q : Option Nat} : kA (some (q, l)) n d e = if l.length < sizeLine then .ok .nx (e.set n (.own q (.lst (l ++ [d])))) else .stuck := rfl
def sI (o : Option (Option Nat × List D)) (n : Nat) (fi : M D) (d : D) (e : DEnv) : Res Fl := match o with | some _ => bnd fi (fun kd => kSet n d kd) e | none => .stuck
theorem a_setI : mSetI n fa fb e = rB (fb e) (fun d env => sI (ownAt env n) n fa d env) := rfl
theorem a_sI {q : Option Nat × List D} : sI (some q) n fa d e = rB (fa e) (fun kd => kSet n d kd) := rfl
def kS (o : Option (Option Nat × List D)) (n : Nat) (d : D) (j : Int) (e : DEnv) : Res Fl := match o with
  | some (k, l) => (match ixN l.length j with | some p => .ok .nx (e.set n (.own k (.lst (l.set p d)))) | none => .stuck)
  | none => .stuck
theorem a_kSet : kSet n d (.int j) e = kS (ownAt e n) n d j e := by
  unfold kSet kS
  cases ownAt e n with
  | none => rfl
  | some q => rfl
def kN (o : Option Nat) (q : Option Nat) (l : List D) (n : Nat) (d : D) (e : DEnv) : Res Fl := match o with | some p => .ok .nx (e.set n (.own q (.lst (l.set p d)))) | none => .stuck
theorem a_kS {q : Option Nat} : kS (some (q, l)) n d j e = kN (ixN l.length j) q l n d e := rfl
theorem a_kN {q : Option Nat} {p : Nat} : kN (some p) q l n d e = .ok .nx (e.set n (.own q (.lst (l.set p d)))) := rfl
def fZ (o : Option Sl) (e : DEnv) (n : Nat) : DEnv := match o with
  | some (.own none (.lst l)) => e.set n (.val (.lst l))
  | some (.own none (.rows ll)) => e.set n (.val (.lst (ll.map .lst)))
  | _ => e
theorem a_frz1 : frz1 e n = fZ e[n]? e n := rfl
theorem a_fZ : fZ (some (.own none (.lst l))) e n = e.set n (.val (.lst l)) := rfl
theorem a_rng3 : mRng3 h e = rB (h e) (fun ds => match ds with | [.int i, .int j, .int c] => if RgC i j c (Builtin.Range.rangeSize i j c).toNat then DL.ret (rng3D i c (Builtin.Range.rangeSize i j c).toNat) else stk | _ => stk) := rfl
theorem a_mAddS : mAdd (.str s) (.str z) e = if szOk (s.length + z.length) then .ok (.str (s ++ z)) e else .stuck := by
  show (if szOk (s.length + z.length) then DL.ret (D.str (s ++ z)) else stk) e = _
  split <;> rfl
theorem a_mAddL {l' : List D} : mAdd (.lst l) (.lst l') e = if szOk (l.length + l'.length) then .ok (.lst (l ++ l')) e else .stuck := by
  show (if szOk (l.length + l'.length) then DL.ret (D.lst (l ++ l')) else stk) e = _
  split <;> rfl
theorem a_dIxS : dIx (.str z) i e = if z.length ≤ sizeLine then oM ((atI z.cps.toList i).map fun c => .str ⟨#[c]⟩) e else .stuck := by
  show (if z.length ≤ sizeLine then oM ((atI z.cps.toList i).map fun c => .str ⟨#[c]⟩) else stk) e = _
  split <;> rfl
theorem a_dSlS {lo hi : Option Int} : dSlice (.str z) lo hi e = if z.length ≤ sizeLine then .ok (.str (cutS z lo hi)) e else .stuck := by
  show (if z.length ≤ sizeLine then DL.ret (D.str (cutS z lo hi)) else stk) e = _
  split <;> rfl
theorem a_mod3 {g : Int → M D} : (match D.int i with | .int i => g i | _ => stk) = g i := rfl
end
theorem isN_n : isNon .non = true := rfl
theorem isN_t {l : List D} : isNon (.tup l) = false := rfl
theorem isN_l {l : List D} : isNon (.lst l) = false := rfl
theorem isN_i {i : Int} : isNon (.int i) = false := rfl
theorem isN_s {z : Str} : isNon (.str z) = false := rfl
theorem at3 {x y z w : D} {l : List D} : atI (x :: y :: z :: w :: l) 3 = some w := atI_nat (j := 3) rfl
theorem at4 {x y z w v : D} {l : List D} : atI (x :: y :: z :: w :: v :: l) 4 = some v := atI_nat (j := 4) rfl
theorem at5 {x y z w v u : D} {l : List D} : atI (x :: y :: z :: w :: v :: u :: l) 5 = some u := atI_nat (j := 5) rfl
theorem at6 {x y z w v u t : D} {l : List D} : atI (x :: y :: z :: w :: v :: u :: t :: l) 6 = some t := atI_nat (j := 6) rfl
theorem at7 {x y z w v u t s : D} {l : List D} : atI (x :: y :: z :: w :: v :: u :: t :: s :: l) 7 = some s := atI_nat (j := 7) rfl
/-- a loop that goes through, or stops at the first item that is not P -/
theorem forL_all {g : D → M Unit} {b : M Fl} (P : D → Bool) (I : DEnv → Prop) (bad : Res Fl → Prop) (hb : ∀ r k, bad r → aG r k = r) : ∀ (ds : List D) (e : DEnv), I e → (∀ d ∈ ds, ∀ e, I e → ∃ e1, g d e = .ok () e1 ∧ (P d = true → ∃ e2, (b e1 = .ok .nx e2 ∨ b e1 = .ok .ct e2) ∧ I e2) ∧ (P d = false → bad (b e1))) →
    (ds.all P = true ∧ ∃ e', forL g b ds e = .ok .nx e' ∧ I e') ∨ (ds.all P = false ∧ bad (forL g b ds e))
  | [], e, i, _ => .inl ⟨rfl, e, rfl, i⟩
  | d :: r, e, i, h => by
    obtain ⟨e1, h1, h2, h3⟩ := h d List.mem_cons_self e i
    rw [List.all_cons, forL_cons, bnd_ok h1, a_again]
    cases q : P d with
    | true =>
      obtain ⟨e2, h4, i2⟩ := h2 q
      have ih := forL_all P I bad hb r e2 i2 fun d' m => h d' (List.mem_cons_of_mem _ m)
      rw [Bool.true_and]
      rcases h4 with h4 | h4 <;> rw [h4] <;> exact ih
    | false => exact .inr ⟨rfl, by rw [hb _ _ (h3 q)]; exact h3 q⟩
/-- a comprehension over what F makes of xs -/
theorem mLc_gen {α : Type} {vs : List Nat} {fi : M (List D)} {g : D → M Unit} {el : M D} {e e0 : DEnv} (xs : List α) (F f : α → D) (hf : fi e = .ok (xs.map F) e0) (hn : noOwn e0 vs = true) (hb : backE e0 (wipeE e0 vs) vs = e0) (hl : xs.length ≤ sizeLine)
    (h : ∀ x ∈ xs, ∃ e1 e3, g (F x) (wipeE e0 vs) = .ok () e1 ∧ el e1 = .ok (f x) e3 ∧ wipeE e3 vs = wipeE e0 vs) : mLc vs fi g (DL.ret true) el e = .ok (.lst (xs.map f)) e0 := by
  have lc : ∀ (ys : List α) (acc : List D), (∀ x ∈ ys, ∃ e1 e3, g (F x) (wipeE e0 vs) = .ok () e1 ∧ el e1 = .ok (f x) e3 ∧ wipeE e3 vs = wipeE e0 vs) → acc.length + ys.length ≤ sizeLine → lcL vs g (DL.ret true) el (ys.map F) acc (wipeE e0 vs) = .ok (acc ++ ys.map f) (wipeE e0 vs) := by
    intro ys
    induction ys with
    | nil => intro acc _ _; rw [List.map_nil, List.map_nil, List.append_nil]; rfl
    | cons y r ih =>
      intro acc h hl
      obtain ⟨e1, e3, h1, h2, h3⟩ := h y List.mem_cons_self
      rw [List.length_cons] at hl
      rw [List.map_cons, List.map_cons]
      unfold lcL
      rw [bnd_ok h1, bnd_ok (show DL.ret true e1 = .ok true e1 from rfl), if_pos rfl, bnd_ok h2]
      rw [if_pos (by omega), h3, ih (acc ++ [f y]) (fun x m => h x (List.mem_cons_of_mem _ m)) (by rw [List.length_append]; show acc.length + 1 + r.length ≤ _; omega), List.append_assoc, List.singleton_append]
  unfold mLc
  rw [bnd_ok hf, if_pos hn, lc xs [] h (by rw [List.length_nil, Nat.zero_add]; exact hl)]
  dsimp only
  rw [hb, List.nil_append]
/-- as mLc_gen, over range(m) -/
theorem mLc_rngD {vs : List Nat} {fi : M (List D)} {g : D → M Unit} {el : M D} {e e0 : DEnv} {m : Nat} (f : Nat → D) (hf : fi e = .ok (rngD 0 m) e0) (hn : noOwn e0 vs = true) (hb : backE e0 (wipeE e0 vs) vs = e0) (hl : m ≤ sizeLine)
    (h : ∀ k < m, ∃ e1 e3, g (.int (k : Int)) (wipeE e0 vs) = .ok () e1 ∧ el e1 = .ok (f k) e3 ∧ wipeE e3 vs = wipeE e0 vs) : mLc vs fi g (DL.ret true) el e = .ok (.lst ((List.range m).map f)) e0 := by
  refine mLc_gen (List.range m) (fun k => .int (k : Int)) f (by rw [hf]; unfold rngD; congr 1; apply List.map_congr_left; intro k _; rw [Int.zero_add]) hn hb (by rw [List.length_range]; exact hl) fun k hk => h k (by simpa using hk)
/-- a fold that may stop -/
def foldO {σ : Type} (step : σ → D → Option σ) : List D → σ → Option σ
  | [], s => some s
  | d :: r, s => match step s d with | some s' => foldO step r s' | none => none
theorem forL_opt {σ : Type} {g : D → M Unit} {b : M Fl} (R : σ → DEnv → Prop) (step : σ → D → Option σ) (bad : Res Fl → Prop) (hb : ∀ r k, bad r → aG r k = r) : ∀ (ds : List D) (s : σ) (e : DEnv), R s e → (∀ d ∈ ds, ∀ s e, R s e → ∃ e1, g d e = .ok () e1 ∧ ((∃ s', step s d = some s' ∧ ∃ e2, (b e1 = .ok .nx e2 ∨ b e1 = .ok .ct e2) ∧ R s' e2) ∨ (step s d = none ∧ bad (b e1)))) →
    (∃ s', foldO step ds s = some s' ∧ ∃ e', forL g b ds e = .ok .nx e' ∧ R s' e') ∨ (foldO step ds s = none ∧ bad (forL g b ds e))
  | [], s, e, i, _ => .inl ⟨s, rfl, e, rfl, i⟩
  | d :: r, s, e, i, h => by
    obtain ⟨e1, h1, h2⟩ := h d List.mem_cons_self s e i
    rw [forL_cons, bnd_ok h1, a_again]
    unfold foldO
    rcases h2 with ⟨s', h3, e2, h4, i2⟩ | ⟨h3, h4⟩
    · rw [h3]
      have ih := forL_opt R step bad hb r s' e2 i2 fun d' m => h d' (List.mem_cons_of_mem _ m)
      rcases h4 with h4 | h4 <;> rw [h4] <;> exact ih
    · rw [h3]
      exact .inr ⟨rfl, by rw [hb _ _ h4]; exact h4⟩
end DL

/-! DLy: what the rules of DLx are worth at an environment; texts (plain mathematics). -/
namespace DL
open PySem PySem.Spec PyProof.Rows L2 Evl
section
variable {e e' : DEnv} {n : Nat} {l : List D} {ns : List Int} {i : Int} {f : M (List D)}
theorem a_cStr : cStr [.int i] e = if StrIOk i then .ok (.str (toString i)) e else .stuck := by
  show (if StrIOk i then DL.ret (D.str (toString i)) else stk) e = _
  split <;> rfl
theorem a_cMaxL : cMaxL [.lst (ns.map .int)] e = oMx (some ns) e := by
  show oMx (asInts (ns.map .int)) e = _
  rw [asInts_map]
def eP (o : Option (Option Nat × List D)) (n : Nat) (f : M (List D)) (e : DEnv) : Res Fl := match o with | some _ => bnd f (kExt n) e | none => .stuck
theorem a_ext : mExt n f e = eP (ownAt e n) n f e := rfl
theorem a_eP {q : Option Nat × List D} : eP (some q) n f e = rB (f e) (kExt n) := rfl
def kE (o : Option (Option Nat × List D)) (n : Nat) (l2 : List D) (e : DEnv) : Res Fl := match o with
  | some (k, l) => if l.length + l2.length ≤ sizeLine then .ok .nx (e.set n (.own k (.lst (l ++ l2)))) else .stuck
  | none => .stuck
theorem a_kExt {l2 : List D} : kExt n l2 e = kE (ownAt e n) n l2 e := rfl
theorem a_kE {q : Option Nat} {l2 : List D} : kE (some (q, l)) n l2 e = if l.length + l2.length ≤ sizeLine then .ok .nx (e.set n (.own q (.lst (l ++ l2)))) else .stuck := rfl
end
/-! texts -/
theorem ystrOk_iff {z : Str} : PyData.strOk z = true ↔ ∀ c ∈ z.cps.toList, c < 0x110000 := by
  unfold PyData.strOk
  rw [Array.all_eq_true_iff_forall_mem]
  simp
theorem ycps_app (a b : Str) : (a ++ b).cps.toList = a.cps.toList ++ b.cps.toList := by
  show (a.cps ++ b.cps).toList = _
  rw [Array.toList_append]
theorem str_eq {a b : Str} (h : a.cps.toList = b.cps.toList) : a = b := by
  cases a; cases b
  exact congrArg Str.mk (Array.toList_inj.mp h)
theorem str_assoc (a b c : Str) : a ++ b ++ c = a ++ (b ++ c) := str_eq (by rw [ycps_app, ycps_app, ycps_app, ycps_app, List.append_assoc])
theorem str_nil (a : Str) : a ++ (Str.ofString "") = a := str_eq (by rw [ycps_app]; exact List.append_nil _)
theorem nil_str (a : Str) : (Str.ofString "") ++ a = a := str_eq (by rw [ycps_app]; rfl)
/-- a plain text of at most m signs -/
def tOk (m : Nat) (z : Str) : Prop := PyData.strOk z = true ∧ z.length ≤ m
theorem ylen_app (a b : Str) : (a ++ b).length = a.length + b.length := by
  show (a.cps ++ b.cps).size = _
  rw [Array.size_append]; rfl
theorem tOk.app {m n : Nat} {a b : Str} (h : tOk m a) (k : tOk n b) : tOk (m + n) (a ++ b) := by
  refine ⟨?_, by rw [ylen_app]; exact Nat.add_le_add h.2 k.2⟩
  rw [ystrOk_iff]
  intro c hc
  rw [ycps_app] at hc
  rcases List.mem_append.mp hc with hc | hc
  · exact ystrOk_iff.mp h.1 c hc
  · exact ystrOk_iff.mp k.1 c hc
theorem tOk.mono {m n : Nat} {z : Str} (h : tOk m z) (k : m ≤ n) : tOk n z := ⟨h.1, Nat.le_trans h.2 k⟩
theorem tOk_of (s : String) {m : Nat} (h : s.length ≤ m) : tOk m (Str.ofString s) := by
  refine ⟨?_, by rw [PySem.ofString_length]; exact h⟩
  rw [ystrOk_iff, Str.ofString_eq_toList]
  intro c hc
  simp only [List.mem_map] at hc
  obtain ⟨d, _, rfl⟩ := hc
  have := d.valid
  unfold UInt32.isValidChar Nat.isValidChar at this
  show d.toNat < _
  have e : d.toNat = d.val.toNat := rfl
  omega
theorem tOk_int {i : Int} (h : i.natAbs < 10 ^ 100) : tOk 101 (Str.ofString (toString i)) := tOk_of _ (int_text_length_le10 (k := 100) (by decide) h)
theorem strI_ok {i : Int} (h : i.natAbs < 10 ^ 100) : StrIOk i := by
  unfold StrIOk
  by_cases z : i.natAbs = 0
  · rw [z]; decide
  · exact (Nat.log2_lt z).mpr (Nat.lt_trans h (by decide +kernel))
theorem tOk_join {m : Nat} {sep : Str} (hs : tOk 1 sep) : ∀ ys : List Str, (∀ y ∈ ys, tOk m y) → tOk (ys.length * (m + 1)) (Str.join sep ys)
  | [], _ => ⟨by show PyData.strOk Str.empty = true; decide +kernel, Nat.zero_le _⟩
  | [x], h => (h x List.mem_cons_self).mono (by rw [List.length_cons, List.length_nil]; omega)
  | x :: x2 :: r, h => by
    have e : Str.join sep (x :: x2 :: r) = x ++ sep ++ Str.join sep (x2 :: r) := rfl
    rw [e]
    refine (((h x List.mem_cons_self).app hs).app (tOk_join hs (x2 :: r) fun y m => h y (List.mem_cons_of_mem _ m))).mono ?_
    rw [List.length_cons (a := x), Nat.succ_mul]; omega
theorem yjoin_eq (sep : Str) (ys : List Str) : Txt.join sep ys = Str.join sep ys := StrLaws.glued_eq_join sep ys
theorem pl_s {m : Nat} {z : Str} (h : tOk m z) : D.pl 0 (.str z) = true := h.1
theorem deq_s {m n : Nat} {a b : Str} (h : tOk m a) (k : tOk n b) : eqOk (.str a) (.str b) = true ∧ deq (.str a) (.str b) = decide (a = b) := by
  refine ⟨eqOk_pl (pl_s h) (pl_s k), ?_⟩
  by_cases e : a = b
  · rw [decide_eq_true e, e, deq_self (pl_s k)]
  · rw [decide_eq_false e, deq_ne (pl_s h) (pl_s k) (fun z => e (D.str.inj z))]
theorem ysum_le {ys : List Str} {m : Nat} (h : ∀ y ∈ ys, y.length ≤ m) : (ys.map (·.length)).sum ≤ ys.length * m := by
  induction ys with
  | nil => simp
  | cons y ys ih =>
    rw [List.map_cons, List.sum_cons, List.length_cons, Nat.succ_mul]
    have := ih fun y' m' => h y' (List.mem_cons_of_mem _ m')
    have := h y List.mem_cons_self
    omega
theorem joinOk_of {sep : Str} {ys : List Str} {m : Nat} (h : ∀ y ∈ ys, y.length ≤ m) (hn : ys.length ≤ 100) (hm : m ≤ 2000) (hs : sep.length ≤ 1) : joinOk sep ys := by
  unfold joinOk
  have h1 := ysum_le h
  have h2 : ys.length * m ≤ 100 * 2000 := Nat.mul_le_mul hn hm
  have h3 : ys.length * sep.length ≤ 100 * 1 := Nat.mul_le_mul hn hs
  omega
/-! a text with signs: as the program builds it (ws), as the law does (wr) -/
def sgS (k : Int) : Str := if k < 0 then Str.ofString "-" else Str.ofString "+"
def ws (p : Str) (k : Int) (w : Str) : Str := if k < 0 then p ++ Str.ofString "-" ++ w else if p = Str.ofString "" then w else p ++ Str.ofString "+" ++ w
inductive Rel : Str → Str → Prop
  | nil : Rel (Str.ofString "") (Str.ofString "")
  | neg {p : Str} : Rel (Str.ofString "-" ++ p) (Str.ofString "-" ++ p)
  | pos {p : Str} : p ≠ Str.ofString "" → Rel p (Str.ofString "+" ++ p)
theorem app_ne {a b : Str} (h : b ≠ Str.ofString "") : a ++ b ≠ Str.ofString "" := fun z => by
  have := congrArg Str.length z
  rw [ylen_app] at this
  have e : (Str.ofString "").length = 0 := rfl
  have hb : b.length = 0 := by omega
  exact h (str_eq (by
    have : b.cps = #[] := Array.eq_empty_of_size_eq_zero hb
    rw [this]; rfl))
theorem one_ne {a : Str} (s : Str) (hs : s.length = 1) : s ++ a ≠ Str.ofString "" := fun z => by
  have := congrArg Str.length z
  rw [ylen_app] at this
  have e : (Str.ofString "").length = 0 := rfl
  omega
theorem Rel.step {p q w : Str} (h : Rel p q) (hw : w ≠ Str.ofString "") (k : Int) : Rel (ws p k w) (q ++ (sgS k ++ w)) := by
  unfold ws sgS
  by_cases hk : k < 0
  · rw [if_pos hk, if_pos hk]
    cases h with
    | nil => rw [nil_str, nil_str]; exact .neg
    | neg => rw [str_assoc, str_assoc]; exact .neg
    | pos hp => rw [str_assoc, str_assoc]; exact .pos (app_ne (one_ne _ rfl))
  · rw [if_neg hk, if_neg hk]
    cases h with
    | nil => rw [if_pos rfl, nil_str]; exact .pos hw
    | neg => rw [if_neg (one_ne _ rfl), str_assoc, str_assoc]; exact .neg
    | pos hp => rw [if_neg hp, str_assoc, str_assoc]; exact .pos (app_ne (one_ne _ rfl))
theorem cut0 {q : Str} : cutS q (some 0) none = q := by
  unfold cutS
  refine str_eq ?_
  simp [HT.sIx]
  exact List.take_of_length_le (Nat.le_of_eq (Array.length_toList (xs := q.cps)))
theorem cut1 {p : Str} : cutS (Str.ofString "+" ++ p) (some 1) none = p := by
  unfold cutS
  refine str_eq ?_
  rw [ycps_app]
  show _ = p.cps.toList
  have h1 : (Str.ofString "+" ++ p).length = 1 + p.length := by rw [ylen_app]; rfl
  simp only [HT.sIx, h1]
  simp
  rw [show (Str.ofString "+").cps.toList = [43] by decide +kernel]
  show List.take p.length p.cps.toList = _
  exact List.take_of_length_le (Nat.le_of_eq (Array.length_toList (xs := p.cps)))
end DL

/-! DLp: a def that calls itself begins; a fresh list(x); what the rules of DLn, DLo are worth at an environment. -/
namespace DL
open PySem PySem.Spec PyProof.Rows L2 Evl
theorem fn_stuck {P : Program} {w : World} {K : PySem.W.Frag} {mg : MG} {base : Heap} {f : Addr} {fd : FuncData} {ps : List Str} {k n : Nat} : FnOk P w K mg base (L2N.CX P w) k f fd ps (spP K mg n fun _ => .stuck) :=
  ⟨fun vs H Q E h => by obtain ⟨_, _, _, _, _, h⟩ := h; exact False.elim h, fun A outer s H args us vs Q E hr he hb hv h => by obtain ⟨_, _, _, _, _, h⟩ := h; exact False.elim h⟩
section
variable {X : Cx} {W : WX} {a b c e : Expr} {es : List Expr} {fa fb fc : M D} {pos : Pos} {f : M (List D)} {N : List Str} {sc raw : Scope}
theorem jf_listC {p : Pos} (V : Nm X N sc raw) (hG : okG sc "list" = true) (hm : X.mg "list" = none) (ja : JA X W [a] f) (he : starEach [a] X.env = (false, eval a X.env) :: starEach [] X.env := by rfl) (hpl : (backTo pos (starEach [] X.env)).any (·.1) = false := by rfl) : JF X W (.Call (.Name "list" p) [a] [] pos) (bnd f cListF) := by
  obtain ⟨hg, hdb, hn⟩ := V.g hG
  obtain ⟨t, q, h⟩ := ja.ex
  refine ⟨⟨_, pe_callTy call_list_of hg hm (by decide +kernel) q hn hdb he hpl, fun ps σ Hf H env S Q z => ?_⟩⟩
  refine h ps σ Hf H env S _ (fg_bnd z fun ds e1 Hf1 H1 x1 S1 h1 vs r => ?_)
  unfold cListF at h1
  split at h1
  · cases r with
    | cons r1 r2 => cases r2; cases r1 with
      | lst hq r => exact ⟨_, _, rfl, .inl (ex_l S1.ex hq), lay_new S1 r h1⟩
  · cases r with
    | cons r1 r2 => cases r2; cases r1 with
      | tup hq r => exact ⟨_, _, rfl, .inr (ex_t S1.ex hq), lay_new S1 r h1⟩
  · exact h1.elim
end
section
variable {e e' : DEnv} {n : Nat} {l : List D} {fa : M D} {h : M (List D)} {d : D} {x : Str} {o : Option Nat} {p : Option D} {T : Str} {tab : ETab}
theorem a_retF : mRetF h e = rB (h e) (fun l => DL.ret (.ro l)) := rfl
def oT (o : Option Sl) (n : Nat) (e : DEnv) : Res (List D) := match o with | some (.own none (.lst l)) => .ok l (e.set n .no) | _ => .stuck
theorem a_take : mTake n e = oT e[n]? n e := rfl
theorem a_oT : oT (some (.own none (.lst l))) n e = .ok l (e.set n .no) := rfl
def rsO (r : Rs) (e : DEnv) : Res (List D) := match r with | .ok (.lst l) => .ok l e | .exc x p => .exc x p e | _ => .stuck
theorem a_callO {F : List D → Rs} : mCallO h F e = rB (h e) (fun ds e' => rsO (F ds) e') := by
  unfold mCallO; rw [a_bnd]; congr
theorem a_rsOok : rsO (.ok (.lst l)) e = .ok l e := rfl
theorem a_rsOexc : rsO (.exc x p) e = .exc x p e := rfl
def rO (r : Res Fl) : Rs := match r with | .ok (.ro l) _ => .ok (.lst l) | .exc x p _ => .exc x p | _ => .stuck
theorem a_runO {f : M Fl} {ds : List D} : runO n f ds = rO (f (DL.envOf n ds)) := rfl
theorem a_rOro : rO (.ok (.ro l) e) = .ok (.lst l) := rfl
theorem a_rOexc : rO (.exc x p e) = .exc x p := rfl
def lD (r : Res D) (e : DEnv) : Res D := match r with | .ok d _ => if d.plain then .ok d e else .stuck | .exc x none _ => .exc x none e | _ => .stuck
theorem a_lend : mLend fa e = lD (fa (shw e)) e := rfl
theorem a_lDi {i : Int} : lD (.ok (.int i) e') e = .ok (.int i) e := rfl
theorem a_lDb {b : Bool} : lD (.ok (.bl b) e') e = .ok (.bl b) e := rfl
theorem a_lDn : lD (.ok .non e') e = .ok .non e := rfl
theorem a_lDx : lD (.exc x none e') e = .exc x none e := rfl
theorem a_shn : shw [] = [] := rfl
theorem a_shc {s : Sl} {r : DEnv} : shw (s :: r) = shw1 s :: shw r := rfl
theorem a_sh1v : shw1 (.val d) = .val d := rfl
theorem a_sh1n : shw1 .no = .no := rfl
theorem a_sh1o : shw1 (.own o (.lst l)) = .val (.lst l) := rfl
def cM (q : Option (Option Nat × List D)) (n : Nat) (e : DEnv) : Res Fl := match q with | some (k, _) => .ok .nx (e.set n (.own k (.lst []))) | none => .stuck
theorem a_clr : mClr n e = cM (ownAt e n) n e := rfl
theorem a_cM : cM (some (o, l)) n e = .ok .nx (e.set n (.own o (.lst []))) := rfl
theorem a_enu : mEnu h e = rB (h e) (fun ds => match ds with | [x] => enO (itemsD x) | _ => stk) := rfl
theorem a_enO : enO (some l) e = .ok (enD l) e := rfl
theorem a_zipM : mZipM h e = rB (h e) (fun ds => match ds with | [x, y] => zip2 (itemsD x) (itemsD y) | _ => stk) := rfl
theorem a_itL : itemsD (.lst l) = some l := rfl
theorem a_itT : itemsD (.tup l) = some l := rfl
theorem a_zip2 {l' : List D} : zip2 (some l) (some l') e = .ok (zipD l l') e := rfl
theorem a_cListFl : cListF [.lst l] e = .ok l e := rfl
theorem a_cListFt : cListF [.tup l] e = .ok l e := rfl
def tR1 (tab : ETab) (T : Str) (fs : Str → M Fl) (r : Res Fl) : Res Fl := match r with
  | .exc x none e' => (match tabAt tab x T with
    | some true => unT (fs x e')
    | some false => .exc x none e'
    | none => .stuck)
  | .exc _ (some _) _ => .stuck
  | r => r
def cT1 (o : Option Bool) (x : Str) (fs : Str → M Fl) (e : DEnv) : Res Fl := match o with
    | some true => unT (fs x e)
    | some false => .exc x none e
    | none => .stuck
theorem a_try1 {s : M Fl} {fs : Str → M Fl} : mTry1 tab T s fs e = tR1 tab T fs (s e) := rfl
theorem a_tok1 {fs : Str → M Fl} {fl : Fl} : tR1 tab T fs (.ok fl e) = .ok fl e := rfl
theorem a_texc1 {fs : Str → M Fl} : tR1 tab T fs (.exc x none e) = cT1 (tabAt tab x T) x fs e := rfl
theorem a_cT1 {fs : Str → M Fl} : cT1 (some true) x fs e = unT (fs x e) := rfl
theorem a_cF1 {fs : Str → M Fl} : cT1 (some false) x fs e = .exc x none e := rfl
theorem a_unTok {fl : Fl} : unT (.ok fl e) = .ok fl e := rfl
end
end DL

/-! DLN: own lists of own lists. -/
namespace DL
open PySem PySem.Spec PyProof.Rows L2 Evl
def rowsAt (env : DEnv) (i : Nat) : Option (Option Nat × List (List D)) := match env[i]? with | some (.own k (.rows ll)) => some (k, ll) | _ => none
theorem rowsAt_eq {env : DEnv} {i : Nat} {k : Option Nat} {ll : List (List D)} (h : rowsAt env i = some (k, ll)) : env[i]? = some (.own k (.rows ll)) := by
  unfold rowsAt at h
  split at h
  · rename_i k' l' q; cases h; exact q
  · cases h
section
variable {K : PySem.W.Frag} {mg : MG} {ps : Fg} {Hf H Hf' H' : Hp} {σ : L2.St} {e e' : DEnv}
/-! ### rows changed -/
theorem RwR.set {as : List Addr} {ll : List (List D)} {m : Nat} {a : Addr} {ws : List V} {l : List D} (r : RwR K mg Hf H as ll) (nd : as.Nodup) (ha : as[m]? = some a) (rw' : Rps K mg Hf ws l) : RwR K mg Hf (upd H a (.lst ws)) as (ll.set m l) := by
  refine ⟨by rw [List.length_set]; exact r.1, fun k b l' h1 h2 => ?_⟩
  have hm := (List.getElem?_eq_some_iff.mp ha).1
  by_cases hk : m = k
  · subst hk
    rw [ha] at h1; cases h1
    rw [List.getElem?_set_self (by rw [← r.1]; exact hm)] at h2
    cases h2
    obtain ⟨l0, hl0⟩ : ∃ l0, ll[m]? = some l0 := ⟨ll[m]'(by rw [← r.1]; exact hm), List.getElem?_eq_getElem (by rw [← r.1]; exact hm)⟩
    exact ⟨(r.2 m a l0 ha hl0).1, ws, upd_same, rw'⟩
  · rw [List.getElem?_set_ne hk] at h2
    obtain ⟨n1, vs, n2, n3⟩ := r.2 k b l' h1 h2
    have hne : b ≠ a := fun z => by
      subst z
      have hb := List.getElem?_eq_some_iff.mp h1
      have ha' := List.getElem?_eq_some_iff.mp ha
      exact hk ((List.getElem_inj nd).mp (ha'.2.trans hb.2.symm))
    exact ⟨n1, vs, by rw [upd_ne hne]; exact n2, n3⟩
theorem ft_rows {p a : Addr} {ll : List (List D)} {as : List Addr} (hp : H p = some (.lst (as.map V.ref))) : Ft H (.rows ll) p a ↔ a = p ∨ a ∈ as := by
  constructor
  · rintro (h | ⟨_, bs, _, h1, h2⟩)
    · exact .inl h
    · rw [hp] at h1
      rw [ref_inj (HO.lst.inj (Option.some.inj h1))]
      exact .inr h2
  · rintro (h | h)
    · exact .inl h
    · exact .inr ⟨ll, as, rfl, hp, h⟩
/-- one of the lists is changed -/
theorem SR.rowSet (S : SR K mg ps Hf H σ e) {i : Nat} {p a : Addr} {k : Option Nat} {ll : List (List D)} {as : List Addr} {m : Nat} {ws : List V} {l : List D} (h : e[i]? = some (.own k (.rows ll))) (hp : σ[i]? = some (some (.ref p)))
    (hh : H p = some (.lst (as.map V.ref))) (ha : as[m]? = some a) (r : Rps K mg Hf ws l) : SR K mg ps Hf (upd H a (.lst ws)) σ (e.set i (.own k (.rows (ll.set m l)))) := by
  obtain ⟨p', o, h1, nf, h2, ⟨bs, rfl, np, nd, hr⟩, hk⟩ := S.own h
  rw [hp] at h1; cases h1
  have hb : bs = as := ref_inj (HO.lst.inj (Option.some.inj (h2.symm.trans hh)))
  subst hb
  have am := List.mem_of_getElem? ha
  have hpa : p ≠ a := fun z => np (by rw [z]; exact am)
  have hh' : upd H a (.lst ws) p = some (.lst (bs.map V.ref)) := by rw [upd_ne hpa]; exact hh
  refine S.turnG h hp (fun b => ?_) hh' ⟨bs, rfl, np, nd, hr.set nd ha r⟩ fun b f => .inl ?_
  · by_cases hb : b = a
    · subst hb; exact .inr (.inl ((ft_rows hh).mpr (.inr am)))
    · exact .inl (upd_ne hb)
  · exact (ft_rows hh).mpr ((ft_rows hh').mp f)
/-- the list of lists is changed -/
theorem SR.rowsTo (S : SR K mg ps Hf H σ e) {i : Nat} {p : Addr} {k : Option Nat} {ll ll' : List (List D)} {as as' : List Addr} (h : e[i]? = some (.own k (.rows ll))) (hp : σ[i]? = some (some (.ref p)))
    (hh : H p = some (.lst (as.map V.ref))) (np' : p ∉ as') (nd' : as'.Nodup) (hr' : RwR K mg Hf H as' ll') (hm : ∀ b ∈ as', b ∈ as ∨ (Hf b = none ∧ ps.g b = none ∧ Nob H σ e b)) :
    SR K mg ps Hf (upd H p (.lst (as'.map V.ref))) σ (e.set i (.own k (.rows ll'))) := by
  have hh' : upd H p (.lst (as'.map V.ref)) p = some (.lst (as'.map V.ref)) := upd_same
  refine S.turnG h hp (fun b => ?_) hh' ⟨as', rfl, np', nd', hr'.1, fun k b l h1 h2 => ?_⟩ fun b f => ?_
  · by_cases hb : b = p
    · subst hb; exact .inr (.inl .self)
    · exact .inl (upd_ne hb)
  · obtain ⟨n1, vs, n2, n3⟩ := hr'.2 k b l h1 h2
    exact ⟨n1, vs, by rw [upd_ne (fun z => np' (by rw [← z]; exact List.mem_of_getElem? h1))]; exact n2, n3⟩
  · rcases (ft_rows hh').mp f with z | z
    · exact .inl (.inl z)
    · rcases hm b z with w | w
      · exact .inl ((ft_rows hh).mpr (.inr w))
      · exact .inr w
/-! ### an own slot hidden meanwhile -/
open Classical in
noncomputable def hideG (ps : Fg) (H : Hp) (od : OD) (p : Addr) : Fg := ⟨ps.ps, fun a => if Ft H od p a then H a else ps.g a⟩
theorem SR.hide (S : SR K mg ps Hf H σ e) {n : Nat} {k : Option Nat} {od : OD} {p : Addr} (h : e[n]? = some (.own k od)) (hp : σ[n]? = some (some (.ref p))) : SR K mg (hideG ps H od p) Hf H σ (e.set n .no) := by
  have hl : n < e.length := (List.getElem?_eq_some_iff.mp h).1
  have S1 := S.drop n (some (.ref p))
  rw [set_back hp] at S1
  refine ⟨S1.ex, S1.len, S1.sl, S1.apF, fun a o q => ?_⟩
  unfold hideG at q
  dsimp only at q
  split at q
  · rename_i f
    refine ⟨q, (S.live h hp f).1, fun j k2 l2 w q1 q2 f2 => ?_⟩
    by_cases hj : n = j
    · subst hj; rw [List.getElem?_set_self hl] at q1; cases q1
    · rw [List.getElem?_set_ne hj] at q1
      exact S.apF n j _ _ _ _ p w a hj h q1 hp q2 f f2
  · exact S1.fgF a o q
theorem SR.unhideG (S : SR K mg ps Hf H σ e) {n : Nat} {k : Option Nat} {od : OD} {p : Addr} (h : e[n]? = some (.own k od)) (hp : σ[n]? = some (some (.ref p))) {σ' : L2.St} (S' : SR K mg (hideG ps H od p) Hf' H' σ' e') : SR K mg ps Hf' H' σ' e' :=
  ⟨S'.ex, S'.len, S'.sl, S'.apF, fun a o q => by
    have hn : ¬ Ft H od p a := fun f => (S.fgF a o q).2.2 n k od p h hp f
    exact S'.fgF a o (by unfold hideG; dsimp only; rw [if_neg hn]; exact q)⟩
theorem SR.hid_keep (S : SR K mg ps Hf H σ e) {n : Nat} {k : Option Nat} {od : OD} {p a : Addr} (h : e[n]? = some (.own k od)) (hp : σ[n]? = some (some (.ref p))) {σ' : L2.St} (S' : SR K mg (hideG ps H od p) Hf' H' σ' e') (f : Ft H od p a) : H' a = H a ∧ Hf' a = none ∧ Nob H' σ' e' a := by
  obtain ⟨_, u, hu⟩ := S.live h hp f
  obtain ⟨g1, g2, g3⟩ := S'.fgF a u (by unfold hideG; dsimp only; rw [if_pos f]; exact hu)
  exact ⟨by rw [g1, hu], g2, g3⟩
theorem SR.unhide (S : SR K mg ps Hf H σ e) {n : Nat} {k : Option Nat} {od : OD} {p : Addr} (h : e[n]? = some (.own k od)) (hp : σ[n]? = some (some (.ref p))) (x : Ex Hf Hf') (S' : SR K mg (hideG ps H od p) Hf' H' σ e') (hn : e'[n]? = some .no) : SR K mg ps Hf' H' σ (e'.set n (.own k od)) := by
  obtain ⟨p', o, h1, nf, hh, hr, hk⟩ := S.own h
  rw [hp] at h1; cases h1
  have kp := fun (a : Addr) (f : Ft H od p a) => S.hid_keep h hp S' f
  have T := S.unhideG h hp S'
  have hl : n < e'.length := (List.getElem?_eq_some_iff.mp hn).1
  have fe : ∀ {a : Addr}, Ft H' od p a → Ft H od p a := fun f => f.of_eq (kp p .self).1
  have ofn : ∀ {k2 : Option Nat} {l2 : OD}, (e'.set n (.own k od))[n]? = some (.own k2 l2) → k2 = k ∧ l2 = od := fun {k2 l2} q => by
    rw [List.getElem?_set_self hl] at q; cases q; exact ⟨rfl, rfl⟩
  refine ⟨T.ex, by simp [T.len], fun j s q => ?_, fun a b k1 k' l l' q q' w hab h1 h2 h3 h4 f1 f2 => ?_, fun a u q => ?_⟩
  · by_cases hj : n = j
    · subst hj
      rw [List.getElem?_set_self hl] at q; cases q
      exact ⟨_, hp, p, o, rfl, (kp p .self).2.1, by rw [(kp p .self).1]; exact hh, hr.keep x hh (fun a f => ⟨(kp a f).2.1, (kp a f).1⟩), hk⟩
    · rw [List.getElem?_set_ne hj] at q
      exact T.sl j s q
  · by_cases ha : n = a
    · subst ha
      have hb : n ≠ b := hab
      obtain ⟨rfl, rfl⟩ := ofn h1
      rw [hp] at h3; cases h3
      rw [List.getElem?_set_ne hb] at h2
      exact (kp w (fe f1)).2.2 b k' l' q' h2 h4 f2
    · rw [List.getElem?_set_ne ha] at h1
      by_cases hb : n = b
      · subst hb
        obtain ⟨rfl, rfl⟩ := ofn h2
        rw [hp] at h4; cases h4
        exact (kp w (fe f2)).2.2 a k1 l q h1 h3 f1
      · rw [List.getElem?_set_ne hb] at h2
        exact T.apF a b k1 k' l l' q q' w hab h1 h2 h3 h4 f1 f2
  · obtain ⟨g1, g2, g3⟩ := T.fgF a u q
    refine ⟨g1, g2, fun j k2 l2 w q1 q2 f => ?_⟩
    by_cases hj : n = j
    · subst hj
      obtain ⟨rfl, rfl⟩ := ofn q1
      rw [hp] at q2; cases q2
      exact (S.fgF a u q).2.2 n _ _ p h hp (fe f)
    · rw [List.getElem?_set_ne hj] at q1
      exact g3 j k2 l2 w q1 q2 f
end
/-- f, while slot n (a list of lists) is hidden -/
def hid {α : Type} (n : Nat) (f : M α) : M α := fun env => match rowsAt env n with
  | some (k, ll) => (match f (env.set n .no) with
    | .ok x e' => (match e'[n]? with | some .no => .ok x (e'.set n (.own k (.rows ll))) | _ => .stuck)
    | .exc x p e' => .exc x p e'
    | .stuck => .stuck)
  | none => .stuck
/-! ### fresh rows -/
def RGd (K : PySem.W.Frag) (mg : MG) (ps : Fg) (W : WX) (Hf : Hp) (σ : L2.St) (Q : VK) : Res (List (List D)) → Prop
  | .ok ll e' => ∀ Hf' H' p as, Ex Hf Hf' → SR K mg ps Hf' H' σ e' → H' p = some (.lst (as.map V.ref)) → Hf' p = none → p ∉ as → as.Nodup → RwR K mg Hf' H' as ll → (∀ a, a = p ∨ a ∈ as → ps.g a = none ∧ Nob H' σ e' a) → Q (.ref p) H'
  | .exc x p e' => ∀ cls dd Hf' H', Ex Hf Hf' → SR K mg ps Hf' H' σ e' → IsExc K mg Hf' x p cls dd → W cls dd σ H'
  | .stuck => False
theorem RGd.mono {K : PySem.W.Frag} {mg : MG} {ps : Fg} {W : WX} {Hf Hf' : Hp} {σ : L2.St} {Q : VK} (x : Ex Hf Hf') : ∀ {r : Res (List (List D))}, RGd K mg ps W Hf σ Q r → RGd K mg ps W Hf' σ Q r
  | .ok _ _, h => fun Hf2 H2 p as y s => h Hf2 H2 p as (x.trans y) s
  | .exc _ _ _, h => fun c d Hf2 H2 y s z => h c d Hf2 H2 (x.trans y) s z
  | .stuck, h => h
structure JR (X : Cx) (W : WX) (e : Expr) (f : M (List (List D))) : Prop where
  ex : ∃ t, PE X e t ∧ ∀ (ps : Fg) (σ : L2.St) (Hf H : Hp) (env : DEnv), SR X.K X.mg ps Hf H σ env → ∀ Q : VK, RGd X.K X.mg ps W Hf σ Q (f env) → t σ H Q
section
variable {X : Cx} {W : WX} {a b c e : Expr} {es : List Expr} {fa fb fc : M D} {pos : Pos} {N : List Str} {sc raw : Scope} {f : M (List D)} {fr : M (List (List D))}
def mOwnR (i : Nat) (f : M (List (List D))) : M Fl := bnd f fun ll env => .ok .nx (env.set i (.own none (.rows ll)))
theorem own_setR {ps : Fg} {σ : L2.St} {Hf : Hp} {env : DEnv} {De : Ends} {i : Nat} (z : SG X.K X.mg ps W De Hf (mOwnR i fr env)) : RGd X.K X.mg ps W Hf σ (fun v H' => De.nx (σ.set i (some v)) H') (fr env) := by
  unfold mOwnR bnd at z
  cases q : fr env with
  | ok ds e' =>
    rw [q] at z
    exact fun Hf' H' p as x S hp nf np nd r no => z _ Hf' H' x (S.takeG i hp nf ⟨as, rfl, np, nd, r⟩ fun a f => no a ((ft_rows hp).mp f))
  | exc x p e' => rw [q] at z; exact fun cls dd Hf' H' x S ie => z cls dd σ Hf' H' x S ie
  | stuck => rw [q] at z; exact z
theorem js_ownR (V : Nm X N sc raw) {i : Nat} {x : Str} {pos' : Pos} (hS : okS N sc raw i x = true) (j : JR X W e fr)
    (hs : swapsWith e (some (.Name x pos')) pos.line X.env = pure false := by rfl) : JS X W (.Assign [.Name x pos'] e pos) (mOwnR i fr) := by
  obtain ⟨hi, hx, hf⟩ := V.s hS
  have hN := V.nodup
  obtain ⟨t, p, h⟩ := j.ex
  exact ⟨⟨_, ps_set (i := i) hN hi hx p hs hf, fun ps σ Hf H env S De z => h ps σ Hf H env S _ (own_setR z)⟩⟩
/-! ### [fresh list for tg in iter] -/
def lcR (vs : List Nat) (g : D → M Unit) (el : M (List D)) : List D → List (List D) → M (List (List D))
  | [], acc => ret acc
  | d :: r, acc => bnd (g d) fun _ => bnd el (fun y e => if acc.length < sizeLine then lcR vs g el r (acc ++ [y]) (wipeE e vs) else .stuck)
def mLcR (vs : List Nat) (fi : M (List D)) (g : D → M Unit) (el : M (List D)) : M (List (List D)) := bnd fi fun ds e0 => if noOwn e0 vs = true then
  (match lcR vs g el ds [] (wipeE e0 vs) with | .ok acc e => .ok acc (backE e0 e vs) | _ => .stuck) else .stuck
structure LrR (X : Cx) (W : WX) (ps : Fg) (σ : L2.St) (Q : VK) (R : Hp → Res (List (List D)) → Prop) : Prop where
  mono : ∀ {Hf Hf' : Hp} {r : Res (List (List D))}, Ex Hf Hf' → R Hf r → R Hf' r
  st : ∀ Hf, ¬ R Hf .stuck
  ex : ∀ {Hf : Hp} {x : Str} {p : Option D} {e : DEnv}, R Hf (.exc x p e) → ∀ cls dd Hf' H', Ex Hf Hf' → SR X.K X.mg ps Hf' H' σ e → IsExc X.K X.mg Hf' x p cls dd → W cls dd σ H'
  ok : ∀ {Hf H : Hp} {e : DEnv} {p : Addr} {as : List Addr} {ll : List (List D)}, SR X.K X.mg ps Hf H σ e → H p = some (.lst (as.map V.ref)) → Hf p = none → p ∉ as → as.Nodup → RwR X.K X.mg Hf H as ll →
    (∀ a, a = p ∨ a ∈ as → ps.g a = none ∧ Nob H σ e a) → R Hf (.ok ll e) → Q (.ref p) H
/-- what stands between two turns of the walk: the lists made so far -/
structure Made (K : PySem.W.Frag) (mg : MG) (ps : Fg) (Hf H : Hp) (σ : L2.St) (e : DEnv) (D : Addr) (as : List Addr) (ll : List (List DL.D)) : Prop where
  hD : H D = some (.lst (as.map V.ref))
  nf : Hf D = none
  np : D ∉ as
  nd : as.Nodup
  rw : RwR K mg Hf H as ll
  no : ∀ a, a = D ∨ a ∈ as → ps.g a = none ∧ Nob H σ e a
theorem Made.liv {K : PySem.W.Frag} {mg : MG} {ps : Fg} {Hf H : Hp} {σ : L2.St} {e : DEnv} {D : Addr} {as : List Addr} {ll : List (List DL.D)} (M : Made K mg ps Hf H σ e D as ll) {a : Addr} (h : a = D ∨ a ∈ as) : Hf a = none ∧ ∃ u, H a = some u := by
  rcases h with rfl | h
  · exact ⟨M.nf, _, M.hD⟩
  · obtain ⟨k, hk, rfl⟩ := List.mem_iff_getElem.mp h
    obtain ⟨a1, vs, a2, _⟩ := M.rw.2 k as[k] (ll[k]'(by have := M.rw.1; omega)) (List.getElem?_eq_getElem hk) (List.getElem?_eq_getElem (by have := M.rw.1; omega))
    exact ⟨a1, _, a2⟩
open Classical in
noncomputable def madeG (ps : Fg) (H : Hp) (D : Addr) (as : List Addr) : Fg := ⟨ps.ps, fun a => if a = D ∨ a ∈ as then H a else ps.g a⟩
theorem Made.toP {K : PySem.W.Frag} {mg : MG} {ps : Fg} {Hf H : Hp} {σ : L2.St} {e : DEnv} {D : Addr} {as : List Addr} {ll : List (List DL.D)} (M : Made K mg ps Hf H σ e D as ll) (S : SR K mg ps Hf H σ e) : SR K mg (madeG ps H D as) Hf H σ e :=
  ⟨S.ex, S.len, S.sl, S.apF, fun a o q => by
    unfold madeG at q
    dsimp only at q
    split at q
    · rename_i f
      exact ⟨q, (M.liv f).1, (M.no a f).2⟩
    · exact S.fgF a o q⟩
theorem Made.ofP {K : PySem.W.Frag} {mg : MG} {ps : Fg} {Hf H Hf' H' : Hp} {σ σ' : L2.St} {e e' : DEnv} {D : Addr} {as : List Addr} {ll : List (List DL.D)} (M : Made K mg ps Hf H σ e D as ll) (x : Ex Hf Hf') (S : SR K mg (madeG ps H D as) Hf' H' σ' e') : SR K mg ps Hf' H' σ' e' ∧ Made K mg ps Hf' H' σ' e' D as ll := by
  have kp : ∀ a, a = D ∨ a ∈ as → H' a = H a ∧ Hf' a = none ∧ Nob H' σ' e' a := fun a f => by
    obtain ⟨_, u, hu⟩ := M.liv f
    obtain ⟨g1, g2, g3⟩ := S.fgF a u (by unfold madeG; dsimp only; rw [if_pos f]; exact hu)
    exact ⟨by rw [g1, hu], g2, g3⟩
  refine ⟨⟨S.ex, S.len, S.sl, S.apF, fun a o q => S.fgF a o ?_⟩, by rw [(kp D (.inl rfl)).1]; exact M.hD, (kp D (.inl rfl)).2.1, M.np, M.nd, ⟨M.rw.1, fun k a l h1 h2 => ?_⟩, fun a f => ⟨(M.no a f).1, (kp a f).2.2⟩⟩
  · unfold madeG; dsimp only
    rw [if_neg (fun f => by rw [(M.no a f).1] at q; cases q)]
    exact q
  · obtain ⟨n1, vs, n2, n3⟩ := M.rw.2 k a l h1 h2
    have k0 := kp a (.inr (List.mem_of_getElem? h1))
    exact ⟨k0.2.1, vs, by rw [k0.1]; exact n2, n3.mono x⟩
theorem Made.wipe {K : PySem.W.Frag} {mg : MG} {ps : Fg} {Hf H : Hp} {σ : L2.St} {e : DEnv} {D : Addr} {as : List Addr} {ll : List (List DL.D)} (M : Made K mg ps Hf H σ e D as ll) (vs : List Nat) : Made K mg ps Hf H (L2.wipe σ vs) (wipeE e vs) D as ll :=
  ⟨M.hD, M.nf, M.np, M.nd, M.rw, fun a f => ⟨(M.no a f).1, (M.no a f).2.wipe vs⟩⟩
theorem lcR_ok {scope : Scope} {own : List (Str × Nat)} {tg iter elt : Expr} {fi : M (List D)} {g : D → M Unit} {el : M (List D)} {vs : List Nat} (C : CtxOk X W) (V : Nm X N sc raw) (hb : blkC N sc scope own = true)
    (ji : JI X W tg iter fi) (jg : InBl X N sc scope fun X' => JGv X' vs tg g) (je : InBl X N sc scope fun X' => JF X' WF elt el) :
    ∃ wi g' tt' te, PI X tg iter wi ∧ BlkOk X.N X.env.scope scope own ∧
      (∀ (s : Shared) (H : Hp) (Ca : Addr) (cl : List (Str × Addr)) (fp : List Addr), PG (X.blk s H scope (compEnvC scope cl Ca X.env) fp) tg g') ∧
      (∀ (s : Shared) (H : Hp) (Ca : Addr) (cl : List (Str × Addr)) (fp : List Addr), PTs (X.blk s H scope (compEnvC scope cl Ca X.env) fp) [] tt') ∧
      (∀ (s : Shared) (H : Hp) (Ca : Addr) (cl : List (Str × Addr)) (fp : List Addr), PE (X.blk s H scope (compEnvC scope cl Ca X.env) fp) elt te) ∧
      ∀ (ps : Fg) (σ : L2.St) (Hf H : Hp) (env : DEnv), SR X.K X.mg ps Hf H σ env → ∀ Q : VK, ∀ R : Hp → Res (List (List D)) → Prop, LrR X W ps σ Q R → R Hf (mLcR vs fi g el env) → tLc wi g' tt' te vs σ H Q := by
  have ok : BlkOk N sc scope own := blkOk_by hb
  obtain ⟨wi, pi, hi⟩ := ji.ex
  have hg := blk_ok C V ok.kind jg
  have ht := blk_ok C V ok.kind (J := fun X' => JTs X' WF [] (ret true)) fun _ _ _ _ => jts_nil
  have he := blk_ok C V ok.kind je
  let tg' : TG := fun v σ H Q => ∀ (s : Shared) (H0 : Hp) (Ca : Addr) (cl : List (Str × Addr)) (fp : List Addr), Classical.choose (hg s H0 Ca cl fp).ex v σ H Q
  let tt' : TT := fun σ H Q => ∀ (s : Shared) (H0 : Hp) (Ca : Addr) (cl : List (Str × Addr)) (fp : List Addr), Classical.choose (ht s H0 Ca cl fp).ex σ H Q
  let te : TE := fun σ H Q => ∀ (s : Shared) (H0 : Hp) (Ca : Addr) (cl : List (Str × Addr)) (fp : List Addr), Classical.choose (he s H0 Ca cl fp).ex σ H Q
  refine ⟨wi, tg', tt', te, pi, by rw [V.hN, V.hs]; exact ok, fun s H0 Ca cl fp => ⟨fun pins s' σ H v u Q I r z => (Classical.choose_spec (hg s H0 Ca cl fp).ex).1.run pins s' σ H v u Q I r (z s H0 Ca cl fp)⟩,
    fun s H0 Ca cl fp => ⟨fun pins s' σ H Q I z => (Classical.choose_spec (ht s H0 Ca cl fp).ex).1.run pins s' σ H Q I (z s H0 Ca cl fp)⟩,
    fun s H0 Ca cl fp => ⟨fun pins s' σ H Q I z => (Classical.choose_spec (he s H0 Ca cl fp).ex).1.run pins s' σ H Q I (z s H0 Ca cl fp)⟩, fun ps σ Hf H env S Q R LR z => ?_⟩
  have sg : ∀ (ps : Fg) (σ : L2.St) (Hf H : Hp) (env : DEnv) (v : L2.V) (d : D), SR X.K X.mg ps Hf H σ env → Rp X.K X.mg Hf v d → ∀ Q : L2.St → Hp → Prop, UGv X.K X.mg ps σ vs Q Hf (g d env) → tg' v σ H Q :=
    fun ps σ Hf H env v d S r Q z s H0 Ca cl fp => (Classical.choose_spec (hg s H0 Ca cl fp).ex).2 ps σ Hf H env v d S r Q z
  have st : ∀ (ps : Fg) (σ : L2.St) (Hf H : Hp) (env : DEnv), SR X.K X.mg ps Hf H σ env → ∀ Q : Bool → Hp → Prop, EG X.K X.mg ps WF Hf σ (Pb Q) ((ret true : M Bool) env) → tt' σ H Q :=
    fun ps σ Hf H env S Q z s H0 Ca cl fp => (Classical.choose_spec (ht s H0 Ca cl fp).ex).2 ps σ Hf H env S Q z
  have se : ∀ (ps : Fg) (σ : L2.St) (Hf H : Hp) (env : DEnv), SR X.K X.mg ps Hf H σ env → ∀ Q : VK, FGd X.K X.mg ps WF Hf σ Q (el env) → te σ H Q :=
    fun ps σ Hf H env S Q z s H0 Ca cl fp => (Classical.choose_spec (he s H0 Ca cl fp).ex).2 ps σ Hf H env S Q z
  refine hi ps σ Hf H env S _ ?_
  unfold mLcR DL.bnd at z
  cases qfi : fi env with
  | exc x p e1 => rw [qfi] at z; exact LR.ex z
  | stuck => rw [qfi] at z; exact (LR.st _ z).elim
  | ok ds e1 =>
  rw [qfi] at z
  intro Hf1 H1 x1 S1 J ok
  have z1 := LR.mono x1 z
  dsimp only at z1
  intro Dd nD
  by_cases hno : noOwn e1 vs = true
  · rw [if_pos hno] at z1
    have nfD : Hf1 Dd = none := fresh_back S1.ex nD
    refine ⟨fun i m H => i + m = ds.length ∧ ∃ (e : DEnv) (Hf : Hp) (acc : List (List D)) (as : List Addr), Ex Hf1 Hf ∧ SR X.K X.mg ps Hf H (L2.wipe σ vs) e ∧ Made X.K X.mg ps Hf H (L2.wipe σ vs) e Dd as acc ∧
        R Hf (match lcR vs g el (ds.drop i) acc e with | .ok acc e => Res.ok acc (backE e1 e vs) | _ => Res.stuck), ⟨ds.length, Nat.zero_add _, ?_⟩, ?_⟩
    · have S2 := (S1.laid (p := Dd) (o := .lst []) nD).wipe vs
      refine ⟨_, Hf1, [], [], Ex.refl _, S2, ⟨upd_same, nfD, List.not_mem_nil, List.nodup_nil, ⟨rfl, fun k a l h1 h2 => by cases h1⟩, fun a f => ?_⟩, z1⟩
      rcases f with rfl | f
      · exact ⟨S1.ng_new nD, ((S1.wipe vs).nob_new nD).upd⟩
      · cases f
    · rintro i m H ⟨hm, e, Hf, acc, as, x, S, MD, z⟩
      by_cases hlt : i < ds.length
      · obtain ⟨d, hd⟩ : ∃ d, ds[i]? = some d := ⟨ds[i], List.getElem?_eq_getElem hlt⟩
        have e0 : ds.drop i = d :: ds.drop (i + 1) := by
          rw [List.drop_eq_getElem_cons hlt]
          have := List.getElem?_eq_getElem hlt
          rw [hd] at this; cases this; rfl
        rw [e0] at z
        have S' := MD.toP S
        obtain ⟨go, yld⟩ := ok.go i d hd (madeG ps H Dd as) (L2.wipe σ vs) e Hf H x S'
        refine .inr ⟨go, fun H => i + 1 + (m - 1) = ds.length ∧ ∃ (e : DEnv) (Hf : Hp) (acc : List (List D)) (as : List Addr), Ex Hf1 Hf ∧ SR X.K X.mg ps Hf H (L2.wipe σ vs) e ∧ Made X.K X.mg ps Hf H (L2.wipe σ vs) e Dd as acc ∧
          R Hf (match lcR vs g el (ds.drop (i + 1)) acc e with | .ok acc e => Res.ok acc (backE e1 e vs) | _ => Res.stuck), fun H' w => ⟨m - 1, by omega, w⟩, fun v H3 y => ?_⟩
        obtain ⟨Hf3, x3, S3, r3⟩ := yld v H3 y
        refine sg (madeG ps H Dd as) (L2.wipe σ vs) Hf3 H3 e v d S3 r3 _ ?_
        have z0 : ∀ {r : Res (List (List D))}, R Hf (match r with | .ok acc e => Res.ok acc (backE e1 e vs) | _ => Res.stuck) → ∃ acc e, r = .ok acc e := fun {r} w => by
          cases r with
          | ok acc e => exact ⟨acc, e, rfl⟩
          | exc _ _ _ => exact (LR.st _ w).elim
          | stuck => exact (LR.st _ w).elim
        obtain ⟨accF, eF, hF⟩ := z0 z
        unfold lcR DL.bnd at hF z
        cases q1 : g d e with
        | exc _ _ _ => rw [q1] at hF; cases hF
        | stuck => rw [q1] at hF; cases hF
        | ok u e4 =>
          rw [q1] at hF z
          intro σ4 Hf4 H4 x4 S4 hw
          have hww : L2.wipe σ4 vs = L2.wipe σ vs := by rw [hw, wipe_idem]
          refine ⟨hww, ?_⟩
          dsimp only at hF z
          refine st (madeG ps H Dd as) σ4 Hf4 H4 e4 S4 _ ?_
          intro Hf5 H5 x5 S5
          unfold Pb
          dsimp only
          rw [if_pos rfl]
          refine se (madeG ps H Dd as) σ4 Hf5 H5 e4 S5 _ ?_
          cases q3 : el e4 with
          | exc _ _ _ => rw [q3] at hF; cases hF
          | stuck => rw [q3] at hF; cases hF
          | ok y e7 =>
            rw [q3] at hF z
            intro Hf7 H7 q vy x7 S7 hq nq ngq rq noq
            dsimp only at hF z
            by_cases hz : acc.length < sizeLine
            · rw [if_pos hz] at hF z
              have xx := x3.trans (x4.trans (x5.trans x7))
              obtain ⟨S8, M8⟩ := MD.ofP xx S7
              have rl := M8.rw.1
              -- the new list's address is none of the others
              have hq0 : ¬ (q = Dd ∨ q ∈ as) := fun f => by
                obtain ⟨_, u, hu⟩ := MD.liv f
                have : (madeG ps H Dd as).g q = H q := by unfold madeG; dsimp only; rw [if_pos f]
                rw [this, hu] at ngq; cases ngq
              have ngq' : ps.g q = none := by
                have : (madeG ps H Dd as).g q = ps.g q := by unfold madeG; dsimp only; rw [if_neg hq0]
                rw [← this]; exact ngq
              have hqD : q ≠ Dd := fun w => hq0 (.inl w)
              have hqa : q ∉ as := fun w => hq0 (.inr w)
              refine ⟨as.map L2.V.ref, M8.hD, by rw [List.length_map]; omega, by omega, wipeE e7 vs, Hf7, acc ++ [y], as ++ [q], x.trans xx, ?_, ?_, LR.mono xx z⟩
              · have S9 : SR X.K X.mg ps Hf7 (upd H7 Dd (.lst (as.map L2.V.ref ++ [L2.V.ref q]))) σ4 e7 := by
                  have n8 := (M8.no Dd (.inl rfl)).2
                  refine S8.frame (Ex.refl _) (fun a o w => ?_) (fun i k l p a h1 h2 f => ?_) fun a o w => ?_
                  · rw [upd_ne (ne_of_none w M8.nf)]; exact S8.ex a o w
                  · exact ⟨(S8.live h1 h2 f).1, upd_ne fun w => by subst w; exact n8 i k l p h1 h2 f⟩
                  · obtain ⟨g1, g2, g3⟩ := S8.fgF a o w
                    exact ⟨by rw [upd_ne (fun w' => by subst w'; rw [(M8.no a (.inl rfl)).1] at w; cases w)]; exact g1, g2⟩
                have S10 := S9.wipe vs
                rw [hww] at S10
                exact S10
              · have hm : (as ++ [q]).map L2.V.ref = as.map L2.V.ref ++ [L2.V.ref q] := by rw [List.map_append]; rfl
                have nob : ∀ a, Nob H7 σ4 e7 a → Nob (upd H7 Dd (.lst (as.map L2.V.ref ++ [L2.V.ref q]))) (L2.wipe σ vs) (wipeE e7 vs) a := fun a n => by
                  have n8 := (M8.no Dd (.inl rfl)).2
                  have n9 : Nob (upd H7 Dd (.lst (as.map L2.V.ref ++ [L2.V.ref q]))) σ4 e7 a := fun i k l p q1 q2 f => by
                    by_cases hp : p = Dd
                    · subst hp; exact n8 i k l p q1 q2 .self
                    · exact n i k l p q1 q2 (f.of_eq (upd_ne hp))
                  have n10 := n9.wipe vs
                  rw [hww] at n10
                  exact n10
                refine ⟨by rw [hm]; exact upd_same, M8.nf, fun w => ?_, ?_, ⟨by rw [List.length_append, List.length_append, rl]; rfl, fun k a l h1 h2 => ?_⟩, fun a f => ?_⟩
                · rcases List.mem_append.mp w with w | w
                  · exact M8.np w
                  · exact hqD (List.mem_singleton.mp w).symm
                · rw [List.nodup_append]
                  exact ⟨M8.nd, by simp, fun a h1 b h2 => by rw [List.mem_singleton.mp h2]; exact fun w => hqa (by rw [← w]; exact h1)⟩
                · by_cases hk : k < as.length
                  · rw [List.getElem?_append_left hk] at h1
                    rw [List.getElem?_append_left (by omega)] at h2
                    obtain ⟨n1, ws, n2, n3⟩ := M8.rw.2 k a l h1 h2
                    exact ⟨n1, ws, by rw [upd_ne (fun w => M8.np (by rw [← w]; exact List.mem_of_getElem? h1))]; exact n2, n3⟩
                  · rw [List.getElem?_append_right (by omega)] at h1
                    rw [List.getElem?_append_right (by omega)] at h2
                    have k0 : k - as.length = 0 := by
                      have := (List.getElem?_eq_some_iff.mp h1).1
                      simp at this; omega
                    have k1 : k - acc.length = 0 := by omega
                    rw [k0] at h1; rw [k1] at h2
                    cases h1; cases h2
                    exact ⟨nq, vy, by rw [upd_ne hqD]; exact hq, rq⟩
                · rcases f with rfl | f
                  · exact ⟨(M8.no a (.inl rfl)).1, nob a (M8.no a (.inl rfl)).2⟩
                  · rcases List.mem_append.mp f with f | f
                    · exact ⟨(M8.no a (.inr f)).1, nob a (M8.no a (.inr f)).2⟩
                    · rw [List.mem_singleton.mp f]
                      exact ⟨ngq', nob q noq⟩
            · rw [if_neg hz] at hF; cases hF
      · refine .inl ⟨ok.stop i (by omega) ps (L2.wipe σ vs) e Hf H x S, ?_⟩
        rw [List.drop_eq_nil_of_le (by omega)] at z
        exact LR.ok (S1.back x S hno) MD.hD MD.nf MD.np MD.nd MD.rw (fun a f => ⟨(MD.no a f).1, (MD.no a f).2.back (by rw [← S.len, L2.wipe_length, S1.len]) hno⟩) z
  · rw [if_neg hno] at z1; exact (LR.st _ z1).elim
theorem jr_lc {scope : Scope} {own : List (Str × Nat)} {vs : List Nat} {tg iter elt : Expr} {fi : M (List D)} {g : D → M Unit} {el : M (List D)} (C : CtxOk X W) (V : Nm X N sc raw) (hb : blkC N sc scope own = true) (hvs : own.map (·.2) = vs)
    (ji : JI X W tg iter fi) (jg : InBl X N sc scope fun X' => JGv X' vs tg g) (je : InBl X N sc scope fun X' => JF X' WF elt el) (hs : ∀ x, foldedSetIterable iter X.env x = pure x := by intro _; rfl) :
    JR X W (.ListComp elt [⟨tg, iter, [], 0⟩] scope pos) (mLcR vs fi g el) := by
  subst hvs
  obtain ⟨wi, g', tt', te, pi, ok, pg, pt, pe, h⟩ := lcR_ok C V hb ji jg je
  exact ⟨⟨_, pe_lc C.calm V.nodup pi ok pg pt pe hs, fun ps σ Hf H env S Q z => h ps σ Hf H env S Q (RGd X.K X.mg ps W Hf σ Q |> fun _ => fun Hf r => RGd X.K X.mg ps W Hf σ Q r) ⟨fun x r => RGd.mono x r, fun _ z => z, fun z => z, fun {Hf H e p as ll} S hp nf np nd r no z => z Hf H p as (Ex.refl _) S hp nf np nd r no⟩ z⟩⟩
theorem js_ownRLc {i : Nat} {y : Str} {py spos : Pos} {scope : Scope} {own : List (Str × Nat)} {vs : List Nat} {tg iter elt : Expr} {fi : M (List D)} {g : D → M Unit} {el : M (List D)} (C : CtxOk X W) (V : Nm X N sc raw) (hS : okS N sc raw i y = true) (hl : sc.names.lookup y = some .local) (hb : blkC N sc scope own = true) (hvs : own.map (·.2) = vs)
    (hp : (py.line == pos.line) = true) (hna : (scope.names.any fun (n, k) => n == y && (k == .local || k == .cell)) = false)
    (ji : JI X W tg iter fi) (jg : InBl X N sc scope fun X' => JGv X' vs tg g) (je : InBl X N sc scope fun X' => JF X' WF elt el) (hs : ∀ x, foldedSetIterable iter X.env x = pure x := by intro _; rfl) :
    JS X W (.Assign [.Name y py] (.ListComp elt [⟨tg, iter, [], 0⟩] scope pos) spos) (mOwnR i (mLcR vs fi g el)) := by
  subst hvs
  obtain ⟨hi, hx, hf⟩ := V.s hS
  obtain ⟨wi, g', tt', te, pi, ok, pg, pt, pe, h⟩ := lcR_ok C V hb ji jg je
  have hll : X.env.scope.names.lookup y = some .local := by rw [V.hs]; exact hl
  refine ⟨⟨_, ps_setLc C.calm V.nodup hi hll (sw_true (by rw [V.hs]; exact V.kind) hll hp hna) pi ok pg pt pe hs, fun ps σ Hf H env S De z => ?_⟩⟩
  have z := own_setR (σ := σ) z
  exact h ps σ Hf H env S (fun v H' => De.nx (σ.set i (some v)) H') (fun Hf r => RGd X.K X.mg ps W Hf σ (fun v H' => De.nx (σ.set i (some v)) H') r) ⟨fun x r => RGd.mono x r, fun _ z => z, fun z => z, fun {Hf H e p as ll} S hp nf np nd r no z => z Hf H p as (Ex.refl _) S hp nf np nd r no⟩ z
/-! ### x[i], a list of x -/
def mRowIx (n : Nat) (fb : M D) : M Nat := fun env => match rowsAt env n with
  | some _ => bnd fb (fun d env => match d, rowsAt env n with | .int j, some (_, ll) => (match ixN ll.length j with | some m => .ok m env | none => .stuck) | _, _ => .stuck) env
  | none => .stuck
def OG (K : PySem.W.Frag) (mg : MG) (ps : Fg) (W : WX) (Hf : Hp) (σ : L2.St) (n : Nat) (Q : VK) : Res Nat → Prop
  | .ok m e' => ∀ (Hf' H' : Hp) (p : Addr) (as : List Addr) (a : Addr) (k : Option Nat) (ll : List (List D)), Ex Hf Hf' → SR K mg ps Hf' H' σ e' → e'[n]? = some (.own k (.rows ll)) → σ[n]? = some (some (.ref p)) → H' p = some (.lst (as.map L2.V.ref)) → as[m]? = some a → Q (.ref a) H'
  | .exc x p e' => ∀ cls dd Hf' H', Ex Hf Hf' → SR K mg ps Hf' H' σ e' → IsExc K mg Hf' x p cls dd → W cls dd σ H'
  | .stuck => False
structure JRow (X : Cx) (W : WX) (n : Nat) (e : Expr) (f : M Nat) : Prop where
  ex : ∃ t, PE X e t ∧ ∀ (ps : Fg) (σ : L2.St) (Hf H : Hp) (env : DEnv), SR X.K X.mg ps Hf H σ env → ∀ Q : VK, OG X.K X.mg ps W Hf σ n Q (f env) → t σ H Q
theorem jrow_ix (V : Nm X N sc raw) {n : Nat} {x : Str} {p1 : Pos} (hv : okV N sc n x = true) (jb : JE X W b fb) (hs : PlainIx b := by exact fun _ _ => rfl) : JRow X W n (.Subscript (.Name x p1) b pos) (mRowIx n fb) := by
  obtain ⟨hN, hvi, hd, hcd⟩ := V.v hv
  obtain ⟨tb, pb, hb⟩ := jb.ex
  refine ⟨⟨_, pe_ix ix_list (pe_var hN hvi hd hcd) pb hs, fun ps σ Hf H env S Q z => ?_⟩⟩
  unfold mRowIx at z
  cases w : rowsAt env n with
  | none => rw [w] at z; exact z.elim
  | some kl =>
    obtain ⟨k, ll⟩ := kl
    rw [w] at z
    obtain ⟨p, o, hp, nf, hh, _, _⟩ := S.own (rowsAt_eq w)
    refine ⟨.ref p, hp, hb ps σ Hf H env S _ ?_⟩
    have z : OG X.K X.mg ps W Hf σ n Q (bnd fb (fun d env => match d, rowsAt env n with | .int j, some (_, ll) => (match ixN ll.length j with | some m => .ok m env | none => .stuck) | _, _ => .stuck) env) := z
    unfold bnd at z
    cases q : fb env with
    | exc x2 p2 e2 => rw [q] at z; exact z
    | stuck => rw [q] at z; exact z
    | ok d e2 =>
      rw [q] at z
      intro Hf2 H2 x2 S2 v rv
      dsimp only at z
      cases d with
      | int j =>
        cases w2 : rowsAt e2 n with
        | none => simp only [w2] at z; exact z.elim
        | some kl2 =>
          obtain ⟨k2, ll2⟩ := kl2
          simp only [w2] at z
          cases hj : ixN ll2.length j with
          | none => simp only [hj] at z; exact z.elim
          | some m =>
            simp only [hj] at z
            obtain ⟨p2, o2, hp2, nf2, hh2, ⟨as, rfl, np, nd, hr⟩, hk⟩ := S2.own (rowsAt_eq w2)
            rw [hp] at hp2; cases hp2
            obtain ⟨_, hm, _⟩ := ixN_seq hj
            have hm' : m < as.length := by rw [hr.1]; exact hm
            rw [rv.int_inv]
            refine ⟨p, as.map L2.V.ref, j, .ref as[m], rfl, rfl, .inl (.inl hh2), ?_, z Hf2 H2 p as as[m] k2 ll2 x2 S2 (rowsAt_eq w2) hp hh2 (List.getElem?_eq_getElem hm')⟩
            unfold atI
            rw [List.length_map, hr.1, hj]
            show (as.map L2.V.ref)[m]? = _
            rw [List.getElem?_map, List.getElem?_eq_getElem hm']
            rfl
      | _ => exact z.elim
/-! ### x[i][k] = e -/
def kSetRR (n m : Nat) (d kd : D) : M Fl := fun env => match kd, rowsAt env n with
  | .int j, some (k, ll) => (match ll[m]? with
    | some l => (match ixN l.length j with | some q => .ok .nx (env.set n (.own k (.rows (ll.set m (l.set q d))))) | none => .stuck)
    | none => .stuck)
  | _, _ => .stuck
def mSetRR (n : Nat) (fr : M Nat) (fk fe : M D) : M Fl := bnd fe fun d => bnd fr fun m => bnd (hid n fk) fun kd => kSetRR n m d kd
theorem js_setRR {bs : Expr} {n : Nat} {fw : M Nat} {p2 : Pos} (jr : JRow X W n bs fw) (j : JE X W e fa) (k : JE X W b fb)
    (ha : ∀ v, assign (.Subscript bs b p2) X.env v = (do
      let ov ← holding [v] (eval bs X.env)
      let iv ← holding [v, ov] (eval b X.env)
      standAt p2
      holding [v, ov, iv] (setItem ov iv v)
      release [v, ov, iv] []) := by intro _; rfl)
    (hs : swapsWithSole [.Subscript bs b p2] e pos.line X.env = pure false := by rfl) (hw : swappedStores [.Subscript bs b p2] e X.env = pure none := by rfl) (h1 : (assignEach [.Subscript bs b p2] X.env).map (·.2) = [assign (.Subscript bs b p2) X.env] := by rfl) :
    JS X W (.Assign [.Subscript bs b p2] e pos) (mSetRR n fw fb fa) := by
  obtain ⟨t, p, h⟩ := j.ex
  obtain ⟨tr, pr, hr⟩ := jr.ex
  obtain ⟨tb, pb, hb⟩ := k.ex
  refine ⟨⟨_, ps_asg p (pg_sub pr pb set_list ha) hs hw h1, fun ps σ Hf H env S De z => ?_⟩⟩
  refine h ps σ Hf H env S _ (SG.bnd z fun d e1 Hf1 H1 x1 S1 z1 v rv => ?_)
  refine hr ps σ Hf1 H1 e1 S1 _ ?_
  unfold bnd at z1
  cases q1 : fw e1 with
  | exc x2 p2 e2 => rw [q1] at z1; exact fun cls dd Hf' H' x S ie => z1 cls dd σ Hf' H' x S ie
  | stuck => rw [q1] at z1; exact z1
  | ok m e2 =>
    rw [q1] at z1
    intro Hf2 H2 pa as a kk ll x2 S2 he hp hh ham
    have z2 := SG.mono x2 z1
    have w2 : rowsAt e2 n = some (kk, ll) := by unfold rowsAt; rw [he]
    have SH := S2.hide he hp
    refine hb _ σ Hf2 H2 (e2.set n .no) SH _ ?_
    dsimp only at z2
    unfold hid at z2
    simp only [w2] at z2
    cases q3 : fb (e2.set n .no) with
    | exc x3 p3 e3 => simp only [q3] at z2; exact fun cls dd Hf' H' x S ie => z2 cls dd σ Hf' H' x (S2.unhideG he hp S) ie
    | stuck => simp only [q3] at z2; exact z2
    | ok kd e3 =>
      simp only [q3] at z2
      intro Hf3 H3 x3 S3 u ru
      cases q4 : e3[n]? with
      | none => simp only [q4] at z2; exact z2.elim
      | some s3 =>
        cases s3 with
        | no =>
          simp only [q4] at z2
          have S4 := S2.unhide he hp x3 S3 q4
          have hl3 : n < e3.length := (List.getElem?_eq_some_iff.mp q4).1
          have he4 : (e3.set n (.own kk (.rows ll)))[n]? = some (.own kk (.rows ll)) := List.getElem?_set_self hl3
          have w4 : rowsAt (e3.set n (.own kk (.rows ll))) n = some (kk, ll) := by unfold rowsAt; rw [he4]
          have hh3 : H3 pa = some (.lst (as.map L2.V.ref)) := by rw [(S2.hid_keep he hp S3 .self).1]; exact hh
          unfold kSetRR at z2
          cases kd with
          | int jj =>
            simp only [w4] at z2
            cases hl : ll[m]? with
            | none => simp only [hl] at z2; exact z2.elim
            | some l =>
              simp only [hl] at z2
              cases hj : ixN l.length jj with
              | none => simp only [hj] at z2; exact z2.elim
              | some q =>
                simp only [hj] at z2
                obtain ⟨p5, o5, h51, _, h52, ⟨bs5, rfl, _, _, r5⟩, _⟩ := S4.own he4
                rw [hp] at h51; cases h51
                have hb5 : bs5 = as := ref_inj (HO.lst.inj (Option.some.inj (h52.symm.trans hh3)))
                subst hb5
                obtain ⟨_, ws, h53, h54⟩ := r5.2 m a l ham hl
                exact ⟨a, ws, jj, q, rfl, ru.int_inv, h53, by rw [h54.length]; exact hj, z2 σ Hf3 _ x3 (by
                  have T := S4.rowSet (m := m) (l := l.set q d) he4 hp h52 ham (rps_set h54 ((rv.mono x2).mono x3) q)
                  rw [List.set_set] at T ⊢
                  exact T)⟩
          | _ => exact z2.elim
        | val d2 => simp only [q4] at z2; exact z2.elim
        | own k2 o2 => simp only [q4] at z2; exact z2.elim
/-! ### for row in x: row[j] = e -/
def row1 (n r : Nat) (fj fe : M D) (m : Nat) : M Unit := fun env => match rowsAt env n, env[r]? with
  | some (none, ll), some _ => (match ll[m]? with
    | some l => (match fe ((env.set n .no).set r (.own none (.lst l))) with
      | .ok d e2 => (match fj e2 with
        | .ok kd e3 => (match kd, ownAt e3 r, e3[n]? with
          | .int j, some (none, l3), some .no => (match ixN l3.length j with
            | some q => .ok () ((e3.set r .no).set n (.own none (.rows (ll.set m (l3.set q d)))))
            | none => .stuck)
          | _, _, _ => .stuck)
        | .exc x p e => .exc x p e
        | .stuck => .stuck)
      | .exc x p e => .exc x p e
      | .stuck => .stuck)
    | none => .stuck)
  | _, _ => .stuck
def rowG (n r : Nat) (fj fe : M D) : Nat → Nat → M Fl
  | 0, _ => ret .nx
  | left + 1, m => bnd (row1 n r fj fe m) fun _ => rowG n r fj fe left (m + 1)
def mForR (n r : Nat) (fj fe : M D) : M Fl := fun env => match rowsAt env n with
  | some (none, ll) => rowG n r fj fe ll.length 0 env
  | _ => .stuck
/-- one of a hidden slot's lists is let out -/
def outG (ps : Fg) (a : Addr) : Fg := ⟨ps.ps, fun b => if b = a then none else ps.g b⟩
theorem SR.outG {K : PySem.W.Frag} {mg : MG} {ps : Fg} {Hf H : Hp} {σ : L2.St} {e : DEnv} (S : SR K mg ps Hf H σ e) (a : Addr) : SR K mg (outG ps a) Hf H σ e :=
  ⟨S.ex, S.len, S.sl, S.apF, fun b o q => by
    unfold DL.outG at q
    dsimp only at q
    split at q
    · cases q
    · exact S.fgF b o q⟩
theorem row_back {K : PySem.W.Frag} {mg : MG} {ps : Fg} {Hf H Hf4 H4 : Hp} {σ : L2.St} {env e3 : DEnv} {n r m : Nat} {p a : Addr} {ll : List (List D)} {as : List Addr} {l l3 : List D} {ws : List L2.V}
    (hnr : n ≠ r) (S : SR K mg ps Hf H σ env) (he : env[n]? = some (.own none (.rows ll))) (hp : σ[n]? = some (some (.ref p))) (hh : H p = some (.lst (as.map L2.V.ref))) (ham : as[m]? = some a) (hl : ll[m]? = some l)
    (x : Ex Hf Hf4) (S4 : SR K mg (outG (hideG ps H (.rows ll) p) a) Hf4 H4 (σ.set r (some (.ref a))) e3) (hr3 : e3[r]? = some (.own none (.lst l3))) (hn3 : e3[n]? = some .no) {l' : List D} (r' : Rps K mg Hf4 ws l') :
    SR K mg ps Hf4 (upd H4 a (.lst ws)) (σ.set r (some (.ref a))) ((e3.set r .no).set n (.own none (.rows (ll.set m l')))) := by
  obtain ⟨p', o, h1, nf, h2, ⟨bs, rfl, np, nd, hr⟩, hk⟩ := S.own he
  rw [hp] at h1; cases h1
  have hb : bs = as := ref_inj (HO.lst.inj (Option.some.inj (h2.symm.trans hh)))
  subst hb
  have am := List.mem_of_getElem? ham
  have hpa : p ≠ a := fun z => np (by rw [z]; exact am)
  have hlr : r < e3.length := (List.getElem?_eq_some_iff.mp hr3).1
  have hln : n < e3.length := (List.getElem?_eq_some_iff.mp hn3).1
  have sr : (σ.set r (some (L2.V.ref a)))[r]? = some (some (.ref a)) := List.getElem?_set_self (by have := S4.len; rw [List.length_set] at this; omega)
  have sn : (σ.set r (some (L2.V.ref a)))[n]? = some (some (.ref p)) := by rw [List.getElem?_set_ne (fun z => hnr z.symm)]; exact hp
  -- what stood hidden stands
  have kp : ∀ b, (b = p ∨ b ∈ bs) → b ≠ a → H4 b = H b ∧ Hf4 b = none ∧ Nob H4 (σ.set r (some (.ref a))) e3 b := fun b f hba => by
    have f' : Ft H (.rows ll) p b := (ft_rows hh).mpr f
    obtain ⟨_, u, hu⟩ := S.live he hp f'
    obtain ⟨g1, g2, g3⟩ := S4.fgF b u (by unfold DL.outG hideG; dsimp only; rw [if_neg hba, if_pos f']; exact hu)
    exact ⟨by rw [g1, hu], g2, g3⟩
  have ng : ∀ b, (b = p ∨ b ∈ bs) → ps.g b = none := fun b f => by
    cases q : ps.g b with
    | none => rfl
    | some u => exact ((S.fgF b u q).2.2 n _ _ p he hp ((ft_rows hh).mpr f)).elim
  have fga : Hf4 a = none := (S4.live hr3 sr .self).1
  have S5 := S4.turn (o' := .lst ws) (od' := .lst l') hr3 sr ⟨ws, rfl, r'⟩
  have S6 := S5.drop r (some (.ref a))
  rw [set_back sr, List.set_set] at S6
  have nob : ∀ b, Nob H4 (σ.set r (some (.ref a))) e3 b ∨ b = a → Nob (upd H4 a (.lst ws)) (σ.set r (some (.ref a))) (e3.set r .no) b := fun b h j k2 l2 w q1 q2 f => by
    by_cases hj : r = j
    · subst hj; rw [List.getElem?_set_self hlr] at q1; cases q1
    · rw [List.getElem?_set_ne hj] at q1
      have hwa : w ≠ a := fun z => by subst z; exact S4.apF r j _ _ _ _ w w w hj hr3 q1 sr q2 .self .self
      have f' := f.of_eq (upd_ne hwa)
      rcases h with h | h
      · exact h j k2 l2 w q1 q2 f'
      · subst h; exact S4.apF r j _ _ _ _ b w b hj hr3 q1 sr q2 .self f'
  have T : SR K mg ps Hf4 (upd H4 a (.lst ws)) (σ.set r (some (.ref a))) (e3.set r .no) := ⟨S6.ex, S6.len, S6.sl, S6.apF, fun b o q => by
    have hn : ¬ (b = p ∨ b ∈ bs) := fun f => by rw [ng b f] at q; cases q
    have hba : b ≠ a := fun z => hn (.inr (by rw [z]; exact am))
    exact S6.fgF b o (by unfold DL.outG hideG; dsimp only; rw [if_neg hba, if_neg (fun f => hn ((ft_rows hh).mp f))]; exact q)⟩
  have hp5 : upd H4 a (.lst ws) p = some (.lst (bs.map L2.V.ref)) := by rw [upd_ne hpa, (kp p (.inl rfl) hpa).1]; exact hh
  have T2 := T.takeG n (od := .rows (ll.set m l')) hp5 (kp p (.inl rfl) hpa).2.1 ⟨bs, rfl, np, nd, by rw [List.length_set]; exact hr.1, fun k b l2 h1 h2 => ?_⟩ fun b f => ?_
  · rw [set_back sn] at T2
    exact T2
  · have hm := (List.getElem?_eq_some_iff.mp ham).1
    by_cases hk : m = k
    · subst hk
      rw [ham] at h1; cases h1
      rw [List.getElem?_set_self (List.getElem?_eq_some_iff.mp hl).1] at h2
      cases h2
      exact ⟨fga, ws, upd_same, r'⟩
    · rw [List.getElem?_set_ne hk] at h2
      obtain ⟨n1, vs, n2, n3⟩ := hr.2 k b l2 h1 h2
      have hne : b ≠ a := fun z => by
        subst z
        exact hk ((List.getElem_inj nd).mp ((List.getElem?_eq_some_iff.mp ham).2.trans (List.getElem?_eq_some_iff.mp h1).2.symm))
      have k0 := kp b (.inr (List.mem_of_getElem? h1)) hne
      exact ⟨k0.2.1, vs, by rw [upd_ne hne, k0.1]; exact n2, n3.mono x⟩
  · have f0 := (ft_rows hp5).mp f
    refine ⟨ng b f0, nob b ?_⟩
    by_cases hba : b = a
    · exact .inr hba
    · exact .inl (kp b f0 hba).2.2
theorem js_forR {x rn : Str} {n r : Nat} {px pr p1 p2 pos2 : Pos} (C : CtxOk X W) (V : Nm X N sc raw) (hv : okV N sc n x = true) (hS : okS N sc raw r rn = true) (hvr : okV N sc r rn = true) (hnr : n ≠ r) (j : JE X W e fa) (k : JE X W b fb)
    (ha : ∀ v, assign (.Subscript (.Name rn p1) b p2) X.env v = (do
      let ov ← holding [v] (eval (.Name rn p1) X.env)
      let iv ← holding [v, ov] (eval b X.env)
      standAt p2
      holding [v, ov, iv] (setItem ov iv v)
      release [v, ov, iv] []) := by intro _; rfl)
    (hs : swapsWithSole [.Subscript (.Name rn p1) b p2] e pos2.line X.env = pure false := by rfl) (hw : swappedStores [.Subscript (.Name rn p1) b p2] e X.env = pure none := by rfl) (h1 : (assignEach [.Subscript (.Name rn p1) b p2] X.env).map (·.2) = [assign (.Subscript (.Name rn p1) b p2) X.env] := by rfl)
    (hf : ∀ x', foldedSetIterable (.Name x px) X.env x' = pure x' := by intro _; rfl) :
    JS X W (.For (.Name rn pr) (.Name x px) [.Assign [.Subscript (.Name rn p1) b p2] e pos2] [] pos) (mForR n r fb fa) := by
  obtain ⟨hN, hvi, hd, hcd⟩ := V.v hv
  obtain ⟨hNr, hvr', hdr, hcdr⟩ := V.v hvr
  obtain ⟨hi2, hx2, hf2⟩ := V.s hS
  obtain ⟨te, pe', he'⟩ := j.ex
  obtain ⟨tb, pb, hb⟩ := k.ex
  refine ⟨⟨_, ps_for C.po C.calm (pi_list (pe_var hN hvi hd hcd)) (pg_name (i := r) V.nodup hi2 hx2 hf2) (pss_one (ps_asg pe' (pg_sub (pe_var hNr hvr' hdr hcdr) pb set_list ha) hs hw h1)) hf, fun ps σ Hf H env S De z => ?_⟩⟩
  unfold mForR at z
  cases w : rowsAt env n with
  | none => simp only [w] at z; exact z.elim
  | some kl =>
    obtain ⟨k0, ll⟩ := kl
    cases k0 with
    | some q => simp only [w] at z; exact z.elim
    | none =>
    simp only [w] at z
    obtain ⟨p, o, hp, nf, hh, ⟨as, rfl, np, nd, hr⟩, _⟩ := S.own (rowsAt_eq w)
    refine ⟨.ref p, hp, p, rfl, ⟨_, .inl (.inl hh)⟩, ?_⟩
    refine ⟨fun i m σ H => ∃ (env : DEnv) (Hf : Hp) (ll2 : List (List D)), i + m = ll2.length ∧ SR X.K X.mg ps Hf H σ env ∧ SG X.K X.mg ps W De Hf (rowG n r fb fa m i env) ∧ rowsAt env n = some (none, ll2) ∧ σ[n]? = some (some (.ref p)), ⟨ll.length, env, Hf, ll, Nat.zero_add _, S, z, w, hp⟩, ?_⟩
    rintro i m σ H ⟨env, Hf, ll, hm, S, z, w, hp⟩
    obtain ⟨p', o', hp', nf, hh, ⟨as, rfl, np, nd, hr⟩, _⟩ := S.own (rowsAt_eq w)
    rw [hp] at hp'; cases hp'
    cases m with
    | zero =>
      refine .inl ⟨⟨_, .inl (.inl hh), by rw [List.length_map, hr.1]; omega⟩, ?_⟩
      exact SG.ret z S
    | succ m =>
      have hia : i < as.length := by rw [hr.1]; omega
      have hil : i < ll.length := by omega
      have hai : as[i]? = some as[i] := List.getElem?_eq_getElem hia
      have hli : ll[i]? = some ll[i] := List.getElem?_eq_getElem hil
      refine .inr ⟨⟨_, .ref as[i], .inl (.inl hh), by rw [List.getElem?_map, hai]; rfl⟩, fun σ' H' => ∃ (env : DEnv) (Hf : Hp) (ll2 : List (List D)), i + 1 + m = ll2.length ∧ SR X.K X.mg ps Hf H' σ' env ∧ SG X.K X.mg ps W De Hf (rowG n r fb fa m (i + 1) env) ∧ rowsAt env n = some (none, ll2) ∧ σ'[n]? = some (some (.ref p)), fun σ' H' w' => ⟨m, Nat.lt_succ_self _, w'⟩, ?_⟩
      rintro v H' ⟨rfl, hv'⟩
      have hv2 := hv' _ (.inl (.inl hh))
      rw [List.getElem?_map, hai] at hv2
      cases hv2
      -- the list let out
      have he := rowsAt_eq w
      have SH := (S.hide he hp).outG as[i]
      obtain ⟨na, ws, hwa, rwa⟩ := hr.2 i as[i] ll[i] hai hli
      have fta : Ft H' (.rows ll) p as[i] := (ft_rows hh).mpr (.inr (List.getElem_mem hia))
      have hln : n < env.length := (List.getElem?_eq_some_iff.mp he).1
      have S2 := SH.take r (od := .lst ll[i]) hwa na (by unfold DL.outG; dsimp only; rw [if_pos rfl]) ⟨ws, rfl, rwa⟩ (fun j k2 l2 q q1 q2 f => by
        by_cases hj : n = j
        · subst hj; rw [List.getElem?_set_self hln] at q1; cases q1
        · rw [List.getElem?_set_ne hj] at q1
          exact S.apF n j _ _ _ _ p q as[i] hj he q1 hp q2 fta f)
      -- exceptions: what was foreign is
      have exc : ∀ {Hf3 H3 : Hp} {σ3 : L2.St} {e3 : DEnv}, SR X.K X.mg (DL.outG (hideG ps H' (.rows ll) p) as[i]) Hf3 H3 σ3 e3 → SR X.K X.mg ps Hf3 H3 σ3 e3 := fun {Hf3 H3 σ3 e3} T => ⟨T.ex, T.len, T.sl, T.apF, fun b o q => by
        have hn : ¬ Ft H' (.rows ll) p b := fun f => (S.fgF b o q).2.2 n _ _ p he hp f
        have hba : b ≠ as[i] := fun z => hn (by rw [z]; exact fta)
        exact T.fgF b o (by unfold DL.outG hideG; dsimp only; rw [if_neg hba, if_neg hn]; exact q)⟩
      unfold rowG bnd at z
      unfold row1 at z
      cases hre : env[r]? with
      | none => simp only [w, hre] at z; exact z.elim
      | some sr0 =>
      simp only [w, hre, hli] at z
      show te (σ.set r (some (.ref as[i]))) H' _
      refine he' _ _ Hf H' _ S2 _ ?_
      cases q1 : fa ((env.set n .no).set r (.own none (.lst ll[i]))) with
      | exc y2 p2 e2 => simp only [q1] at z; exact fun cls dd Hf' H'' x S' ie => z cls dd _ Hf' H'' x (exc S') ie
      | stuck => simp only [q1] at z; exact z
      | ok d e2 =>
        simp only [q1] at z
        intro Hf3 H3 x3 S3 v rv
        have hlen3 := S3.len
        have sr : (σ.set r (some (L2.V.ref as[i])))[r]? = some (some (.ref as[i])) := List.getElem?_set_self (by
          have := (List.getElem?_eq_some_iff.mp hre).1
          rw [S.len]; exact this)
        refine ⟨.ref as[i], sr, ?_⟩
        refine hb _ _ Hf3 H3 e2 S3 _ ?_
        cases q2 : fb e2 with
        | exc y3 p3 e3 => simp only [q2] at z; exact fun cls dd Hf' H'' x S' ie => z cls dd _ Hf' H'' (x3.trans x) (exc S') ie
        | stuck => simp only [q2] at z; exact z
        | ok kd e3 =>
          simp only [q2] at z
          intro Hf4 H4 x4 S4 u ru
          cases kd with
          | int jj =>
            cases q3 : ownAt e3 r with
            | none => simp only [q3] at z; exact z.elim
            | some kl3 =>
              obtain ⟨k3, l3⟩ := kl3
              cases k3 with
              | some q => simp only [q3] at z; exact z.elim
              | none =>
              cases q4 : e3[n]? with
              | none => simp only [q3, q4] at z; exact z.elim
              | some s4 =>
                cases s4 with
                | no =>
                  simp only [q3, q4] at z
                  cases hj : ixN l3.length jj with
                  | none => simp only [hj] at z; exact z.elim
                  | some q =>
                    simp only [hj] at z
                    obtain ⟨p5, o5, h51, _, h52, ⟨ws5, rfl, r5⟩, _⟩ := S4.own (ownAt_eq q3)
                    rw [sr] at h51; cases h51
                    have T := row_back (ws := ws5.set q v) (l' := l3.set q d) hnr S he hp hh hai hli (x3.trans x4) S4 (ownAt_eq q3) q4 (rps_set r5 (rv.mono x4) q)
                    have hl3 : n < (e3.set r .no).length := by rw [List.length_set]; exact (List.getElem?_eq_some_iff.mp q4).1
                    refine ⟨as[i], ws5, jj, q, rfl, ru.int_inv, h52, by rw [r5.length]; exact hj, _, Hf4, ll.set i (l3.set q d), by rw [List.length_set]; omega, T, SG.mono (x3.trans x4) z, ?_, ?_⟩
                    · unfold rowsAt; rw [List.getElem?_set_self hl3]
                    · rw [List.getElem?_set_ne (fun z => hnr z.symm)]; exact hp
                | val d2 => simp only [q3, q4] at z; exact z.elim
                | own k2 o2 => simp only [q3, q4] at z; exact z.elim
          | _ => exact z.elim
/-! ### a whole number in a list of whole numbers -/
def dInL (neg : Bool) (x y : D) : M D := match x, y with
  | .int i, .lst l => (match asInts l with | some ns => ret (.bl (if neg then !decide (i ∈ ns) else decide (i ∈ ns))) | none => stk)
  | _, _ => stk
theorem inV_ints (i : Int) : ∀ ns : List Int, inV (.int i) (ns.map L2.V.int) = decide (i ∈ ns)
  | [] => rfl
  | n :: ns => by
    have ih := inV_ints i ns
    unfold inV at ih ⊢
    rw [List.map_cons, List.any_cons, ih]
    have e : eqV (.int n) (.int i) = decide (i = n) := by
      by_cases h : i = n
      · subst h; rw [decide_eq_true rfl]; show (_ : Bool) = true; simp [eqV]
      · rw [decide_eq_false h]; show (_ : Bool) = false; simp [eqV]; omega
    rw [e]
    by_cases h : i = n
    · subst h; simp
    · simp [h]
theorem rj_inL (neg : Bool) : RJ X W (rIn X.K neg) (dInL neg) := by
  intro ps σ Hf H env x y dx dy Q S rx ry q
  unfold dInL at q
  split at q
  · rename_i i l
    cases w : asInts l with
    | none => rw [w] at q; exact q.elim
    | some ns =>
      rw [w] at q
      have e := asInts_eq w
      subst e
      cases ry with
      | lst hq r =>
        have ev := r.ints
        subst ev
        rw [rx.int_inv]
        refine ⟨_, _, rfl, .inl (ex_l S.ex hq), rfl, List.all_eq_true.mpr fun v hv => ?_, ?_⟩
        · obtain ⟨n, _, rfl⟩ := List.mem_map.mp hv
          rfl
        · rw [inV_ints]
          exact q.ret S _ (.bl _)
  · exact q.elim
theorem je_inL (ja : JE X W a fa) (jb : JE X W b fb) (hm : behindInMarks .In b = false := by rfl) : JE X W (.Compare a [.In] [b] pos) (m2 fa fb (dInL false)) := je_cmp op_in_seq (rj_inL false) ja jb hm
theorem je_ninL (ja : JE X W a fa) (jb : JE X W b fb) (hm : behindInMarks .NotIn b = false := by rfl) : JE X W (.Compare a [.NotIn] [b] pos) (m2 fa fb (dInL true)) := je_cmp op_notIn_seq (rj_inL true) ja jb hm
theorem jt_inL (ja : JE X W a fa) (jb : JE X W b fb) (hm : behindInMarks .In b = false := by rfl) : JT X W (.Compare a [.In] [b] pos) (bnd (m2 fa fb (dInL false)) mB) := jt_cmp op_in_seq (rj_inL false) ja jb hm
theorem jt_ninL (ja : JE X W a fa) (jb : JE X W b fb) (hm : behindInMarks .NotIn b = false := by rfl) : JT X W (.Compare a [.NotIn] [b] pos) (bnd (m2 fa fb (dInL true)) mB) := jt_cmp op_notIn_seq (rj_inL true) ja jb hm
end
/-! ### their worth at an environment -/
section
variable {e e' : DEnv} {n r m j' : Nat} {fb fk fe fj : M D} {f : M (List (List D))} {ll : List (List D)} {l l3 : List D} {d kd : D} {j : Int} {k : Option Nat} {α : Type}
def rA (o : Option Sl) : Option (Option Nat × List (List D)) := match o with | some (.own k (.rows ll)) => some (k, ll) | _ => none
theorem a_rowsAt : rowsAt e n = rA e[n]? := rfl
theorem a_rA : rA (some (.own k (.rows ll))) = some (k, ll) := rfl
theorem a_ownR : mOwnR n f e = rB (f e) (fun ll env => .ok .nx (env.set n (.own none (.rows ll)))) := rfl
theorem a_setRR {fr : M Nat} : mSetRR n fr fk fe e = rB (fe e) (fun d => bnd fr fun m => bnd (hid n fk) fun kd => kSetRR n m d kd) := rfl
def kRow (n : Nat) (d : D) : M Nat := fun env => match d, rowsAt env n with | .int j, some (_, ll) => (match ixN ll.length j with | some m => .ok m env | none => .stuck) | _, _ => .stuck
def rIx (o : Option (Option Nat × List (List D))) (n : Nat) (fb : M D) (e : DEnv) : Res Nat := match o with | some _ => bnd fb (kRow n) e | none => .stuck
theorem a_rowIx : mRowIx n fb e = rIx (rowsAt e n) n fb e := rfl
theorem a_rIx {q : Option Nat × List (List D)} : rIx (some q) n fb e = rB (fb e) (kRow n) := rfl
def oNt (o : Option Nat) (e : DEnv) : Res Nat := match o with | some m => .ok m e | none => .stuck
def kRw (o : Option (Option Nat × List (List D))) (j : Int) (e : DEnv) : Res Nat := match o with | some (_, ll) => oNt (ixN ll.length j) e | none => .stuck
theorem a_kRow : kRow n (.int j) e = kRw (rowsAt e n) j e := by
  unfold kRow kRw
  cases rowsAt e n with
  | none => rfl
  | some q => obtain ⟨_, ll⟩ := q; show _ = oNt (ixN ll.length j) e; unfold oNt; rfl
theorem a_kRw {q : Option Nat} : kRw (some (q, ll)) j e = oNt (ixN ll.length j) e := rfl
theorem a_oNt : oNt (some m) e = .ok m e := rfl
def hN {α : Type} (o : Option Sl) (x : α) (e : DEnv) (n : Nat) (k : Option Nat) (ll : List (List D)) : Res α := match o with | some .no => .ok x (e.set n (.own k (.rows ll))) | _ => .stuck
def hE {α : Type} (r : Res α) (n : Nat) (k : Option Nat) (ll : List (List D)) : Res α := match r with | .ok x e' => hN e'[n]? x e' n k ll | .exc x p e' => .exc x p e' | .stuck => .stuck
def hD {α : Type} (o : Option (Option Nat × List (List D))) (n : Nat) (f : M α) (e : DEnv) : Res α := match o with | some (k, ll) => hE (f (e.set n .no)) n k ll | none => .stuck
theorem a_hid {f : M α} : hid n f e = hD (rowsAt e n) n f e := by
  unfold hid hD
  cases rowsAt e n with
  | none => rfl
  | some q => obtain ⟨k, ll⟩ := q; show _ = hE (f (e.set n .no)) n k ll; unfold hE hN; rfl
theorem a_hD {f : M α} : hD (some (k, ll)) n f e = hE (f (e.set n .no)) n k ll := rfl
theorem a_hE {x : α} : hE (.ok x e) n k ll = hN e[n]? x e n k ll := rfl
theorem a_hN {x : α} : hN (some .no) x e n k ll = .ok x (e.set n (.own k (.rows ll))) := rfl
def kSi (o : Option Nat) (n m : Nat) (d : D) (k : Option Nat) (ll : List (List D)) (l : List D) (e : DEnv) : Res Fl := match o with | some q => .ok .nx (e.set n (.own k (.rows (ll.set m (l.set q d))))) | none => .stuck
def kSl (o : Option (List D)) (n m : Nat) (d : D) (j : Int) (k : Option Nat) (ll : List (List D)) (e : DEnv) : Res Fl := match o with | some l => kSi (ixN l.length j) n m d k ll l e | none => .stuck
def kSr (o : Option (Option Nat × List (List D))) (n m : Nat) (d : D) (j : Int) (e : DEnv) : Res Fl := match o with | some (k, ll) => kSl ll[m]? n m d j k ll e | none => .stuck
theorem a_kSetRR : kSetRR n m d (.int j) e = kSr (rowsAt e n) n m d j e := by
  unfold kSetRR kSr
  cases rowsAt e n with
  | none => rfl
  | some q =>
    obtain ⟨k, ll⟩ := q
    show (match ll[m]? with | some l => _ | none => _) = kSl ll[m]? n m d j k ll e
    unfold kSl kSi; rfl
theorem a_kSr : kSr (some (k, ll)) n m d j e = kSl ll[m]? n m d j k ll e := rfl
theorem a_kSl : kSl (some l) n m d j k ll e = kSi (ixN l.length j) n m d k ll l e := rfl
theorem a_kSi : kSi (some j') n m d k ll l e = .ok .nx (e.set n (.own k (.rows (ll.set m (l.set j' d))))) := rfl
theorem a_sh1r : shw1 (.own k (.rows ll)) = .val (.lst (ll.map .lst)) := rfl
theorem a_fZr : fZ (some (.own none (.rows ll))) e n = e.set n (.val (.lst (ll.map .lst))) := rfl
/-! rows walked -/
def fRw (o : Option (Option Nat × List (List D))) (n r : Nat) (fj fe : M D) (e : DEnv) : Res Fl := match o with | some (none, ll) => rowG n r fj fe ll.length 0 e | _ => .stuck
theorem a_forR : mForR n r fj fe e = fRw (rowsAt e n) n r fj fe e := rfl
theorem a_fRw : fRw (some (none, ll)) n r fj fe e = rowG n r fj fe ll.length 0 e := rfl
theorem a_rowG0 : rowG n r fj fe 0 m e = .ok .nx e := rfl
theorem a_rowG1 : rowG n r fj fe 1 m e = rB (row1 n r fj fe m e) (fun _ => rowG n r fj fe 0 (m + 1)) := rfl
theorem a_rowG2 : rowG n r fj fe 2 m e = rB (row1 n r fj fe m e) (fun _ => rowG n r fj fe 1 (m + 1)) := rfl
theorem a_rowG3 : rowG n r fj fe 3 m e = rB (row1 n r fj fe m e) (fun _ => rowG n r fj fe 2 (m + 1)) := rfl
def r1e (o : Option Nat) (n r m : Nat) (d : D) (ll : List (List D)) (l3 : List D) (e : DEnv) : Res Unit := match o with | some q => .ok () ((e.set r .no).set n (.own none (.rows (ll.set m (l3.set q d))))) | none => .stuck
def r1c (kd : D) (o : Option (Option Nat × List D)) (s : Option Sl) (n r m : Nat) (d : D) (ll : List (List D)) (e : DEnv) : Res Unit := match kd, o, s with | .int j, some (none, l3), some .no => r1e (ixN l3.length j) n r m d ll l3 e | _, _, _ => .stuck
def r1b (q : Res D) (n r m : Nat) (d : D) (ll : List (List D)) : Res Unit := match q with | .ok kd e3 => r1c kd (ownAt e3 r) e3[n]? n r m d ll e3 | .exc x p e => .exc x p e | .stuck => .stuck
def r1a (q : Res D) (n r m : Nat) (fj : M D) (ll : List (List D)) : Res Unit := match q with | .ok d e2 => r1b (fj e2) n r m d ll | .exc x p e => .exc x p e | .stuck => .stuck
def r1o (o : Option (List D)) (n r m : Nat) (fj fe : M D) (ll : List (List D)) (e : DEnv) : Res Unit := match o with | some l => r1a (fe ((e.set n .no).set r (.own none (.lst l)))) n r m fj ll | none => .stuck
def r1s (o : Option (Option Nat × List (List D))) (s : Option Sl) (n r m : Nat) (fj fe : M D) (e : DEnv) : Res Unit := match o, s with | some (none, ll), some _ => r1o ll[m]? n r m fj fe ll e | _, _ => .stuck
theorem a_row1 : row1 n r fj fe m e = r1s (rowsAt e n) e[r]? n r m fj fe e := by
  unfold row1 r1s r1o r1a r1b r1c r1e; rfl
theorem a_r1s {s : Sl} : r1s (some (none, ll)) (some s) n r m fj fe e = r1o ll[m]? n r m fj fe ll e := rfl
theorem a_r1o : r1o (some l) n r m fj fe ll e = r1a (fe ((e.set n .no).set r (.own none (.lst l)))) n r m fj ll := rfl
theorem a_r1a : r1a (.ok d e) n r m fj ll = r1b (fj e) n r m d ll := rfl
theorem a_r1b : r1b (.ok kd e) n r m d ll = r1c kd (ownAt e r) e[n]? n r m d ll e := rfl
theorem a_r1c : r1c (.int j) (some (none, l3)) (some .no) n r m d ll e = r1e (ixN l3.length j) n r m d ll l3 e := rfl
theorem a_r1e : r1e (some j') n r m d ll l3 e = .ok () ((e.set r .no).set n (.own none (.rows (ll.set m (l3.set j' d))))) := rfl
theorem ix20 : ixN 2 0 = some 0 := by decide
theorem ix21 : ixN 2 1 = some 1 := by decide
theorem ix30 : ixN 3 0 = some 0 := by decide
theorem ix31 : ixN 3 1 = some 1 := by decide
theorem ix32 : ixN 3 2 = some 2 := by decide
theorem a_inL {i : Int} {l : List D} {neg : Bool} : dInL neg (.int i) (.lst l) e = (match asInts l with | some ns => Res.ok (D.bl (if neg then !decide (i ∈ ns) else decide (i ∈ ns))) e | none => .stuck) := by
  show (match asInts l with | some ns => DL.ret (D.bl (if neg then !decide (i ∈ ns) else decide (i ∈ ns))) | none => stk) e = _
  cases asInts l <;> rfl
end
/-- a comprehension of lists -/
theorem mLcR_gen {β : Type} {vs : List Nat} {fi : M (List D)} {g : D → M Unit} {el : M (List D)} {e e0 : DEnv} (xs : List β) (F : β → D) (f : β → List D) (hf : fi e = .ok (xs.map F) e0) (hn : noOwn e0 vs = true) (hb : backE e0 (wipeE e0 vs) vs = e0) (hl : xs.length ≤ sizeLine)
    (h : ∀ x ∈ xs, ∃ e1 e3, g (F x) (wipeE e0 vs) = .ok () e1 ∧ el e1 = .ok (f x) e3 ∧ wipeE e3 vs = wipeE e0 vs) : mLcR vs fi g el e = .ok (xs.map f) e0 := by
  have lc : ∀ (ys : List β) (acc : List (List D)), (∀ x ∈ ys, ∃ e1 e3, g (F x) (wipeE e0 vs) = .ok () e1 ∧ el e1 = .ok (f x) e3 ∧ wipeE e3 vs = wipeE e0 vs) → acc.length + ys.length ≤ sizeLine → lcR vs g el (ys.map F) acc (wipeE e0 vs) = .ok (acc ++ ys.map f) (wipeE e0 vs) := by
    intro ys
    induction ys with
    | nil => intro acc _ _; show Res.ok acc _ = _; rw [List.map_nil, List.append_nil]
    | cons y ys ih =>
      intro acc hh hs
      obtain ⟨e1, e3, h1, h2, h3⟩ := hh y List.mem_cons_self
      rw [List.length_cons] at hs
      rw [List.map_cons]
      unfold lcR
      rw [bnd_ok h1, bnd_ok h2]
      show (if acc.length < sizeLine then lcR vs g el (ys.map F) (acc ++ [f y]) (wipeE e3 vs) else .stuck) = _
      rw [if_pos (by omega), h3, ih (acc ++ [f y]) (fun x m => hh x (List.mem_cons_of_mem _ m)) (by rw [List.length_append]; simp; omega), List.map_cons, List.append_assoc]
      rfl
  unfold mLcR
  rw [bnd_ok hf]
  rw [if_pos hn, lc xs [] h (by simpa using hl)]
  show Res.ok ([] ++ xs.map f) (backE e0 (wipeE e0 vs) vs) = _
  rw [hb, List.nil_append]
end DL

/-! DLM: methods of own lists of own lists. -/
namespace DL
open PySem PySem.Spec PyProof.Rows L2 Evl
section
variable {K : PySem.W.Frag} {mg : MG} {ps : Fg} {Hf H Hf' H' : Hp} {σ : L2.St} {e e' : DEnv}
theorem row_of (S : SR K mg ps Hf H σ e) {n m : Nat} {k : Option Nat} {ll : List (List D)} {pa a : Addr} {as : List Addr} {l : List D} (he : e[n]? = some (.own k (.rows ll))) (hp : σ[n]? = some (some (.ref pa)))
    (hh : H pa = some (.lst (as.map V.ref))) (ham : as[m]? = some a) (hl : ll[m]? = some l) : ∃ ws, H a = some (.lst ws) ∧ Rps K mg Hf ws l := by
  obtain ⟨p5, o5, h51, _, h52, ⟨bs5, rfl, _, _, r5⟩, _⟩ := S.own he
  rw [hp] at h51; cases h51
  have hb5 : bs5 = as := ref_inj (HO.lst.inj (Option.some.inj (h52.symm.trans hh)))
  subst hb5
  obtain ⟨_, ws, h53, h54⟩ := r5.2 m a l ham hl
  exact ⟨ws, h53, h54⟩
theorem rows_of (S : SR K mg ps Hf H σ e) {n : Nat} {k : Option Nat} {ll : List (List D)} (he : e[n]? = some (.own k (.rows ll))) :
    ∃ pa as, σ[n]? = some (some (.ref pa)) ∧ Hf pa = none ∧ H pa = some (.lst (as.map V.ref)) ∧ pa ∉ as ∧ as.Nodup ∧ RwR K mg Hf H as ll := by
  obtain ⟨p5, o5, h51, nf, h52, ⟨bs5, rfl, np, nd, r5⟩, _⟩ := S.own he
  exact ⟨p5, bs5, h51, nf, h52, np, nd, r5⟩
/-- one address more is kept meanwhile -/
def keepG (ps : Fg) (o : HO) (q : Addr) : Fg := ⟨ps.ps, fun a => if a = q then some o else ps.g a⟩
theorem SR.kept (S : SR K mg ps Hf H σ e) {q : Addr} {o : HO} (h : H q = some o) (nf : Hf q = none) (no : Nob H σ e q) : SR K mg (keepG ps o q) Hf H σ e :=
  ⟨S.ex, S.len, S.sl, S.apF, fun a u w => by
    unfold keepG at w
    dsimp only at w
    split at w
    · rename_i f; cases w; subst f; exact ⟨h, nf, no⟩
    · exact S.fgF a u w⟩
theorem SR.unkept {q : Addr} {o : HO} (ng : ps.g q = none) (S : SR K mg (keepG ps o q) Hf H σ e) : SR K mg ps Hf H σ e :=
  ⟨S.ex, S.len, S.sl, S.apF, fun a u w => S.fgF a u (by
    unfold keepG; dsimp only
    rw [if_neg (fun f => by subst f; rw [ng] at w; cases w)]
    exact w)⟩
theorem SR.kept_at {q : Addr} {o : HO} (S : SR K mg (keepG ps o q) Hf H σ e) : H q = some o ∧ Hf q = none ∧ Nob H σ e q := S.fgF q o (by unfold keepG; dsimp only; rw [if_pos rfl])
end
theorem bnd_stuck {α β : Type} {m : M α} {f : α → M β} {e : DEnv} (h : m e = .stuck) : bnd m f e = .stuck := by unfold bnd; rw [h]
section
variable {X : Cx} {W : WX} {a b c e : Expr} {es : List Expr} {fa fb fc : M D} {pos : Pos} {N : List Str} {sc raw : Scope} {f : M (List D)} {fr : M (List (List D))}
theorem hid_go {fb : M D} {g : D → M Fl} {t : TE} {ps px : Fg} {De : Ends} {Hf2 H2 : Hp} {σ : L2.St} {e2 : DEnv} {n : Nat} {kk : Option Nat} {ll : List (List D)} {pa : Addr} {as : List Addr} {Q : VK}
    (hb : ∀ (ps : Fg) (σ : L2.St) (Hf H : Hp) (env : DEnv), SR X.K X.mg ps Hf H σ env → ∀ Q : VK, EG X.K X.mg ps W Hf σ (Pd X.K X.mg Q) (fb env) → t σ H Q)
    (up : ∀ {Hf' H' : Hp} {σ' : L2.St} {e' : DEnv}, SR X.K X.mg px Hf' H' σ' e' → SR X.K X.mg ps Hf' H' σ' e')
    (S2 : SR X.K X.mg px Hf2 H2 σ e2) (he : e2[n]? = some (.own kk (.rows ll))) (hp : σ[n]? = some (some (.ref pa))) (hh : H2 pa = some (.lst (as.map L2.V.ref)))
    (z2 : SG X.K X.mg ps W De Hf2 (bnd (hid n fb) g e2))
    (k : ∀ (v : L2.V) (d : D) (e4 : DEnv) (Hf3 H3 : Hp), Ex Hf2 Hf3 → SR X.K X.mg px Hf3 H3 σ e4 → rowsAt e4 n = some (kk, ll) → H3 pa = some (.lst (as.map L2.V.ref)) → Rp X.K X.mg Hf3 v d → SG X.K X.mg ps W De Hf3 (g d e4) → Q v H3) : t σ H2 Q := by
  have w2 : rowsAt e2 n = some (kk, ll) := by unfold rowsAt; rw [he]
  refine hb _ σ Hf2 H2 (e2.set n .no) (S2.hide he hp) _ ?_
  unfold bnd hid at z2
  simp only [w2] at z2
  cases q3 : fb (e2.set n .no) with
  | exc x3 p3 e3 => simp only [q3] at z2; exact fun cls dd Hf' H' x S ie => z2 cls dd σ Hf' H' x (up (S2.unhideG he hp S)) ie
  | stuck => simp only [q3] at z2; exact z2
  | ok kd e3 =>
    simp only [q3] at z2
    intro Hf3 H3 x3 S3 u ru
    cases q4 : e3[n]? with
    | none => simp only [q4] at z2; exact z2.elim
    | some s3 =>
      cases s3 with
      | no =>
        simp only [q4] at z2
        have S4 := S2.unhide he hp x3 S3 q4
        have hl3 : n < e3.length := (List.getElem?_eq_some_iff.mp q4).1
        have he4 : (e3.set n (.own kk (.rows ll)))[n]? = some (.own kk (.rows ll)) := List.getElem?_set_self hl3
        exact k u kd _ Hf3 H3 x3 S4 (by unfold rowsAt; rw [he4]) (by rw [(S2.hid_keep he hp S3 .self).1]; exact hh) ru (SG.mono x3 z2)
      | val d2 => simp only [q4] at z2; exact z2.elim
      | own k2 o2 => simp only [q4] at z2; exact z2.elim
/-! ### x[i].append(e) -/
def kAppR (n m : Nat) (d : D) : M Fl := fun env => match rowsAt env n with
  | some (k, ll) => (match ll[m]? with
    | some l => if l.length < sizeLine then .ok .nx (env.set n (.own k (.rows (ll.set m (l ++ [d]))))) else .stuck
    | none => .stuck)
  | none => .stuck
def mAppR (n : Nat) (fr : M Nat) (fe : M D) : M Fl := bnd fr fun m => bnd (hid n fe) fun d => kAppR n m d
theorem js_appR {bs : Expr} {n : Nat} {fw : M Nat} {p2 p3 pos2 : Pos} (jr : JRow X W n bs fw) (j : JE X W e fa)
    (hbase : attributeBase bs "append" X.env (eval bs X.env) = eval bs X.env := by rfl)
    (hfew : ((backTo p3 (starEach [e] X.env)).all (fun x => !x.1) && (backToKw p3 (keywordEach [] X.env)).all (fun x => x.1.isSome)
      && decide ([e].length + ([] : List Keyword).length + (if ([] : List Keyword).isEmpty then 0 else 1) < 30)) = true := by rfl)
    (hline : (p2.endLine == p3.line) = true := by rfl) (hs : starEach [e] X.env = (false, eval e X.env) :: starEach [] X.env := by rfl) (hplain : (backTo p3 (starEach [] X.env)).any (·.1) = false := by rfl)
    (hsw : swapsWith (.Call (.Attribute bs "append" p2) [e] [] p3) none pos2.line X.env = pure false := by rfl) :
    JS X W (.Expr (.Call (.Attribute bs "append" p2) [e] [] p3) pos2) (mAppR n fw fa) := by
  obtain ⟨t, p, h⟩ := j.ex
  obtain ⟨tr, pr, hr⟩ := jr.ex
  refine ⟨⟨_, ps_expr (pe_bm PySem.F.plainAttrs_list PySem.F.slot_list_append PySem.F.type_list_append mt_append pr (pa_cons p pa_nil hs) hbase hfew hline hs hplain) hsw, fun ps σ Hf H env S De z => ?_⟩⟩
  refine hr ps σ Hf H env S _ ?_
  unfold mAppR at z
  cases q1 : fw env with
  | exc x2 p2 e2 => rw [bnd_exc q1] at z; exact fun cls dd Hf' H' x S ie => z cls dd σ Hf' H' x S ie
  | stuck => rw [bnd_stuck q1] at z; exact z
  | ok m e2 =>
    rw [bnd_ok q1] at z
    intro Hf2 H2 pa as a kk ll x2 S2 he hp hh ham
    have z2 := SG.mono x2 z
    obtain ⟨pa', as', hp', _, hh', _, _, r5⟩ := rows_of S2 he
    rw [hp] at hp'; cases hp'
    have hb5 : as' = as := ref_inj (HO.lst.inj (Option.some.inj (hh'.symm.trans hh)))
    subst hb5
    have hm : m < ll.length := by rw [← r5.1]; exact (List.getElem?_eq_some_iff.mp ham).1
    obtain ⟨ws0, h53, _⟩ := row_of S2 he hp hh ham (List.getElem?_eq_getElem hm)
    refine ⟨.inl ⟨rfl, ws0, .inl (.inl h53)⟩, ?_⟩
    refine hid_go h id S2 he hp hh z2 fun v d e4 Hf3 H3 x3 S4 w4 hh3 rv z3 => ?_
    unfold kAppR at z3
    simp only [w4, List.getElem?_eq_getElem hm] at z3
    by_cases hz : ll[m].length < sizeLine
    · rw [if_pos hz] at z3
      obtain ⟨ws, h5, h6⟩ := row_of S4 (rowsAt_eq w4) hp hh3 ham (List.getElem?_eq_getElem hm)
      exact ⟨a, ws, v, rfl, rfl, h5, by rw [h6.length]; exact hz, z3 σ Hf3 _ (Ex.refl _) (S4.rowSet (m := m) (rowsAt_eq w4) hp hh3 ham (rps_snoc h6 rv))⟩
    · rw [if_neg hz] at z3; exact z3.elim
/-! ### x[i].pop() -/
def kPopR (n m : Nat) : M Fl := fun env => match rowsAt env n with
  | some (k, ll) => (match ll[m]? with
    | some l => if 0 < l.length then .ok .nx (env.set n (.own k (.rows (ll.set m l.dropLast)))) else .stuck
    | none => .stuck)
  | none => .stuck
def mPopR (n : Nat) (fr : M Nat) : M Fl := bnd fr fun m => kPopR n m
theorem js_popR {bs : Expr} {n : Nat} {fw : M Nat} {p2 p3 pos2 : Pos} (jr : JRow X W n bs fw)
    (hbase : attributeBase bs "pop" X.env (eval bs X.env) = eval bs X.env := by rfl)
    (hline : (p2.endLine == p3.line) = true := by rfl)
    (hsw : swapsWith (.Call (.Attribute bs "pop" p2) [] [] p3) none pos2.line X.env = pure false := by rfl) :
    JS X W (.Expr (.Call (.Attribute bs "pop" p2) [] [] p3) pos2) (mPopR n fw) := by
  obtain ⟨tr, pr, hr⟩ := jr.ex
  refine ⟨⟨_, ps_expr (pe_bm0 PySem.F.plainAttrs_list PySem.F.slot_list_pop PySem.F.type_list_pop mt_pop pr hbase hline) hsw, fun ps σ Hf H env S De z => ?_⟩⟩
  refine hr ps σ Hf H env S _ ?_
  unfold mPopR at z
  cases q1 : fw env with
  | exc x2 p2 e2 => rw [bnd_exc q1] at z; exact fun cls dd Hf' H' x S ie => z cls dd σ Hf' H' x S ie
  | stuck => rw [bnd_stuck q1] at z; exact z
  | ok m e2 =>
    rw [bnd_ok q1] at z
    intro Hf2 H2 pa as a kk ll x2 S2 he hp hh ham
    have z2 := SG.mono x2 z
    obtain ⟨pa', as', hp', _, hh', _, _, r5⟩ := rows_of S2 he
    rw [hp] at hp'; cases hp'
    have hb5 : as' = as := ref_inj (HO.lst.inj (Option.some.inj (hh'.symm.trans hh)))
    subst hb5
    have hm : m < ll.length := by rw [← r5.1]; exact (List.getElem?_eq_some_iff.mp ham).1
    obtain ⟨ws, h5, h6⟩ := row_of S2 he hp hh ham (List.getElem?_eq_getElem hm)
    refine ⟨.inl ⟨rfl, ws, .inl (.inl h5)⟩, ?_⟩
    have w2 : rowsAt e2 n = some (kk, ll) := by unfold rowsAt; rw [he]
    unfold kPopR at z2
    simp only [w2, List.getElem?_eq_getElem hm] at z2
    by_cases hz : 0 < ll[m].length
    · rw [if_pos hz] at z2
      have hl := h6.length
      exact ⟨a, ws, ws[ws.length - 1]'(by omega), rfl, rfl, h5, List.getElem?_eq_getElem (by omega), z2 σ Hf2 _ (Ex.refl _) (S2.rowSet (m := m) he hp hh ham h6.dropLast)⟩
    · rw [if_neg hz] at z2; exact z2.elim
/-! ### x.pop(i) -/
theorem erase_map {α β : Type} (f : α → β) : ∀ (l : List α) (m : Nat), (l.map f).eraseIdx m = (l.eraseIdx m).map f
  | [], _ => rfl
  | _ :: _, 0 => rfl
  | a :: l, m + 1 => by rw [List.map_cons, List.eraseIdx_cons_succ, List.eraseIdx_cons_succ, List.map_cons, erase_map f l m]
theorem RwR.erase {K : PySem.W.Frag} {mg : MG} {Hf H : Hp} {as : List Addr} {ll : List (List D)} (r : RwR K mg Hf H as ll) (m : Nat) : RwR K mg Hf H (as.eraseIdx m) (ll.eraseIdx m) := by
  refine ⟨by rw [List.length_eraseIdx, List.length_eraseIdx, r.1], fun k a l h1 h2 => ?_⟩
  rw [List.getElem?_eraseIdx] at h1 h2
  split at h1
  · rename_i hk; rw [if_pos hk] at h2; exact r.2 k a l h1 h2
  · rename_i hk; rw [if_neg hk] at h2; exact r.2 (k + 1) a l h1 h2
def kRPop (n : Nat) (d : D) : M Fl := fun env => match d, rowsAt env n with
  | .int j, some (k, ll) => if -(2 ^ 63) ≤ j ∧ j < 2 ^ 63 then (match ixN ll.length j with | some m => .ok .nx (env.set n (.own k (.rows (ll.eraseIdx m)))) | none => .stuck) else .stuck
  | _, _ => .stuck
def mRPop (n : Nat) (fb : M D) : M Fl := fun env => match rowsAt env n with | some _ => bnd (hid n fb) (kRPop n) env | none => .stuck
theorem js_rpop {x : Str} {n : Nat} {p1 p2 p3 pos2 : Pos} (V : Nm X N sc raw) (hv : okV N sc n x = true) (j : JE X W e fa)
    (hbase : attributeBase (.Name x p1) "pop" X.env (eval (.Name x p1) X.env) = eval (.Name x p1) X.env := by rfl)
    (hfew : ((backTo p3 (starEach [e] X.env)).all (fun x => !x.1) && (backToKw p3 (keywordEach [] X.env)).all (fun x => x.1.isSome)
      && decide ([e].length + ([] : List Keyword).length + (if ([] : List Keyword).isEmpty then 0 else 1) < 30)) = true := by rfl)
    (hline : (p2.endLine == p3.line) = true := by rfl) (hs : starEach [e] X.env = (false, eval e X.env) :: starEach [] X.env := by rfl) (hplain : (backTo p3 (starEach [] X.env)).any (·.1) = false := by rfl)
    (hsw : swapsWith (.Call (.Attribute (.Name x p1) "pop" p2) [e] [] p3) none pos2.line X.env = pure false := by rfl) :
    JS X W (.Expr (.Call (.Attribute (.Name x p1) "pop" p2) [e] [] p3) pos2) (mRPop n fa) := by
  obtain ⟨hN, hvi, hd, hcd⟩ := V.v hv
  obtain ⟨t, p, h⟩ := j.ex
  refine ⟨⟨_, ps_expr (pe_bm PySem.F.plainAttrs_list PySem.F.slot_list_pop PySem.F.type_list_pop mt_popAt (pe_var hN hvi hd hcd) (pa_cons p pa_nil hs) hbase hfew hline hs hplain) hsw, fun ps σ Hf H env S De z => ?_⟩⟩
  unfold mRPop at z
  cases w : rowsAt env n with
  | none => rw [w] at z; exact z.elim
  | some kl =>
    obtain ⟨kk, ll⟩ := kl
    rw [w] at z
    obtain ⟨pa, as, hp, nf, hh, np, nd, r5⟩ := rows_of S (rowsAt_eq w)
    refine ⟨.ref pa, hp, .inl ⟨rfl, _, .inl (.inl hh)⟩, ?_⟩
    refine hid_go h id S (rowsAt_eq w) hp hh z fun v d e4 Hf3 H3 x3 S4 w4 hh3 rv z3 => ?_
    unfold kRPop at z3
    cases d with
    | int jj =>
      simp only [w4] at z3
      by_cases hj : -(2 ^ 63) ≤ jj ∧ jj < 2 ^ 63
      · rw [if_pos hj] at z3
        cases hx : ixN ll.length jj with
        | none => simp only [hx] at z3; exact z3.elim
        | some m =>
          simp only [hx] at z3
          obtain ⟨pb, bs, hp4, nf4, hh4, np4, nd4, r4⟩ := rows_of S4 (rowsAt_eq w4)
          rw [hp] at hp4; cases hp4
          have hb5 : bs = as := ref_inj (HO.lst.inj (Option.some.inj (hh4.symm.trans hh3)))
          subst hb5
          obtain ⟨hq, hm, _⟩ := ixN_seq hx
          have hm' : m < bs.length := by rw [r4.1]; exact hm
          refine ⟨pa, bs.map L2.V.ref, jj, m, .ref bs[m], rfl, by rw [rv.int_inv], hh4, hj.1, hj.2, by rw [List.length_map, r4.1]; exact hq, by rw [List.getElem?_map, List.getElem?_eq_getElem hm']; rfl, ?_⟩
          have hmap : (bs.map L2.V.ref).eraseIdx m = (bs.eraseIdx m).map L2.V.ref := erase_map L2.V.ref bs m
          rw [hmap]
          exact z3 σ Hf3 _ (Ex.refl _) (S4.rowsTo (rowsAt_eq w4) hp hh4 (fun q => np4 (List.mem_of_mem_eraseIdx q)) (nd4.eraseIdx m) (r4.erase m) (fun b hb => .inl (List.mem_of_mem_eraseIdx hb)))
      · rw [if_neg hj] at z3; exact z3.elim
    | _ => exact z3.elim
/-! ### x.append(fresh list) -/
theorem RwR.snoc {K : PySem.W.Frag} {mg : MG} {Hf H : Hp} {as : List Addr} {ll : List (List D)} {q : Addr} {vs : List L2.V} {ds : List D} (r : RwR K mg Hf H as ll) (hq : H q = some (.lst vs)) (nf : Hf q = none) (rp : Rps K mg Hf vs ds) : RwR K mg Hf H (as ++ [q]) (ll ++ [ds]) := by
  refine ⟨by rw [List.length_append, List.length_append, r.1]; rfl, fun k a l h1 h2 => ?_⟩
  by_cases hk : k < as.length
  · rw [List.getElem?_append_left hk] at h1
    rw [List.getElem?_append_left (by rw [← r.1]; exact hk)] at h2
    exact r.2 k a l h1 h2
  · rw [List.getElem?_append_right (by omega)] at h1
    rw [List.getElem?_append_right (by rw [← r.1]; omega)] at h2
    have k0 : k - as.length = 0 := by
      have := (List.getElem?_eq_some_iff.mp h1).1
      simp at this; omega
    have k1 : k - ll.length = 0 := by rw [← r.1]; exact k0
    rw [k0] at h1; rw [k1] at h2
    cases h1; cases h2
    exact ⟨nf, vs, hq, rp⟩
theorem RwR.put {K : PySem.W.Frag} {mg : MG} {Hf H : Hp} {as : List Addr} {ll : List (List D)} {q : Addr} {vs : List L2.V} {ds : List D} (r : RwR K mg Hf H as ll) (hq : H q = some (.lst vs)) (nf : Hf q = none) (rp : Rps K mg Hf vs ds) (m : Nat) : RwR K mg Hf H (as.set m q) (ll.set m ds) := by
  refine ⟨by rw [List.length_set, List.length_set, r.1], fun k a l h1 h2 => ?_⟩
  by_cases hk : m = k
  · subst hk
    have hm : m < as.length := by have := (List.getElem?_eq_some_iff.mp h1).1; simpa using this
    rw [List.getElem?_set_self hm] at h1
    rw [List.getElem?_set_self (by rw [← r.1]; exact hm)] at h2
    cases h1; cases h2
    exact ⟨nf, vs, hq, rp⟩
  · rw [List.getElem?_set_ne hk] at h1 h2
    exact r.2 k a l h1 h2
def kRApp (n : Nat) (ds : List D) : M Fl := fun env => match rowsAt env n with
  | some (k, ll) => if ll.length < sizeLine then .ok .nx (env.set n (.own k (.rows (ll ++ [ds])))) else .stuck
  | none => .stuck
def mRApp (n : Nat) (f : M (List D)) : M Fl := fun env => match rowsAt env n with | some _ => bnd f (kRApp n) env | none => .stuck
theorem js_rapp {x : Str} {n : Nat} {p1 p2 p3 pos2 : Pos} (V : Nm X N sc raw) (hv : okV N sc n x = true) (j : JF X W e f)
    (hbase : attributeBase (.Name x p1) "append" X.env (eval (.Name x p1) X.env) = eval (.Name x p1) X.env := by rfl)
    (hfew : ((backTo p3 (starEach [e] X.env)).all (fun x => !x.1) && (backToKw p3 (keywordEach [] X.env)).all (fun x => x.1.isSome)
      && decide ([e].length + ([] : List Keyword).length + (if ([] : List Keyword).isEmpty then 0 else 1) < 30)) = true := by rfl)
    (hline : (p2.endLine == p3.line) = true := by rfl) (hs : starEach [e] X.env = (false, eval e X.env) :: starEach [] X.env := by rfl) (hplain : (backTo p3 (starEach [] X.env)).any (·.1) = false := by rfl)
    (hsw : swapsWith (.Call (.Attribute (.Name x p1) "append" p2) [e] [] p3) none pos2.line X.env = pure false := by rfl) :
    JS X W (.Expr (.Call (.Attribute (.Name x p1) "append" p2) [e] [] p3) pos2) (mRApp n f) := by
  obtain ⟨hN, hvi, hd, hcd⟩ := V.v hv
  obtain ⟨t, p, h⟩ := j.ex
  refine ⟨⟨_, ps_expr (pe_bm PySem.F.plainAttrs_list PySem.F.slot_list_append PySem.F.type_list_append mt_append (pe_var hN hvi hd hcd) (pa_cons p pa_nil hs) hbase hfew hline hs hplain) hsw, fun ps σ Hf H env S De z => ?_⟩⟩
  unfold mRApp at z
  cases w : rowsAt env n with
  | none => rw [w] at z; exact z.elim
  | some kl =>
    obtain ⟨kk, ll⟩ := kl
    rw [w] at z
    obtain ⟨pa, as, hp, nf, hh, np, nd, r5⟩ := rows_of S (rowsAt_eq w)
    refine ⟨.ref pa, hp, .inl ⟨rfl, _, .inl (.inl hh)⟩, ?_⟩
    refine h ps σ Hf H env S _ ?_
    dsimp only at z
    cases q1 : f env with
    | exc x2 p2 e2 => rw [bnd_exc q1] at z; exact fun cls dd Hf' H' x S ie => z cls dd σ Hf' H' x S ie
    | stuck => rw [bnd_stuck q1] at z; exact z
    | ok ds e2 =>
      rw [bnd_ok q1] at z
      intro Hf2 H2 q vs x2 S2 hq nq ngq rq noq
      unfold kRApp at z
      cases w2 : rowsAt e2 n with
      | none => simp only [w2] at z; exact z.elim
      | some kl2 =>
        obtain ⟨k2, l2⟩ := kl2
        simp only [w2] at z
        by_cases hz : l2.length < sizeLine
        · rw [if_pos hz] at z
          obtain ⟨pb, bs, hp4, nf4, hh4, np4, nd4, r4⟩ := rows_of S2 (rowsAt_eq w2)
          rw [hp] at hp4; cases hp4
          have fp : ∀ b, b = pa ∨ b ∈ bs → b ≠ q := fun b hb z => noq n _ _ pa (rowsAt_eq w2) hp (by rw [← z]; exact (ft_rows hh4).mpr hb)
          refine ⟨pa, bs.map L2.V.ref, .ref q, rfl, rfl, hh4, by rw [List.length_map, r4.1]; exact hz, ?_⟩
          have hmap : bs.map L2.V.ref ++ [L2.V.ref q] = (bs ++ [q]).map L2.V.ref := by rw [List.map_append]; rfl
          rw [hmap]
          refine z σ Hf2 _ x2 (S2.rowsTo (rowsAt_eq w2) hp hh4 (fun m => ?_) ?_ (r4.snoc hq nq rq) (fun b hb => ?_))
          · rcases List.mem_append.mp m with m | m
            · exact np4 m
            · exact fp pa (.inl rfl) (List.mem_singleton.mp m)
          · rw [List.nodup_append]
            exact ⟨nd4, by simp, fun a h1 b h2 => by rw [List.mem_singleton.mp h2]; exact fp a (.inr h1)⟩
          · rcases List.mem_append.mp hb with m | m
            · exact .inl m
            · rw [List.mem_singleton.mp m]; exact .inr ⟨nq, ngq, noq⟩
        · rw [if_neg hz] at z; exact z.elim
/-! ### x[i] = fresh list -/
def kRSet (n : Nat) (ds : List D) (kd : D) : M Fl := fun env => match kd, rowsAt env n with
  | .int j, some (k, ll) => (match ixN ll.length j with | some m => .ok .nx (env.set n (.own k (.rows (ll.set m ds)))) | none => .stuck)
  | _, _ => .stuck
def mRSet (n : Nat) (fb : M D) (f : M (List D)) : M Fl := bnd f fun ds env => match rowsAt env n with | some _ => bnd (hid n fb) (kRSet n ds) env | none => .stuck
theorem js_rset {x : Str} {n : Nat} {p1 p2 : Pos} (V : Nm X N sc raw) (hv : okV N sc n x = true) (j : JF X W e f) (k : JE X W b fb)
    (ha : ∀ v, assign (.Subscript (.Name x p1) b p2) X.env v = (do
      let ov ← holding [v] (eval (.Name x p1) X.env)
      let iv ← holding [v, ov] (eval b X.env)
      standAt p2
      holding [v, ov, iv] (setItem ov iv v)
      release [v, ov, iv] []) := by intro _; rfl)
    (hs : swapsWithSole [.Subscript (.Name x p1) b p2] e pos.line X.env = pure false := by rfl) (hw : swappedStores [.Subscript (.Name x p1) b p2] e X.env = pure none := by rfl) (h1 : (assignEach [.Subscript (.Name x p1) b p2] X.env).map (·.2) = [assign (.Subscript (.Name x p1) b p2) X.env] := by rfl) :
    JS X W (.Assign [.Subscript (.Name x p1) b p2] e pos) (mRSet n fb f) := by
  obtain ⟨hN, hvi, hd, hcd⟩ := V.v hv
  obtain ⟨t, p, h⟩ := j.ex
  obtain ⟨tb, pb, hb⟩ := k.ex
  refine ⟨⟨_, ps_asg p (pg_sub (pe_var hN hvi hd hcd) pb set_list ha) hs hw h1, fun ps σ Hf H env S De z => ?_⟩⟩
  refine h ps σ Hf H env S _ ?_
  unfold mRSet at z
  cases q1 : f env with
  | exc x2 p2 e2 => rw [bnd_exc q1] at z; exact fun cls dd Hf' H' x S ie => z cls dd σ Hf' H' x S ie
  | stuck => rw [bnd_stuck q1] at z; exact z
  | ok ds e2 =>
    rw [bnd_ok q1] at z
    intro Hf2 H2 q vs x2 S2 hq nq ngq rq noq
    cases w2 : rowsAt e2 n with
    | none => simp only [w2] at z; exact z.elim
    | some kl2 =>
      obtain ⟨k2, l2⟩ := kl2
      simp only [w2] at z
      have z2 := SG.mono x2 z
      obtain ⟨pa, as, hp, nf, hh, np, nd, r5⟩ := rows_of S2 (rowsAt_eq w2)
      refine ⟨.ref pa, hp, ?_⟩
      refine hid_go hb (SR.unkept ngq) (S2.kept hq nq noq) (rowsAt_eq w2) hp hh z2 fun v d e4 Hf3 H3 x3 S4' w4 hh3 rv z3 => ?_
      have S4 := SR.unkept ngq S4'
      obtain ⟨hq4, nq4, noq4⟩ := S4'.kept_at
      unfold kRSet at z3
      cases d with
      | int jj =>
        simp only [w4] at z3
        cases hx : ixN l2.length jj with
        | none => simp only [hx] at z3; exact z3.elim
        | some m =>
          simp only [hx] at z3
          obtain ⟨pb, bs, hp4, nf4, hh4, np4, nd4, r4⟩ := rows_of S4 (rowsAt_eq w4)
          rw [hp] at hp4; cases hp4
          have hb5 : bs = as := ref_inj (HO.lst.inj (Option.some.inj (hh4.symm.trans hh3)))
          subst hb5
          have fp : ∀ b, b = pa ∨ b ∈ bs → b ≠ q := fun b hb z => noq4 n _ _ pa (rowsAt_eq w4) hp (by rw [← z]; exact (ft_rows hh4).mpr hb)
          refine ⟨pa, bs.map L2.V.ref, jj, m, rfl, rv.int_inv, hh4, by rw [List.length_map, r4.1]; exact hx, ?_⟩
          have hmap : (bs.map L2.V.ref).set m (.ref q) = (bs.set m q).map L2.V.ref := by rw [List.map_set]
          rw [hmap]
          refine z3 σ Hf3 _ (Ex.refl _) (S4.rowsTo (rowsAt_eq w4) hp hh4 (fun w => ?_) ?_ (r4.put hq4 nq4 (rq.mono x3) m) (fun b hb => ?_))
          · rcases List.mem_or_eq_of_mem_set w with w | w
            · exact np4 w
            · exact fp pa (.inl rfl) w
          · rw [List.nodup_iff_pairwise_ne, List.pairwise_iff_getElem]
            intro i j hi hj hij
            rw [List.getElem_set, List.getElem_set]
            rw [List.length_set] at hi hj
            split
            · rw [if_neg (by omega)]; exact fun w => fp _ (.inr (List.getElem_mem hj)) w.symm
            · split
              · exact fp _ (.inr (List.getElem_mem hi))
              · exact fun w => by have := (List.getElem_inj nd4).mp w; omega
          · rcases List.mem_or_eq_of_mem_set hb with w | w
            · exact .inl w
            · rw [w]; exact .inr ⟨nq4, ngq, noq4⟩
      | _ => exact z3.elim
end
/-! ### their worth at an environment -/
section
variable {e e' : DEnv} {n m j' : Nat} {fb fe : M D} {f : M (List D)} {ll : List (List D)} {l ds : List D} {d kd : D} {j : Int} {k : Option Nat}
theorem a_appR {fr : M Nat} : mAppR n fr fe e = rB (fr e) (fun m => bnd (hid n fe) fun d => kAppR n m d) := rfl
def kAl (o : Option (List D)) (n m : Nat) (d : D) (k : Option Nat) (ll : List (List D)) (e : DEnv) : Res Fl := match o with | some l => if l.length < sizeLine then .ok .nx (e.set n (.own k (.rows (ll.set m (l ++ [d]))))) else .stuck | none => .stuck
def kAr (o : Option (Option Nat × List (List D))) (n m : Nat) (d : D) (e : DEnv) : Res Fl := match o with | some (k, ll) => kAl ll[m]? n m d k ll e | none => .stuck
theorem a_kAppR : kAppR n m d e = kAr (rowsAt e n) n m d e := rfl
theorem a_kAr : kAr (some (k, ll)) n m d e = kAl ll[m]? n m d k ll e := rfl
theorem a_kAl : kAl (some l) n m d k ll e = if l.length < sizeLine then .ok .nx (e.set n (.own k (.rows (ll.set m (l ++ [d]))))) else .stuck := rfl
theorem a_popR {fr : M Nat} : mPopR n fr e = rB (fr e) (fun m => kPopR n m) := rfl
def kPl (o : Option (List D)) (n m : Nat) (k : Option Nat) (ll : List (List D)) (e : DEnv) : Res Fl := match o with | some l => if 0 < l.length then .ok .nx (e.set n (.own k (.rows (ll.set m l.dropLast)))) else .stuck | none => .stuck
def kPr (o : Option (Option Nat × List (List D))) (n m : Nat) (e : DEnv) : Res Fl := match o with | some (k, ll) => kPl ll[m]? n m k ll e | none => .stuck
theorem a_kPopR : kPopR n m e = kPr (rowsAt e n) n m e := rfl
theorem a_kPr : kPr (some (k, ll)) n m e = kPl ll[m]? n m k ll e := rfl
theorem a_kPl : kPl (some l) n m k ll e = if 0 < l.length then .ok .nx (e.set n (.own k (.rows (ll.set m l.dropLast)))) else .stuck := rfl
def iR (o : Option (Option Nat × List (List D))) (r : Res Fl) : Res Fl := match o with | some _ => r | none => .stuck
theorem a_iR {q : Option Nat × List (List D)} {r : Res Fl} : iR (some q) r = r := rfl
theorem a_rpop : mRPop n fb e = iR (rowsAt e n) (rB (hid n fb e) (kRPop n)) := rfl
def kRp (o : Option (Option Nat × List (List D))) (n : Nat) (j : Int) (e : DEnv) : Res Fl := match o with | some (k, ll) => if -(2 ^ 63) ≤ j ∧ j < 2 ^ 63 then (match ixN ll.length j with | some m => .ok .nx (e.set n (.own k (.rows (ll.eraseIdx m)))) | none => .stuck) else .stuck | none => .stuck
theorem a_kRPop : kRPop n (.int j) e = kRp (rowsAt e n) n j e := by
  unfold kRPop kRp
  cases rowsAt e n with
  | none => rfl
  | some q => obtain ⟨k, ll⟩ := q; rfl
theorem kRp_ok (h1 : -(2 ^ 63) ≤ j) (h2 : j < 2 ^ 63) (hx : ixN ll.length j = some m) : kRp (some (k, ll)) n j e = .ok .nx (e.set n (.own k (.rows (ll.eraseIdx m)))) := by
  unfold kRp; dsimp only; rw [if_pos ⟨h1, h2⟩, hx]
theorem a_rapp : mRApp n f e = iR (rowsAt e n) (rB (f e) (kRApp n)) := rfl
def kRa (o : Option (Option Nat × List (List D))) (n : Nat) (ds : List D) (e : DEnv) : Res Fl := match o with | some (k, ll) => if ll.length < sizeLine then .ok .nx (e.set n (.own k (.rows (ll ++ [ds])))) else .stuck | none => .stuck
theorem a_kRApp : kRApp n ds e = kRa (rowsAt e n) n ds e := rfl
theorem a_kRa : kRa (some (k, ll)) n ds e = if ll.length < sizeLine then .ok .nx (e.set n (.own k (.rows (ll ++ [ds])))) else .stuck := rfl
def kRset1 (n : Nat) (fb : M D) (ds : List D) : M Fl := fun env => match rowsAt env n with | some _ => bnd (hid n fb) (kRSet n ds) env | none => .stuck
theorem a_rset : mRSet n fb f e = rB (f e) (kRset1 n fb) := rfl
theorem a_kRset1 : kRset1 n fb ds e = iR (rowsAt e n) (rB (hid n fb e) (kRSet n ds)) := rfl
def kRs2 (o : Option Nat) (n : Nat) (ds : List D) (k : Option Nat) (ll : List (List D)) (e : DEnv) : Res Fl := match o with | some m => .ok .nx (e.set n (.own k (.rows (ll.set m ds)))) | none => .stuck
def kRs (o : Option (Option Nat × List (List D))) (n : Nat) (ds : List D) (j : Int) (e : DEnv) : Res Fl := match o with | some (k, ll) => kRs2 (ixN ll.length j) n ds k ll e | none => .stuck
theorem a_kRSet : kRSet n ds (.int j) e = kRs (rowsAt e n) n ds j e := by
  unfold kRSet kRs
  cases rowsAt e n with
  | none => rfl
  | some q => obtain ⟨k, ll⟩ := q; show _ = kRs2 (ixN ll.length j) n ds k ll e; unfold kRs2; rfl
theorem a_kRs : kRs (some (k, ll)) n ds j e = kRs2 (ixN ll.length j) n ds k ll e := rfl
theorem a_kRs2 : kRs2 (some m) n ds k ll e = .ok .nx (e.set n (.own k (.rows (ll.set m ds)))) := rfl
end
end DL

/-! DLS: x[lo:hi] = e, x an own list, e a list. -/
namespace DL
open PySem PySem.Spec PyProof.Rows L2 Evl
section
variable {X : Cx}
/-- the key is a slice that was just made; either part may be left out -/
theorem sl_store {prog : Program} {w : World} {A : Around} {E : Value → Shared → Prop} {s : Shared} {l b sl : Addr} {items new : Array Value} {n : Nat} {vl vu : Value} {lo hi : Option Int} {Q : Unit → Shared → Prop}
    (e : s.heap.get? l = some { cls := .type "list", data := .seq items n }) (hb : s.heap.IsList b new) (hne : l ≠ b)
    (hs : s.heap.IsSliceOf sl vl vu .none) (pl : IsPart vl lo) (pu : IsPart vu hi) (hac : HT.sIx items.size 0 lo ≤ HT.sIx items.size items.size hi) (hc : HT.sIx items.size items.size hi ≤ items.size)
    (hsz : items.size + new.size ≤ sizeLine) (h : Q () { s with heap := s.heap.update l (Obj.mapSeq fun xs => xs.extract 0 (HT.sIx items.size 0 lo) ++ new ++ xs.extract (HT.sIx items.size items.size hi) xs.size) }) :
    wpAny (model prog w) A (setItem (.ref l) (.ref sl) (.ref b)) Q E s := by
  have hl : s.heap.IsList l items := PySem.IsL.isList e
  obtain ⟨ob, hob, hbc, nb, hbd⟩ := id hb
  obtain ⟨os, hos, hcs, hds⟩ := id hs
  have hTs : s.TypeIs (.ref sl) "slice" := ⟨os, hos, hcs⟩
  have hstep : ¬ ((rawPart none == rawInt 0) = true) := Bool.false_ne_true
  have hsame : Builtin.List.listSameRef (.ref l) (.ref b) = false := by
    unfold Builtin.List.listSameRef
    exact beq_eq_false_iff_ne.mpr hne
  obtain ⟨b1, b2, b3⟩ := slice_bounds lo hi items.size
  generalize HT.sIx items.size 0 lo = a at *
  generalize HT.sIx items.size items.size hi = c at *
  have hbd2 : sliceBounds lo hi none items.size = ((a : Int), (c : Int), 1) := Prod.ext b1 (Prod.ext b2 b3)
  have hmax : (max (a : Int) (c : Int)).toNat = c := by omega
  have hz' : ((fun xs : Array Value => xs.extract 0 a ++ new ++ xs.extract c xs.size) items).size ≤ sizeLine + 1 := by
    simp only [Array.size_append, Array.size_extract]
    omega
  unfold setItem
  refine wpAny_holding ?_
  refine wpAny_bind (wpAny_sequenceKey hl.typeIs (by decide) ?_)
  refine wpAny_bind (wpAny_callSpecial?_slot (name := Str.ofString "__setitem__") hl.typeIs slot_list_setitem
    (wpAny_call_entry slot_list_setitem hl.typeIs entry_list_setitem ?_ (args_list_setitem _ _ _)))
  show wpAny _ _ (Builtin.List.listSubscript? (.ref sl) >>= _) _ _ s
  refine wpAny_bind ?_
  unfold Builtin.List.listSubscript?
  refine wpAny_bind (wpAny_specialOf hTs slice_no_index ?_)
  simp only [Option.isNone_none, if_true]
  refine wpAny_pure ?_
  show wpAny _ _ (typeOf (.ref sl) >>= _) _ _ s
  refine wpAny_bind (wpAny_typeOf hTs ?_)
  rw [if_neg (by decide), listSliceParts_eq]
  refine wpAny_bind (wpAny_bind (wpAny_field hos hds (x := .none) rfl (wpAny_bind (wpAny_listPart .none ?_))))
  rw [if_neg hstep]
  refine wpAny_bind (wpAny_field hos hds (x := vl) rfl (wpAny_bind (wpAny_listPart pl ?_)))
  refine wpAny_bind (wpAny_field hos hds (x := vu) rfl (wpAny_bind (wpAny_listPart pu (wpAny_pure ?_))))
  simp only [hsame, Bool.false_eq_true, if_false]
  refine wpAny_bind (m := Builtin.List.listAllItems (.ref b) "must assign iterable to extended slice") ?_
  unfold Builtin.List.listAllItems
  refine wpAny_bind (wpAny_typeOf hb.typeIs ?_)
  simp only [beq_self_eq_true, Bool.true_or, if_true]
  unfold Builtin.List.listItems
  refine wpAny_bind (wpAny_seqItems hob hbd (wpAny_pure ?_))
  refine wpAny_bind (wpAny_bind (wpAny_seqItems e rfl (wpAny_pure ?_)))
  refine wpAny_bind (wpAny_of_eq ((sliceIndices_raw lo hi none items.size (by simp)).trans (congrArg (pure : Int × Int × Int → Sem (Int × Int × Int)) hbd2)) ?_)
  show wpAny _ _ (if ((1 : Int) == 1) = true then _ else _) _ _ s
  rw [if_pos (by decide)]
  refine wpAny_bind (wpAny_rule ?_)
  simp only [notLongL hsz, Bool.false_eq_true, if_false]
  show wpAny _ _ (updateSeq l (fun xs => xs.extract 0 ((a : Int)).toNat ++ new ++ xs.extract (max (a : Int) (c : Int)).toNat xs.size) >>= _) _ _ s
  rw [hmax, Int.toNat_natCast]
  refine wpAny_bind (wpAny_updateSeq (hz := Nat.le_trans (Nat.le_add_right _ _) hsz) (_hz' := hz') e rfl ?_)
  refine wpAny_bind (wpAny_letGo ?_)
  exact wpAny_pure ⟨.none, rfl, wpAny_pure h⟩
/-- the store of a list into a slice of another one -/
def gSlS (K : PySem.W.Frag) (to : TE) (tl th : TO) : TG := fun v σ H Q => to σ H fun o H1 => tl σ H1 fun lo H2 => th σ H2 fun hi H3 => ∃ p b xs ys, o = .ref p ∧ v = .ref b ∧ (K.lookup b = none → p ≠ b) ∧ H3 p = some (.lst xs) ∧ SqL K H3 b ys ∧
  HT.sIx xs.length 0 lo ≤ HT.sIx xs.length xs.length hi ∧ HT.sIx xs.length xs.length hi ≤ xs.length ∧ xs.length + ys.length ≤ sizeLine ∧ Q σ (upd H3 p (.lst (xs.take (HT.sIx xs.length 0 lo) ++ ys ++ xs.drop (HT.sIx xs.length xs.length hi))))
theorem pg_slS {o : Expr} {lo hi : Option Expr} {to : TE} {tl th : TO} {p2 pos : Pos} (ho : PE X o to) (hl : PO X lo tl) (hu : PO X hi th)
    (ha : ∀ v, assign (.Subscript o (.Slice lo hi none p2) pos) X.env v = (do
      let ov ← holding [v] (eval o X.env)
      let iv ← holding [v, ov] (eval (.Slice lo hi none p2) X.env)
      standAt pos
      holding [v, ov, iv] (setItem ov iv v)
      release [iv, v, ov] [])) : PG X (.Subscript o (.Slice lo hi none p2) pos) (gSlS X.K to tl th) := by
  refine ⟨fun pins s σ H v u Q I r h => ?_⟩
  rw [ha]
  refine wpAny_bind (wpAny_holding (thn (ho.run pins s σ H _ I h) fun ov s1 ⟨x, H1, I1, r1, q1⟩ => ?_))
  refine wpAny_bind (wpAny_holding (wpAny_Slice (thn (hl.run pins s1 σ H1 _ I1 q1) fun vl s2 ⟨l, H2, I2, pl, q2⟩ => thn (hu.run pins s2 σ H2 _ I2 q2) fun vu s3 ⟨c, H3, I3, pu, q3⟩ => ?_)))
  rw [evalPart_none]
  refine wpAny_pure ?_
  obtain ⟨p, b, xs, ys, rfl, rfl, hne, hp, hb, hac, hc, hz, q⟩ := q3
  cases r1
  cases r
  have I4 : Inv X pins σ H3 { s3 with heap := s3.heap.push { cls := .type "slice", data := .fields #[vl, vu, .none] } } := I3.kept (t' := s3.toks) fun b ob q => Heap.get?_push_of_some _ q
  have hne : p ≠ b := by
    cases hk : X.K.lookup b with
    | none => exact hne hk
    | some o =>
      intro e
      have := (I4.bs b o (I4.mod.kin b o hk)).2
      rw [← e, hp] at this
      cases this
  obtain ⟨_, its, n, rv, e1, e2⟩ := I4.lstM hp
  obtain ⟨its2, rv2, hl2, _⟩ := I4.list hb
  have l2 := rv2.length
  refine wpAny_bind (wpAny_standAt (wpAny_bind (wpAny_holding ?_)))
  have sz : its.toArray.size = xs.length := by rw [List.size_toArray, e1]
  refine sl_store e2 hl2.isList hne (Heap.IsSliceOf.new ..) pl pu (by rw [sz]; exact hac) (by rw [sz]; exact hc) (by rw [sz, List.size_toArray, ← l2]; exact hz) ?_
  refine wpAny_release ⟨σ, _, ?_, q⟩
  rw [sz]
  generalize HT.sIx xs.length 0 l = a at *
  generalize HT.sIx xs.length xs.length c = c' at *
  refine I4.lset (its' := its.take a ++ its2 ++ its.drop c') (t' := _) hp e2 ?_ (Vals.append (Vals.append (rv.take _) rv2) (rv.drop _)) ?_
  · exact splice_eq its its2 a c'
  · rw [List.length_append, List.length_append, List.length_take, List.length_drop]
    omega
end
section
variable {X : Cx} {W : WX} {sc raw : Scope} {N : List Str} {e : Expr} {fv : M D} {lo hi : Option Expr} {fl fu : M (Option Int)} {pos : Pos}
def kSlS (n : Nat) (d : D) (lo hi : Option Int) : M Fl := fun env => match d, ownAt env n with
  | .lst dl, some (k, l) => if HT.sIx l.length 0 lo ≤ HT.sIx l.length l.length hi ∧ HT.sIx l.length l.length hi ≤ l.length ∧ l.length + dl.length ≤ sizeLine then .ok .nx (env.set n (.own k (.lst (l.take (HT.sIx l.length 0 lo) ++ dl ++ l.drop (HT.sIx l.length l.length hi))))) else .stuck
  | _, _ => .stuck
def mSlS (n : Nat) (fl fu : M (Option Int)) (fv : M D) : M Fl := bnd fv fun d env => match ownAt env n with | some _ => bnd fl (fun lo => bnd fu fun hi => kSlS n d lo hi) env | none => .stuck
theorem rps_join {K : PySem.W.Frag} {mg : MG} {H : Hp} : ∀ {vs ws : List L2.V} {ds es : List D}, Rps K mg H vs ds → Rps K mg H ws es → Rps K mg H (vs ++ ws) (ds ++ es)
  | _, _, _, _, .nil, r => r
  | _, _, _, _, .cons a b, r => .cons a (rps_join b r)
theorem js_slS {x : Str} {i : Nat} {p1 p2 p3 : Pos} (V : Nm X N sc raw) (hv : okV N sc i x = true) (j : JE X W e fv) (jl : JO X W lo fl) (ju : JO X W hi fu)
    (ha : ∀ v, assign (.Subscript (.Name x p1) (.Slice lo hi none p2) p3) X.env v = (do
      let ov ← holding [v] (eval (.Name x p1) X.env)
      let iv ← holding [v, ov] (eval (.Slice lo hi none p2) X.env)
      standAt p3
      holding [v, ov, iv] (setItem ov iv v)
      release [iv, v, ov] []) := by intro _; rfl)
    (hs : swapsWithSole [.Subscript (.Name x p1) (.Slice lo hi none p2) p3] e pos.line X.env = pure false := by rfl) (hw : swappedStores [.Subscript (.Name x p1) (.Slice lo hi none p2) p3] e X.env = pure none := by rfl) (h1 : (assignEach [.Subscript (.Name x p1) (.Slice lo hi none p2) p3] X.env).map (·.2) = [assign (.Subscript (.Name x p1) (.Slice lo hi none p2) p3) X.env] := by rfl) :
    JS X W (.Assign [.Subscript (.Name x p1) (.Slice lo hi none p2) p3] e pos) (mSlS i fl fu fv) := by
  obtain ⟨hN, hvi, hd, hcd⟩ := V.v hv
  obtain ⟨t, p, h⟩ := j.ex
  obtain ⟨tl, pl, hl⟩ := jl.ex
  obtain ⟨tu, pu, hu⟩ := ju.ex
  refine ⟨⟨_, ps_asg p (pg_slS (pe_var hN hvi hd hcd) pl pu ha) hs hw h1, fun ps σ Hf H env S De z => ?_⟩⟩
  refine h ps σ Hf H env S _ (SG.bnd z fun d e1 Hf1 H1 x1 S1 z1 v rv => ?_)
  cases w : ownAt e1 i with
  | none => rw [w] at z1; exact z1.elim
  | some kl =>
    obtain ⟨kk, l⟩ := kl
    rw [w] at z1
    obtain ⟨pa, o, hp, nf, ho, _, hk⟩ := S1.own (ownAt_eq w)
    refine ⟨.ref pa, hp, ?_⟩
    refine hl ps σ Hf1 H1 e1 S1 _ (SG.bnd z1 fun lo' e2 Hf2 H2 x2 S2 z2 => ?_)
    refine hu ps σ Hf2 H2 e2 S2 _ (SG.bnd z2 fun hi' e3 Hf3 H3 x3 S3 z3 => ?_)
    have rv := (rv.mono x2).mono x3
    unfold kSlS at z3
    split at z3
    · rename_i dl k3 l3 w3 rv9
      split at z3
      · rename_i hc
        obtain ⟨c1, c2, c3⟩ := hc
        obtain ⟨p3, o3, hp3, nf3, ho3, ⟨vs3, e4, r3⟩, hk3⟩ := S3.own (ownAt_eq w3)
        subst e4
        rw [hp] at hp3; cases hp3
        cases rv with
        | lst hq r =>
          rename_i b ys
          have le := r3.length
          have le2 := r.length
          refine ⟨pa, b, vs3, ys, rfl, rfl, ?_, ho3, ex_l S3.ex hq, by rw [le]; exact c1, by rw [le]; exact c2, by rw [le, le2]; exact c3, ?_⟩
          · intro hk hne
            subst hne
            rcases hq with (hq | ⟨_, hq⟩) | ⟨_, _, _, hk2, _⟩
            · rw [nf3] at hq; cases hq
            · rw [nf3] at hq; cases hq
            · rw [hk] at hk2; cases hk2
          · rw [le]
            exact z3 σ Hf3 _ (Ex.refl _) (S3.turn (ownAt_eq w3) hp ⟨_, rfl, rps_join (rps_join (rps_take r3 _) r) (rps_drop r3 _)⟩)
      · exact z3.elim
    · exact z3.elim
end
section
variable {e : DEnv} {n : Nat} {l : List D} {d : D} {fv : M D} {fl fu : M (Option Int)}
def sLS (o : Option (Option Nat × List D)) (n : Nat) (fl fu : M (Option Int)) (d : D) (e : DEnv) : Res Fl := match o with | some _ => bnd fl (fun lo => bnd fu fun hi => kSlS n d lo hi) e | none => .stuck
theorem a_slS : mSlS n fl fu fv e = rB (fv e) (fun d env => sLS (ownAt env n) n fl fu d env) := rfl
theorem a_sLS {q : Option Nat × List D} : sLS (some q) n fl fu d e = rB (fl e) (fun lo env => rB (fu env) (fun hi => kSlS n d lo hi)) := rfl
def kLS (o : Option (Option Nat × List D)) (n : Nat) (dl : List D) (lo hi : Option Int) (e : DEnv) : Res Fl := match o with
  | some (k, l) => if HT.sIx l.length 0 lo ≤ HT.sIx l.length l.length hi ∧ HT.sIx l.length l.length hi ≤ l.length ∧ l.length + dl.length ≤ sizeLine then .ok .nx (e.set n (.own k (.lst (l.take (HT.sIx l.length 0 lo) ++ dl ++ l.drop (HT.sIx l.length l.length hi))))) else .stuck
  | none => .stuck
theorem a_kSlS {dl : List D} {lo hi : Option Int} : kSlS n (.lst dl) lo hi e = kLS (ownAt e n) n dl lo hi e := by
  unfold kSlS kLS
  cases ownAt e n with
  | none => rfl
  | some q => rfl
theorem a_kLS {q : Option Nat} {dl : List D} {lo hi : Option Int} : kLS (some (q, l)) n dl lo hi e = if HT.sIx l.length 0 lo ≤ HT.sIx l.length l.length hi ∧ HT.sIx l.length l.length hi ≤ l.length ∧ l.length + dl.length ≤ sizeLine then .ok .nx (e.set n (.own q (.lst (l.take (HT.sIx l.length 0 lo) ++ dl ++ l.drop (HT.sIx l.length l.length hi))))) else .stuck := rfl
end
section
variable {X : Cx} {W : WX} {sc raw : Scope} {N : List Str} {lo hi : Option Expr} {fl fu : M (Option Int)} {pos : Pos}
/-- x[lo:hi], x an own list that stays own -/
def kSlN (n : Nat) (lo hi : Option Int) : M D := fun env => match ownAt env n with | some (_, l) => DL.ret (.lst (cutD l lo hi)) env | none => .stuck
def mSlN (n : Nat) (fl fu : M (Option Int)) : M D := fun env => match ownAt env n with | some _ => bnd fl (fun lo => bnd fu fun hi => kSlN n lo hi) env | none => .stuck
theorem je_slN {x : Str} {i : Nat} {p1 p2 : Pos} (V : Nm X N sc raw) (hv : okV N sc i x = true) (jl : JO X W lo fl) (ju : JO X W hi fu) : JE X W (.Subscript (.Name x p1) (.Slice lo hi none p2) pos) (mSlN i fl fu) := by
  obtain ⟨hN, hvi, hd, hcd⟩ := V.v hv
  obtain ⟨tl, pl, hl⟩ := jl.ex
  obtain ⟨tu, pu, hu⟩ := ju.ex
  refine ⟨⟨_, pe_slice ((sl_list.or sl_tupA).or sl_str) (pe_var hN hvi hd hcd) pl pu, fun ps σ Hf H env S Q z => ?_⟩⟩
  unfold mSlN at z
  cases w : ownAt env i with
  | none => rw [w] at z; exact z.elim
  | some kl =>
    obtain ⟨kk, l⟩ := kl
    rw [w] at z
    obtain ⟨pa, o, hp, nf, ho, _, hk⟩ := S.own (ownAt_eq w)
    refine ⟨.ref pa, hp, ?_⟩
    refine hl ps σ Hf H env S _ (EG.bnd z fun lo' e2 Hf2 H2 x2 S2 z2 => ?_)
    refine hu ps σ Hf2 H2 e2 S2 _ (EG.bnd z2 fun hi' e3 Hf3 H3 x3 S3 z3 => ?_)
    unfold kSlN at z3
    cases w3 : ownAt e3 i with
    | none => rw [w3] at z3; exact z3.elim
    | some kl3 =>
      obtain ⟨k3, l3⟩ := kl3
      rw [w3] at z3
      obtain ⟨p3, o3, hp3, nf3, ho3, ⟨vs3, e4, r3⟩, hk3⟩ := S3.own (ownAt_eq w3)
      subst e4
      rw [hp] at hp3; cases hp3
      exact .inl (.inl ⟨_, _, rfl, .inl (.inl ho3), new_lst S3 (rps_cut r3 lo' hi') z3⟩)
end
section
variable {e : DEnv} {n : Nat} {l : List D} {fl fu : M (Option Int)}
def sLN (o : Option (Option Nat × List D)) (n : Nat) (fl fu : M (Option Int)) (e : DEnv) : Res D := match o with | some _ => bnd fl (fun lo => bnd fu fun hi => kSlN n lo hi) e | none => .stuck
theorem a_slN : mSlN n fl fu e = sLN (ownAt e n) n fl fu e := rfl
theorem a_sLN {q : Option Nat × List D} : sLN (some q) n fl fu e = rB (fl e) (fun lo env => rB (fu env) (fun hi => kSlN n lo hi)) := rfl
def kLN (o : Option (Option Nat × List D)) (lo hi : Option Int) (e : DEnv) : Res D := match o with | some (_, l) => .ok (.lst (cutD l lo hi)) e | none => .stuck
theorem a_kSlN {lo hi : Option Int} : kSlN n lo hi e = kLN (ownAt e n) lo hi e := by
  unfold kSlN kLN
  cases ownAt e n with
  | none => rfl
  | some q => rfl
theorem a_kLN {q : Option Nat} {lo hi : Option Int} : kLN (some (q, l)) lo hi e = .ok (.lst (cutD l lo hi)) e := rfl
end
end DL

/-! DLT: own objects that a def is lent and changes. -/
namespace DL
open PySem PySem.Spec PyProof.Rows L2 Evl
section
variable (K : PySem.W.Frag) (mg : MG)
/-- at p stands what od says, nobody's -/
structure OwO (Hf H : Hp) (p : Addr) (od : OD) : Prop where
  ex : ∃ o, Hf p = none ∧ H p = some o ∧ OdR K mg Hf H p od o
end
/-- the object at p is changed, all else stands -/
structure ChgO (Hf H Hf' H' : Hp) (p : Addr) (od od' : OD) : Prop where
  f : Ex Hf Hf'
  h : Ex Hf' H'
  k : ∀ (a : Addr) (o : HO), H a = some o → Hf a = none → ¬ Ft H od p a → H' a = some o ∧ Hf' a = none ∧ ¬ Ft H' od' p a
inductive RsM where
  | ok (d : D) (od : OD) | exc (x : Str) (p : Option D) | stuck
def spM (K : PySem.W.Frag) (mg : MG) (n : Nat) (F : OD → List D → RsM) : Sp := fun vs H Q E => ∃ p us Hf od ds, vs = .ref p :: us ∧ vs.length = n ∧ Ex Hf H ∧ OwO K mg Hf H p od ∧ Rps K mg Hf us ds ∧ match F od ds with
  | .ok d od' => ∀ v Hf' H', ChgO Hf H Hf' H' p od od' → OwO K mg Hf' H' p od' → Rp K mg Hf' v d → Q v H'
  | .exc x pd => ∀ cls dd Hf' H', Ex Hf Hf' → Ex Hf' H' → (∀ a o, H a = some o → Hf a = none → ¬ Ft H od p a → H' a = some o ∧ Hf' a = none) → IsExc K mg Hf' x pd cls dd → E cls dd H'
  | .stuck => False
def envM (n : Nat) (od : OD) (ds : List D) : DEnv := .own (some 0) od :: (ds.map Sl.val ++ List.replicate (n - (ds.length + 1)) .no)
def endM (d : D) : DEnv → RsM
  | .own (some 0) od :: _ => .ok d od
  | _ => .stuck
def runM (n : Nat) (f : M Fl) (od : OD) (ds : List D) : RsM := match f (envM n od ds) with
  | .ok (.rt d) e => endM d e
  | .ok .nx e => endM .non e
  | .exc x p _ => .exc x p
  | _ => .stuck
section
variable {K : PySem.W.Frag} {mg : MG} {Hf H Hf' H' Hf2 H2 : Hp} {p q : Addr} {od od' : OD} {σ : L2.St} {e : DEnv}
theorem OwO.live {a : Addr} (w : OwO K mg Hf H p od) (f : Ft H od p a) : Hf a = none ∧ ∃ u, H a = some u := by
  obtain ⟨o, h1, h2, h3⟩ := w.ex
  exact f.live h2 h1 h3
theorem OwO.keep (w : OwO K mg Hf H p od) (e : Ex Hf Hf') (k : ∀ a, Ft H od p a → Hf' a = none ∧ H' a = H a) : OwO K mg Hf' H' p od := by
  obtain ⟨o, h1, h2, h3⟩ := w.ex
  exact ⟨o, (k p .self).1, by rw [(k p .self).2]; exact h2, h3.keep e h2 k⟩
open Classical in
/-- what stands in H, is not frozen, and is not od's -/
noncomputable def gM (Hf H : Hp) (p : Addr) (od : OD) : Hp := fun a => if (Hf a).isSome ∨ Ft H od p a then none else H a
theorem gM_at {a : Addr} {o : HO} (h : H a = some o) (n : Hf a = none) (f : ¬ Ft H od p a) : gM Hf H p od a = some o := by
  unfold gM; rw [if_neg (fun z => z.elim (fun z => by rw [n] at z; cases z) f)]; exact h
theorem gM_of {a : Addr} {o : HO} (h : gM Hf H p od a = some o) : H a = some o ∧ Hf a = none ∧ ¬ Ft H od p a := by
  unfold gM at h
  split at h
  · cases h
  · rename_i z
    refine ⟨h, ?_, fun f => z (.inr f)⟩
    cases w : Hf a with
    | none => rfl
    | some u => exact absurd (.inl (by rw [w]; rfl)) z
/-- one own slot, the others plain -/
theorem sr_one {n : Nat} (x : Ex Hf H) (w : OwO K mg Hf H p od) (hl : σ.length = e.length) (hn : e[n]? = some (.own (some 0) od)) (hp : σ[n]? = some (some (.ref p)))
    (ho : ∀ (i : Nat) (s : Sl), i ≠ n → e[i]? = some s → s = .no ∨ ∃ d v, s = .val d ∧ σ[i]? = some (some v) ∧ Rp K mg Hf v d) : SR K mg ⟨[p], gM Hf H p od⟩ Hf H σ e := by
  have no : ∀ (i : Nat) (k : Option Nat) (l : OD), e[i]? = some (.own k l) → i = n := fun i k l h => by
    by_cases hi : i = n
    · exact hi
    · rcases ho i _ hi h with z | ⟨_, _, z, _⟩ <;> cases z
  refine ⟨x, hl, fun i s h => ?_, fun i j k k' l l' a b c hij h1 h2 _ _ _ _ => hij ((no i k l h1).trans (no j k' l' h2).symm), fun a o h => ?_⟩
  · by_cases hi : i = n
    · subst hi; rw [hn] at h; cases h
      obtain ⟨o, h1, h2, h3⟩ := w.ex
      exact ⟨_, hp, p, o, rfl, h1, h2, h3, fun j hj => by cases hj; rfl⟩
    · rcases ho i s hi h with rfl | ⟨d, v, rfl, h1, h2⟩
      · obtain ⟨y, hy⟩ : ∃ y, σ[i]? = some y := ⟨σ[i]'(by rw [hl]; exact (List.getElem?_eq_some_iff.mp h).1), List.getElem?_eq_getElem _⟩
        exact ⟨y, hy, trivial⟩
      · exact ⟨_, h1, v, rfl, h2⟩
  · obtain ⟨h1, h2, h3⟩ := gM_of h
    refine ⟨h1, h2, fun i k l q q1 q2 f => ?_⟩
    have hi := no i k l q1
    subst hi
    rw [hn] at q1; cases q1
    rw [hp] at q2; cases q2
    exact h3 f
/-- what the own slot comes to -/
theorem sr_one_end {n : Nat} (x : Ex Hf Hf') (S : SR K mg ⟨[p], gM Hf H p od⟩ Hf' H' σ e) (hn : e[n]? = some (.own (some 0) od')) : ChgO Hf H Hf' H' p od od' ∧ OwO K mg Hf' H' p od' ∧ σ[n]? = some (some (.ref p)) := by
  obtain ⟨q, o, h1, h2, h3, h4, h5⟩ := S.own hn
  have hq := h5 0 rfl
  have hq : p = q := by simpa using hq
  subst hq
  refine ⟨⟨x, S.ex, fun a o h n f => ?_⟩, ⟨o, h2, h3, h4⟩, h1⟩
  obtain ⟨g1, g2, g3⟩ := S.fgF a o (gM_at h n f)
  exact ⟨g1, g2, fun z => g3 _ _ _ p hn h1 z⟩
theorem sr_one_exc (S : SR K mg ⟨[p], gM Hf H p od⟩ Hf' H' σ e) : ∀ a o, H a = some o → Hf a = none → ¬ Ft H od p a → H' a = some o ∧ Hf' a = none := fun a o h n f => by
  obtain ⟨g1, g2, g3⟩ := S.fgF a o (gM_at h n f)
  exact ⟨g1, g2⟩
end
theorem sr_startM {K : PySem.W.Frag} {mg : MG} {Hf H : Hp} {p : Addr} {od : OD} {us : List V} {ds : List D} {N : List Str} (x : Ex Hf H) (w : OwO K mg Hf H p od) (r : Rps K mg Hf us ds) (hn : us.length + 1 ≤ N.length) :
    SR K mg ⟨[p], gM Hf H p od⟩ Hf H (L2.start N (.ref p :: us)) (envM N.length od ds) := by
  have hl := r.length
  refine sr_one (n := 0) x w ?_ rfl rfl fun i s hi h => ?_
  · unfold L2.start envM
    simp only [List.length_append, List.length_map, List.length_replicate, List.length_cons, hl]
    omega
  · unfold envM at h
    cases i with
    | zero => exact absurd rfl hi
    | succ i =>
      rw [List.getElem?_cons_succ] at h
      by_cases hi : i < ds.length
      · rw [List.getElem?_append_left (by simpa using hi), List.getElem?_map] at h
        cases q : ds[i]? with
        | none => rw [q] at h; cases h
        | some d =>
          rw [q] at h; cases h
          obtain ⟨v, h1, h2⟩ := r.get q
          refine .inr ⟨d, v, rfl, ?_, h2⟩
          unfold L2.start
          rw [List.map_cons, List.cons_append, List.getElem?_cons_succ, List.getElem?_append_left (by simp; omega), List.getElem?_map, h1]; rfl
      · rw [List.getElem?_append_right (by simpa using hi), List.getElem?_replicate] at h
        split at h
        · cases h; exact .inl rfl
        · cases h
section
variable {P : Program} {w : World} {K : PySem.W.Frag} {mg : MG} {base : Heap}
theorem endM_eq {d d' : D} {e : DEnv} {od : OD} (h : endM d e = .ok d' od) : d = d' ∧ e[0]? = some (.own (some 0) od) := by
  unfold endM at h
  split at h
  · cases h; exact ⟨rfl, rfl⟩
  · cases h
theorem endM_exc {d : D} {e : DEnv} {x : Str} {p : Option D} (h : endM d e = .exc x p) : False := by
  unfold endM at h
  split at h <;> cases h
/-- THE RULE for a def that is lent its first argument -/
theorem fn_okM {x qual : Str} {st : Stmt} {f : Addr} {fd : FuncData} {N ps : List Str} {k : Nat} {g : M Fl} (F : Fun K x qual st f fd) (NS : Big P base k) (S : FnScope N ps (defScope st))
    (hbody : ∀ (X : Cx) (W : WX), X.prog = P → X.w = w → X.K = K → X.mg = mg → X.base = base → Room k X.A → CtxOk X W → Nm X N (defScope st) (defScope st) → Df X → JSs X W (defBody st) g) (hle : ps.length ≤ N.length := by decide) :
    FnOk P w K mg base (L2N.CX P w) (k + 1) f fd ps (spM K mg ps.length (runM N.length g)) := by
  refine okN F S (fun vs H Q E h => by obtain ⟨p, us, Hf, od, ds, _, hl, _⟩ := h; exact hl) (fun cdv A outer s H vs Q E hr h => ?_)
  obtain ⟨p, us, Hf, od, ds, rfl, hl, x, ow, r, hF⟩ := h
  obtain ⟨t, pt, ht⟩ := (hbody (cxOf (L2N.CX P w) P w K mg base N qual (defScope st) f cdv A outer s H E) (fun cls d _ H => E cls d H) rfl rfl rfl rfl rfl hr ⟨rfl, hr.units, passes_of rfl, L2N.takes_of rfl rfl rfl rfl, ⟨NS.tree, NS.seer, ⟨_, _, rfl, S.gen, S.co, rfl, rfl⟩, by show (A.deeper (envOfC qual (defScope st) s.heap.objs.size f cdv)).depth + Builtin.pylongFrames < recursionLimit; have := hr.dp; have e : Builtin.pylongFrames = 100 := rfl; have := NS.k; omega⟩⟩ ⟨rfl, rfl, S.nd, S.kind, fun _ _ => rfl⟩ ⟨rfl, rfl⟩).ex
  refine ⟨t, pt, ht _ _ Hf H _ (sr_startM x ow r (by simp only [List.length_cons] at hl; omega)) _ ?_⟩
  have fin : ∀ {d : D} {e' : DEnv} {v : V} {Hf' H' : Hp} {σ' : L2.St}, (match endM d e' with
      | .ok d od' => ∀ v Hf' H', ChgO Hf H Hf' H' p od od' → OwO K mg Hf' H' p od' → Rp K mg Hf' v d → Q v H'
      | .exc x pd => ∀ cls dd Hf' H', Ex Hf Hf' → Ex Hf' H' → (∀ a o, H a = some o → Hf a = none → ¬ Ft H od p a → H' a = some o ∧ Hf' a = none) → IsExc K mg Hf' x pd cls dd → E cls dd H'
      | .stuck => False) → Ex Hf Hf' → SR K mg ⟨[p], gM Hf H p od⟩ Hf' H' σ' e' → Rp K mg Hf' v d → Q v H' := by
    intro d e' v Hf' H' σ' h x' S' rv
    cases q : endM d e' with
    | ok d2 od' =>
      rw [q] at h
      obtain ⟨rfl, h0⟩ := endM_eq q
      obtain ⟨c1, c2, _⟩ := sr_one_end x' S' h0
      exact h v Hf' H' c1 c2 rv
    | exc y pd => exact (endM_exc q).elim
    | stuck => rw [q] at h; exact h.elim
  unfold runM at hF
  cases q : g (envM N.length od ds) with
  | ok fl e' =>
    rw [q] at hF
    cases fl with
    | nx => exact fun σ' Hf' H' x' S' => fin hF x' S' .non
    | rt d => exact fun σ' Hf' H' x' S' v rv => fin hF x' S' rv
    | ro l => exact hF.elim
    | bk => exact hF.elim
    | ct => exact hF.elim
  | exc y pd e' => rw [q] at hF; exact fun cls dd σ' Hf' H' x' S' z => hF cls dd Hf' H' x' S'.ex (sr_one_exc S') z
  | stuck => rw [q] at hF; exact hF.elim
end
structure CalleeM (P : Program) (w : World) (K : PySem.W.Frag) (mg : MG) (base : Heap) (x : Str) (k : Nat) (sp : Sp) : Prop where
  ex : ∃ f fd ps, FnOk P w K mg base (L2N.CX P w) k f fd ps sp ∧ mg x = some (.ref f) ∧ PySem.W.keepIn K (.ref f) = true ∧ Binds K fd ps []
structure CalM (X : Cx) (x : Str) (sp : Sp) : Prop where
  ex : ∃ k f fd ps, FnOk X.prog X.w X.K X.mg X.base (L2N.CX X.prog X.w) k f fd ps sp ∧ Room k X.A ∧ X.mg x = some (.ref f) ∧ PySem.W.keepIn X.K (.ref f) = true ∧ Binds X.K fd ps []
theorem CalleeM.calM {X : Cx} {x : Str} {k k' : Nat} {sp : Sp} (c : CalleeM X.prog X.w X.K X.mg X.base x k sp) (hr : Room k' X.A) (h : k ≤ k' := by decide) : CalM X x sp := by
  obtain ⟨f, fd, ps, G, hm, hk, hb⟩ := c.ex
  exact ⟨⟨k, f, fd, ps, G, hr.mono h, hm, hk, hb⟩⟩
theorem calleeM_of {P : Program} {w : World} {K : PySem.W.Frag} {mg : MG} {base : Heap} {x : Str} {f : Addr} {fd : FuncData} {ps : List Str} {k : Nat} {sp : Sp} (G : FnOk P w K mg base (L2N.CX P w) k f fd ps sp) (hm : mg x = some (.ref f)) (hk : PySem.W.keepIn K (.ref f) = true) (hb : Binds K fd ps []) : CalleeM P w K mg base x k sp := ⟨⟨f, fd, ps, G, hm, hk, hb⟩⟩
/-- the call of any def that keeps a promise, as an expression's rule -/
theorem pe_callM {X : Cx} {W : WX} {N : List Str} {sc raw : Scope} {x : Str} {p pos : Pos} {e : Expr} {es : List Expr} {sp : Sp} {t : TA} (C : CtxOk X W) (V : Nm X N sc raw) (hG : okG sc x = true) (c : CalM X x sp) (ja : PA X (e :: es) t)
    (he : starEach (e :: es) X.env = (false, eval e X.env) :: starEach es X.env := by rfl) (hpl : (backTo pos (starEach es X.env)).any (·.1) = false := by rfl) :
    PE X (.Call (.Name x p) (e :: es) [] pos) (tCallS sp (fun σ cls d H => W cls d σ H) t) := by
  obtain ⟨hg, hdb, _⟩ := V.g hG
  obtain ⟨k, fa, fd, ps', G, hr, hm, hk, hb⟩ := c.ex
  exact pe_callS G hr hg hm hk hb (fun σ => L2N.passAt C.tk σ) ja hdb he hpl
end DL

/-! DLU: a tuple of three own objects, lent. -/
namespace DL
open PySem PySem.Spec PyProof.Rows L2 Evl
section
variable {K : PySem.W.Frag} {mg : MG} {Hf H Hf' H' Hf2 H2 : Hp} {p q r : Addr} {d d' e e' f f' : OD} {σ : L2.St}
def Apart (H : Hp) (p : Addr) (d : OD) (q : Addr) (e : OD) : Prop := ∀ a, Ft H d p a → Ft H e q a → False
theorem Apart.symm (h : Apart H p d q e) : Apart H q e p d := fun a x y => h a y x
theorem Apart.ne (h : Apart H p d q e) : p ≠ q := fun z => h p .self (by rw [z]; exact .self)
/-- an object apart from the changed one stands -/
theorem OwO.stay (w : OwO K mg Hf H q e) (c : ChgO Hf H Hf' H' p d d') (a : Apart H p d q e) : OwO K mg Hf' H' q e ∧ Apart H' p d' q e := by
  have k : ∀ b, Ft H e q b → Hf' b = none ∧ H' b = H b ∧ ¬ Ft H' d' p b := fun b fb => by
    obtain ⟨n, u, hu⟩ := w.live fb
    obtain ⟨k1, k2, k3⟩ := c.k b u hu n fun z => a b z fb
    exact ⟨k2, by rw [k1, hu], k3⟩
  refine ⟨w.keep c.f fun b fb => ⟨(k b fb).1, (k b fb).2.1⟩, fun b fp fq => ?_⟩
  exact (k b (fq.of_eq (k q .self).2.1)).2.2 fp
/-- two objects apart from the changed one are apart still -/
theorem Apart.stay {a b : Addr} {oa ob : OD} (wa : OwO K mg Hf H a oa) (wb : OwO K mg Hf H b ob) (c : ChgO Hf H Hf' H' p d d') (h : Apart H a oa b ob) (ha : Apart H p d a oa) (hb : Apart H p d b ob) : Apart H' a oa b ob := fun z fa fb => by
  obtain ⟨n, u, hu⟩ := wa.live (.self)
  obtain ⟨k1, _, _⟩ := c.k a u hu n fun z => ha a z .self
  obtain ⟨n2, u2, hu2⟩ := wb.live (.self)
  obtain ⟨k2, _, _⟩ := c.k b u2 hu2 n2 fun z => hb b z .self
  exact h z (fa.of_eq (by rw [k1, hu])) (fb.of_eq (by rw [k2, hu2]))
end
structure Own3 (K : PySem.W.Frag) (mg : MG) (Hf H : Hp) (p q r : Addr) (d e f : OD) : Prop where
  o1 : OwO K mg Hf H p d
  o2 : OwO K mg Hf H q e
  o3 : OwO K mg Hf H r f
  a12 : Apart H p d q e
  a13 : Apart H p d r f
  a23 : Apart H q e r f
structure Chg3 (Hf H Hf' H' : Hp) (p q r : Addr) (d e g d' e' g' : OD) : Prop where
  f : Ex Hf Hf'
  h : Ex Hf' H'
  k : ∀ (a : Addr) (o : HO), H a = some o → Hf a = none → ¬ Ft H d p a → ¬ Ft H e q a → ¬ Ft H g r a → H' a = some o ∧ Hf' a = none ∧ ¬ Ft H' d' p a ∧ ¬ Ft H' e' q a ∧ ¬ Ft H' g' r a
section
variable {K : PySem.W.Frag} {mg : MG} {Hf H Hf' H' Hf2 H2 : Hp} {p q r : Addr} {d d' d2 e e' e2 f f' f2 : OD} {σ : L2.St}
theorem Chg3.refl (x : Ex Hf H) : Chg3 Hf H Hf H p q r d e f d e f := ⟨Ex.refl _, x, fun a o h n h1 h2 h3 => ⟨h, n, h1, h2, h3⟩⟩
theorem Chg3.trans (a : Chg3 Hf H Hf' H' p q r d e f d' e' f') (b : Chg3 Hf' H' Hf2 H2 p q r d' e' f' d2 e2 f2) : Chg3 Hf H Hf2 H2 p q r d e f d2 e2 f2 :=
  ⟨a.f.trans b.f, b.h, fun c o h n h1 h2 h3 => by
    obtain ⟨k1, k2, k3, k4, k5⟩ := a.k c o h n h1 h2 h3
    exact b.k c o k1 k2 k3 k4 k5⟩
theorem Own3.c1 (w : Own3 K mg Hf H p q r d e f) (c : ChgO Hf H Hf' H' p d d') (o : OwO K mg Hf' H' p d') : Own3 K mg Hf' H' p q r d' e f ∧ Chg3 Hf H Hf' H' p q r d e f d' e f := by
  obtain ⟨s2, t2⟩ := w.o2.stay c w.a12
  obtain ⟨s3, t3⟩ := w.o3.stay c w.a13
  refine ⟨⟨o, s2, s3, t2, t3, w.a23.stay w.o2 w.o3 c w.a12 w.a13⟩, c.f, c.h, fun a u h n h1 h2 h3 => ?_⟩
  obtain ⟨k1, k2, k3⟩ := c.k a u h n h1
  obtain ⟨n2, u2, hu2⟩ := w.o2.live .self
  obtain ⟨n3, u3, hu3⟩ := w.o3.live .self
  have e2 := (c.k q u2 hu2 n2 fun z => w.a12 q z .self).1
  have e3 := (c.k r u3 hu3 n3 fun z => w.a13 r z .self).1
  exact ⟨k1, k2, k3, fun z => h2 (z.of_eq (e2.trans hu2.symm)), fun z => h3 (z.of_eq (e3.trans hu3.symm))⟩
theorem Own3.rot (w : Own3 K mg Hf H p q r d e f) : Own3 K mg Hf H q r p e f d := ⟨w.o2, w.o3, w.o1, w.a23, w.a12.symm, w.a13.symm⟩
theorem Chg3.rot (c : Chg3 Hf H Hf' H' p q r d e f d' e' f') : Chg3 Hf H Hf' H' q r p e f d e' f' d' := ⟨c.f, c.h, fun a o h n h1 h2 h3 => by
  obtain ⟨k1, k2, k3, k4, k5⟩ := c.k a o h n h3 h1 h2
  exact ⟨k1, k2, k4, k5, k3⟩⟩
theorem Own3.c2 (w : Own3 K mg Hf H p q r d e f) (c : ChgO Hf H Hf' H' q e e') (o : OwO K mg Hf' H' q e') : Own3 K mg Hf' H' p q r d e' f ∧ Chg3 Hf H Hf' H' p q r d e f d e' f := by
  obtain ⟨a, b⟩ := w.rot.c1 c o
  exact ⟨a.rot.rot, b.rot.rot⟩
theorem Own3.c3 (w : Own3 K mg Hf H p q r d e f) (c : ChgO Hf H Hf' H' r f f') (o : OwO K mg Hf' H' r f') : Own3 K mg Hf' H' p q r d e f' ∧ Chg3 Hf H Hf' H' p q r d e f d e f' := by
  obtain ⟨a, b⟩ := w.rot.rot.c1 c o
  exact ⟨a.rot, b.rot⟩
end
/-! ### rows of whole numbers -/
abbrev Mx := List (List Int)
def mxD (L : Mx) : List (List D) := L.map fun r => r.map D.int
abbrev rw3 (L : Mx) : OD := .rows (mxD L)
structure Tri where
  F : Mx
  R : Mx
  C : Mx
abbrev OwT (K : PySem.W.Frag) (mg : MG) (Hf H : Hp) (p q r : Addr) (S : Tri) : Prop := Own3 K mg Hf H p q r (rw3 S.F) (rw3 S.R) (rw3 S.C)
abbrev ChT (Hf H Hf' H' : Hp) (p q r : Addr) (S S' : Tri) : Prop := Chg3 Hf H Hf' H' p q r (rw3 S.F) (rw3 S.R) (rw3 S.C) (rw3 S'.F) (rw3 S'.R) (rw3 S'.C)
/-- a def that is lent the tuple of three, and whole numbers; R: what it comes to -/
def spT (K : PySem.W.Frag) (mg : MG) (R : Tri → List Int → D → Tri → Prop) : Sp := fun vs H Q _ => ∃ s p q r Hf S ns d S', vs = .ref s :: ns.map V.int ∧ Ex Hf H ∧ SqT K Hf s [.ref p, .ref q, .ref r] ∧ OwT K mg Hf H p q r S ∧ R S ns d S' ∧
  ∀ v Hf' H', ChT Hf H Hf' H' p q r S S' → OwT K mg Hf' H' p q r S' → Rp K mg Hf' v d → Q v H'
/-! ### what the defs do -/
def zipI : List Int → List Int → Int → List Int
  | a :: r, b :: s, q => (a - q * b) :: zipI r s q
  | _, _, _ => []
def tkRow (L : Mx) (i j : Nat) (q : Int) : Mx := L.set i (zipI (L.getD i []) (L.getD j []) q)
def okRow (L : Mx) (i j : Nat) (q : Int) : Prop := i < L.length ∧ j < L.length ∧ (∀ b ∈ L.getD j [], IntMulOk q b) ∧ (L.getD i []).length ≤ sizeLine
def exRow (L : Mx) (i j : Nat) : Mx := (L.set i (L.getD j [])).set j (L.getD i [])
def ngRow (L : Mx) (i : Nat) : Mx := L.set i ((L.getD i []).map fun n => -n)
def Tri.tk (S : Tri) (i j : Nat) (q : Int) : Tri := ⟨tkRow S.F i j q, tkRow S.R i j q, tkRow S.C j i (-q)⟩
def Tri.ok (S : Tri) (i j : Nat) (q : Int) : Prop := okRow S.F i j q ∧ okRow S.R i j q ∧ okRow S.C j i (-q)
def Tri.take (S : Tri) (i j : Nat) (q : Int) : Tri := if q = 0 then S else S.tk i j q
def Tri.ex (S : Tri) (i j : Nat) : Tri := ⟨exRow S.F i j, exRow S.R i j, exRow S.C i j⟩
def Tri.ng (S : Tri) (i : Nat) : Tri := ⟨ngRow S.F i, ngRow S.R i, ngRow S.C i⟩
def rTake (S : Tri) (ns : List Int) (d : D) (S' : Tri) : Prop := ∃ (i j : Nat) (q : Int), ns = [(i : Int), (j : Int), q] ∧ (q ≠ 0 → S.ok i j q) ∧ d = .non ∧ S' = S.take i j q
def rExch (S : Tri) (ns : List Int) (d : D) (S' : Tri) : Prop := ∃ (i j : Nat), ns = [(i : Int), (j : Int)] ∧ (i < S.F.length ∧ i < S.R.length ∧ i < S.C.length) ∧ (j < S.F.length ∧ j < S.R.length ∧ j < S.C.length) ∧ d = .non ∧ S' = S.ex i j
def rTurn (S : Tri) (ns : List Int) (d : D) (S' : Tri) : Prop := ∃ (i : Nat), ns = [(i : Int)] ∧ (i < S.F.length ∧ i < S.R.length ∧ i < S.C.length) ∧ ((S.F.getD i []).length ≤ sizeLine ∧ (S.R.getD i []).length ≤ sizeLine ∧ (S.C.getD i []).length ≤ sizeLine) ∧ d = .non ∧ S' = S.ng i
end DL

/-! DSa: the defs that change the tuple of three, walked by hand. -/
namespace DL
open PySem PySem.Spec PyProof.Rows L2 Evl
section
variable {P : Program} {w : World} {K : PySem.W.Frag} {mg : MG} {base : Heap}
/-- THE RULE for a def that is lent the tuple of three -/
theorem fn_okT {x qual : Str} {st : Stmt} {f : Addr} {fd : FuncData} {N ps : List Str} {k n : Nat} {R : Tri → List Int → D → Tri → Prop} (F : Fun K x qual st f fd) (NS : Big P base k) (S : FnScope N ps (defScope st)) (hn : ps.length = n + 1)
    (hR : ∀ S ns d S', R S ns d S' → ns.length = n)
    (hbody : ∀ (X : Cx) (W : WX), X.prog = P → X.w = w → X.K = K → X.mg = mg → X.base = base → Room k X.A → CtxOk X W → Nm X N (defScope st) (defScope st) → Df X →
      ∃ t, PSs X (defBody st) t ∧ ∀ (s p q r : Addr) (Hf H : Hp) (S : Tri) (ns : List Int) (d : D) (S' : Tri) (Q : VK), Ex Hf H → SqT X.K Hf s [.ref p, .ref q, .ref r] → OwT X.K X.mg Hf H p q r S → R S ns d S' →
        (∀ v Hf' H', ChT Hf H Hf' H' p q r S S' → OwT X.K X.mg Hf' H' p q r S' → Rp X.K X.mg Hf' v d → Q v H') → t { nx := fun _ H' => Q .non H', rt := Q } (L2.start N (.ref s :: ns.map V.int)) H) :
    FnOk P w K mg base (L2N.CX P w) (k + 1) f fd ps (spT K mg R) := by
  refine okN F S (fun vs H Q E h => by obtain ⟨s, p, q, r, Hf, S, ns, d, S', rfl, _, _, _, hr, _⟩ := h; rw [List.length_cons, List.length_map, hR _ _ _ _ hr, hn]) (fun cdv A outer s H vs Q E hr h => ?_)
  obtain ⟨s0, p, q, r, Hf, S0, ns, d, S', rfl, x, hs, ow, hRR, hQ⟩ := h
  obtain ⟨t, pt, ht⟩ := hbody (cxOf (L2N.CX P w) P w K mg base N qual (defScope st) f cdv A outer s H E) (fun cls d _ H => E cls d H) rfl rfl rfl rfl rfl hr ⟨rfl, hr.units, passes_of rfl, L2N.takes_of rfl rfl rfl rfl, ⟨NS.tree, NS.seer, ⟨_, _, rfl, S.gen, S.co, rfl, rfl⟩, by
    show (A.deeper (envOfC qual (defScope st) s.heap.objs.size f cdv)).depth + Builtin.pylongFrames < recursionLimit
    have := hr.dp; have e : Builtin.pylongFrames = 100 := rfl; have := NS.k; omega⟩⟩ ⟨rfl, rfl, S.nd, S.kind, fun _ _ => rfl⟩ ⟨rfl, rfl⟩
  exact ⟨t, pt, ht s0 p q r Hf H S0 ns d S' Q x hs ow hRR hQ⟩
end
section
variable {K : PySem.W.Frag} {mg : MG} {Hf H Hf' H' : Hp} {p q r s : Addr} {σ : L2.St} {L : Mx}
/-! ### rows, as they lie -/
theorem own_rows (w : OwO K mg Hf H p (rw3 L)) : ∃ as : List Addr, Hf p = none ∧ H p = some (.lst (as.map V.ref)) ∧ p ∉ as ∧ as.Nodup ∧ as.length = L.length ∧
    ∀ (i : Nat) (a : Addr) (l : List Int), as[i]? = some a → L[i]? = some l → Hf a = none ∧ H a = some (.lst (l.map V.int)) := by
  obtain ⟨o, h1, h2, as, rfl, np, nd, h3, h4⟩ := w.ex
  refine ⟨as, h1, h2, np, nd, by rw [h3]; unfold mxD; rw [List.length_map], fun i a l ha hl => ?_⟩
  obtain ⟨n, vs, k1, k2⟩ := h4 i a (l.map D.int) ha (by unfold mxD; rw [List.getElem?_map, hl]; rfl)
  rw [k2.ints] at k1
  exact ⟨n, k1⟩
theorem rows_own {as : List Addr} (h1 : Hf p = none) (h2 : H p = some (.lst (as.map V.ref))) (np : p ∉ as) (nd : as.Nodup) (hl : as.length = L.length)
    (h : ∀ (i : Nat) (a : Addr) (l : List Int), as[i]? = some a → L[i]? = some l → Hf a = none ∧ H a = some (.lst (l.map V.int))) : OwO K mg Hf H p (rw3 L) := by
  refine ⟨_, h1, h2, as, rfl, np, nd, by rw [hl]; unfold mxD; rw [List.length_map], fun i a l ha hl => ?_⟩
  unfold mxD at hl
  rw [List.getElem?_map] at hl
  cases q : L[i]? with
  | none => rw [q] at hl; cases hl
  | some l0 =>
    rw [q] at hl; cases hl
    obtain ⟨k1, k2⟩ := h i a l0 ha q
    exact ⟨k1, _, k2, rps_ofInts l0⟩
where rps_ofInts {K : PySem.W.Frag} {mg : MG} {H : Hp} : ∀ ns : List Int, Rps K mg H (ns.map V.int) (ns.map D.int)
  | [] => .nil
  | n :: r => .cons (.int n) (rps_ofInts r)
/-- one number of the rows -/
def rdM (L : Mx) (i k : Nat) : Option Int := (L[i]?).bind fun r => r[k]?
theorem rd_ok {n : Int} {i k : Nat} (w : OwO K mg Hf H p (rw3 L)) (h : rdM L i k = some n) : ∃ (as : List Addr) (a : Addr) (l : List Int), SqL K H p (as.map V.ref) ∧ atI (as.map V.ref) (i : Int) = some (.ref a) ∧ SqL K H a (l.map V.int) ∧ atI (l.map V.int) (k : Int) = some (.int n) := by
  obtain ⟨as, h1, h2, np, nd, hl, h3⟩ := own_rows w
  unfold rdM at h
  cases q : L[i]? with
  | none => rw [q] at h; cases h
  | some l =>
    rw [q] at h
    have h : l[k]? = some n := h
    have hi : i < as.length := by rw [hl]; exact (List.getElem?_eq_some_iff.mp q).1
    obtain ⟨k1, k2⟩ := h3 i as[i] l (List.getElem?_eq_getElem hi) q
    refine ⟨as, as[i], l, .inl (.inl h2), atI_nat (by rw [List.getElem?_map, List.getElem?_eq_getElem hi]; rfl), .inl (.inl k2), atI_nat (by rw [List.getElem?_map, h]; rfl)⟩
theorem vc_rd {n : Int} {i k a b c : Nat} {Q : VK} (w : OwO K mg Hf H p (rw3 L)) (h1 : σ[a]? = some (some (.ref p))) (h2 : σ[b]? = some (some (.int i))) (h3 : σ[c]? = some (some (.int k))) (h : rdM L i k = some n) (q : Q (.int n) H) :
    tOp (L2.rIx K) (tOp (L2.rIx K) (tVar a) (tVar b)) (tVar c) σ H Q := by
  obtain ⟨as, x, l, k1, k2, k3, k4⟩ := rd_ok w h
  exact ⟨_, h1, _, h2, .inl ⟨p, _, _, _, rfl, rfl, k1, k2, _, h3, .inl ⟨x, _, _, _, rfl, rfl, k3, k4, q⟩⟩⟩
/-! ### take_all -/
theorem tri_take_z (S : Tri) (i j : Nat) : S.take i j 0 = S := if_pos rfl
theorem vc_take_all {F : OD → List D → RsM} {E : L2.St → XK} (hF : ∀ (L : Mx) (i j : Nat) (q : Int), okRow L i j q → F (rw3 L) [.int i, .int j, .int q] = .ok .non (rw3 (tkRow L i j q))) {Hf H : Hp} {s p q r : Addr} {S S' : Tri} {ns : List Int} {d : D} {Q : VK}
    (x : Ex Hf H) (hs : SqT K Hf s [.ref p, .ref q, .ref r]) (ow : OwT K mg Hf H p q r S) (hR : rTake S ns d S') (hQ : ∀ v Hf' H', ChT Hf H Hf' H' p q r S S' → OwT K mg Hf' H' p q r S' → Rp K mg Hf' v d → Q v H') :
    tSeq (tAsg (tVar 0) (gTup K 3 (gCons (gName 4) (gCons (gName 5) (gCons (gName 6) gNil)))))
      (tIfS (tTest (tOp rNe (tVar 3) (tC (.int 0))))
        (tSeq (tDrop (tCallS (spM K mg 4 F) E (tCons (tVar 4) (tCons (tVar 1) (tCons (tVar 2) (tCons (tVar 3) tNil))))))
          (tSeq (tDrop (tCallS (spM K mg 4 F) E (tCons (tVar 5) (tCons (tVar 1) (tCons (tVar 2) (tCons (tVar 3) tNil))))))
            (tDrop (tCallS (spM K mg 4 F) E (tCons (tVar 6) (tCons (tVar 2) (tCons (tVar 1) (tCons (tUn (rU fun i => .int (-i)) (tVar 3)) tNil))))))))
        tNext) { nx := fun _ H' => Q .non H', rt := Q } (L2.start ["state", "i", "j", "many", "form", "record", "columns"] (.ref s :: ns.map V.int)) H := by
  obtain ⟨i, j, m, rfl, hok, rfl, rfl⟩ := hR
  refine ⟨_, rfl, s, _, rfl, ex_t x hs, rfl, _, _, rfl, _, _, rfl, _, _, rfl, rfl, ?_⟩
  refine ⟨_, rfl, ⟨rfl, _, rfl, ?_⟩⟩
  by_cases hm : m = 0
  · subst hm
    rw [show (!decide (V.int 0 = V.int 0)) = false from rfl]
    rw [if_neg Bool.false_ne_true]
    rw [tri_take_z] at hQ
    exact hQ _ Hf H (Chg3.refl x) ow .non
  · rw [show (!decide (V.int m = V.int 0)) = true from by rw [decide_eq_false (fun e => hm (V.int.inj e))]; rfl]
    refine iteT ?_
    obtain ⟨k1, k2, k3⟩ := hok hm
    have e : S.take i j m = S.tk i j m := if_neg hm
    rw [e] at hQ
    refine ⟨_, rfl, _, rfl, _, rfl, _, rfl, p, _, Hf, rw3 S.F, [.int i, .int j, .int m], rfl, rfl, x, ow.o1, .cons (.int _) (.cons (.int _) (.cons (.int _) .nil)), ?_⟩
    rw [hF _ _ _ _ k1]
    intro v1 Hf1 H1 c1 w1 _
    obtain ⟨o1, b1⟩ := ow.c1 c1 w1
    refine ⟨_, rfl, _, rfl, _, rfl, _, rfl, q, _, Hf1, rw3 S.R, [.int i, .int j, .int m], rfl, rfl, c1.h, o1.o2, .cons (.int _) (.cons (.int _) (.cons (.int _) .nil)), ?_⟩
    rw [hF _ _ _ _ k2]
    intro v2 Hf2 H2 c2 w2 _
    obtain ⟨o2, b2⟩ := o1.c2 c2 w2
    refine ⟨_, rfl, _, rfl, _, rfl, _, rfl, _, rfl, r, _, Hf2, rw3 S.C, [.int j, .int i, .int (-m)], rfl, rfl, c2.h, o2.o3, .cons (.int _) (.cons (.int _) (.cons (.int _) .nil)), ?_⟩
    rw [hF _ _ _ _ k3]
    intro v3 Hf3 H3 c3 w3 _
    obtain ⟨o3, b3⟩ := o2.c3 c3 w3
    exact hQ _ Hf3 H3 ((b1.trans b2).trans b3) o3 .non
end
end DL

/-! DSb: loops over the tuple of three; rows exchanged, signs turned. -/
namespace DL
open PySem PySem.Spec PyProof.Rows L2 Evl
theorem ixN_nat {n i : Nat} (h : i < n) : ixN n (i : Int) = some i := by
  unfold ixN
  rw [if_pos (by omega), if_pos (by omega)]
  simp
section
variable {K : PySem.W.Frag} {mg : MG}
/-- the first i of the three are done -/
def stg (S T : Tri) : Nat → Tri
  | 0 => S
  | 1 => ⟨T.F, S.R, S.C⟩
  | 2 => ⟨T.F, T.R, S.C⟩
  | _ => T
theorem vc_each {Hf H : Hp} {s p q r : Addr} {S : Tri} {I : L2.St → Prop} {n : Nat} {V : Mx → Prop} {f : Mx → Mx} {tb : TS} {De : Ends} {σ : L2.St}
    (hb : ∀ (σ : L2.St) (Hf1 H1 : Hp) (p : Addr) (L : Mx) (D : Ends), I σ → Ex Hf1 H1 → OwO K mg Hf1 H1 p (rw3 L) → V L →
      (∀ σ' Hf' H', I σ' → ChgO Hf1 H1 Hf' H' p (rw3 L) (rw3 (f L)) → OwO K mg Hf' H' p (rw3 (f L)) → D.nx σ' H') → tb D (σ.set n (some (.ref p))) H1)
    (x : Ex Hf H) (h0 : σ[0]? = some (some (.ref s))) (i0 : I σ) (hs : SqT K Hf s [.ref p, .ref q, .ref r]) (ow : OwT K mg Hf H p q r S) (v1 : V S.F) (v2 : V S.R) (v3 : V S.C)
    (post : ∀ σ' Hf' H', I σ' → ChT Hf H Hf' H' p q r S ⟨f S.F, f S.R, f S.C⟩ → OwT K mg Hf' H' p q r ⟨f S.F, f S.R, f S.C⟩ → De.nx σ' H') :
    tFor (iTup K (tVar 0)) (gName n) tb De σ H := by
  refine ⟨_, h0, s, rfl, ⟨_, ex_t x hs⟩, ?_⟩
  refine ⟨fun i m σ' H' => i + m = 3 ∧ I σ' ∧ ∃ Hf', ChT Hf H Hf' H' p q r S (stg S ⟨f S.F, f S.R, f S.C⟩ i) ∧ OwT K mg Hf' H' p q r (stg S ⟨f S.F, f S.R, f S.C⟩ i), ⟨3, rfl, i0, Hf, Chg3.refl x, ow⟩, ?_⟩
  rintro i m σ1 H1 ⟨hm, i1, Hf1, c1, o1⟩
  have hs1 : SqT K H1 s [.ref p, .ref q, .ref r] := ex_t c1.h (ex_t c1.f hs)
  match i, m, hm with
  | 0, m, hm =>
    refine .inr ⟨⟨_, _, hs1, rfl⟩, fun σ' H' => ∃ m', m' < m ∧ (1 + m' = 3 ∧ I σ' ∧ ∃ Hf', ChT Hf H Hf' H' p q r S (stg S ⟨f S.F, f S.R, f S.C⟩ 1) ∧ OwT K mg Hf' H' p q r (stg S ⟨f S.F, f S.R, f S.C⟩ 1)), fun σ' H' z => z, ?_⟩
    rintro v H' ⟨rfl, hv⟩
    have hv := hv _ hs1
    cases hv
    refine hb σ1 Hf1 H' p S.F _ i1 c1.h o1.o1 v1 fun σ' Hf2 H2 i2 c2 w2 => ⟨2, by omega, rfl, i2, Hf2, ?_⟩
    obtain ⟨a, b⟩ := o1.c1 c2 w2
    exact ⟨c1.trans b, a⟩
  | 1, m, hm =>
    refine .inr ⟨⟨_, _, hs1, rfl⟩, fun σ' H' => ∃ m', m' < m ∧ (1 + 1 + m' = 3 ∧ I σ' ∧ ∃ Hf', ChT Hf H Hf' H' p q r S (stg S ⟨f S.F, f S.R, f S.C⟩ 2) ∧ OwT K mg Hf' H' p q r (stg S ⟨f S.F, f S.R, f S.C⟩ 2)), fun σ' H' z => z, ?_⟩
    rintro v H' ⟨rfl, hv⟩
    have hv := hv _ hs1
    cases hv
    refine hb σ1 Hf1 H' q S.R _ i1 c1.h o1.o2 v2 fun σ' Hf2 H2 i2 c2 w2 => ⟨1, by omega, rfl, i2, Hf2, ?_⟩
    obtain ⟨a, b⟩ := o1.c2 c2 w2
    exact ⟨c1.trans b, a⟩
  | 2, m, hm =>
    refine .inr ⟨⟨_, _, hs1, rfl⟩, fun σ' H' => ∃ m', m' < m ∧ (2 + 1 + m' = 3 ∧ I σ' ∧ ∃ Hf', ChT Hf H Hf' H' p q r S (stg S ⟨f S.F, f S.R, f S.C⟩ 3) ∧ OwT K mg Hf' H' p q r (stg S ⟨f S.F, f S.R, f S.C⟩ 3)), fun σ' H' z => z, ?_⟩
    rintro v H' ⟨rfl, hv⟩
    have hv := hv _ hs1
    cases hv
    refine hb σ1 Hf1 H' r S.C _ i1 c1.h o1.o3 v3 fun σ' Hf2 H2 i2 c2 w2 => ⟨0, by omega, rfl, i2, Hf2, ?_⟩
    obtain ⟨a, b⟩ := o1.c3 c2 w2
    exact ⟨c1.trans b, a⟩
  | 3, m, hm => exact .inl ⟨⟨_, hs1, Nat.le_refl _⟩, post σ1 Hf1 H1 i1 c1 o1⟩
  | i + 4, m, hm => omega
/-! ### exchange_rows -/
theorem sw_get {α : Type} {l : List α} {i j k : Nat} (hi : i < l.length) (hj : j < l.length) : ((l.set i l[j]).set j l[i])[k]? = if k = j then some l[i] else if k = i then some l[j] else l[k]? := by
  by_cases h1 : k = j
  · subst h1; rw [if_pos rfl, List.getElem?_set_self (by simpa using hj)]
  · rw [if_neg h1, List.getElem?_set_ne (fun z => h1 z.symm)]
    by_cases h2 : k = i
    · subst h2; rw [if_pos rfl, List.getElem?_set_self hi]
    · rw [if_neg h2, List.getElem?_set_ne (fun z => h2 z.symm)]
theorem sw_nodup {l : List Addr} (nd : l.Nodup) {i j : Nat} (hi : i < l.length) (hj : j < l.length) : ((l.set i l[j]).set j l[i]).Nodup := by
  rw [List.nodup_iff_pairwise_ne, List.pairwise_iff_getElem]
  intro a b ha hb hab e
  rw [List.length_set, List.length_set] at ha hb
  have ea := List.getElem?_eq_getElem (l := (l.set i l[j]).set j l[i]) (by rw [List.length_set, List.length_set]; exact ha)
  have eb := List.getElem?_eq_getElem (l := (l.set i l[j]).set j l[i]) (by rw [List.length_set, List.length_set]; exact hb)
  rw [sw_get hi hj] at ea eb
  rw [← e] at eb
  have inj : ∀ {x y : Nat} (hx : x < l.length) (hy : y < l.length), l[x] = l[y] → x = y := fun hx hy z => (List.getElem_inj nd).mp z
  rw [List.getElem?_eq_getElem ha] at ea
  rw [List.getElem?_eq_getElem hb] at eb
  have w := ea.trans eb.symm
  split at w
  · split at w
    · omega
    · split at w
      · have := inj _ _ (Option.some.inj w); omega
      · have := inj _ _ (Option.some.inj w); omega
  · split at w
    · split at w
      · have := inj _ _ (Option.some.inj w); omega
      · split at w
        · omega
        · have := inj _ _ (Option.some.inj w); omega
    · split at w
      · have := inj _ _ (Option.some.inj w); omega
      · split at w
        · have := inj _ _ (Option.some.inj w); omega
        · have := inj _ _ (Option.some.inj w); omega
theorem exRow_eq {L : Mx} {i j : Nat} (hi : i < L.length) (hj : j < L.length) : exRow L i j = (L.set i L[j]).set j L[i] := by
  unfold exRow
  rw [List.getD_eq_getElem?_getD, List.getD_eq_getElem?_getD, List.getElem?_eq_getElem hi, List.getElem?_eq_getElem hj]; rfl
theorem vc_ex1 {Hf H : Hp} {p : Addr} {L : Mx} {i j : Nat} {σ : L2.St} {D : Ends} (w : OwO K mg Hf H p (rw3 L)) (x : Ex Hf H) (hi : i < L.length) (hj : j < L.length) (hl : σ.length = 5)
    (h3 : σ[3]? = some (some (.ref p))) (h1 : σ[1]? = some (some (.int i))) (h2 : σ[2]? = some (some (.int j)))
    (k : ∀ v H', ChgO Hf H Hf H' p (rw3 L) (rw3 (exRow L i j)) → OwO K mg Hf H' p (rw3 (exRow L i j)) → D.nx (σ.set 4 (some v)) H') :
    tSeq (tAsg (tOp (L2.rIx K) (tVar 3) (tVar 1)) (gName 4)) (tSeq (tAsg (tOp (L2.rIx K) (tVar 3) (tVar 2)) (gSub (tVar 3) (tVar 1) rSetL)) (tAsg (tVar 4) (gSub (tVar 3) (tVar 2) rSetL))) D σ H := by
  obtain ⟨as, n1, n2, np, nd, nl, n3⟩ := own_rows w
  have hia : i < as.length := by omega
  have hja : j < as.length := by omega
  have gi : (as.map V.ref)[i]? = some (.ref as[i]) := by rw [List.getElem?_map, List.getElem?_eq_getElem hia]; rfl
  have gj : (as.map V.ref)[j]? = some (.ref as[j]) := by rw [List.getElem?_map, List.getElem?_eq_getElem hja]; rfl
  refine ⟨_, h3, _, h1, .inl ⟨p, _, _, _, rfl, rfl, .inl (.inl n2), atI_nat gi, ?_⟩⟩
  have g : ∀ m, m ≠ 4 → (σ.set 4 (some (V.ref as[i])))[m]? = σ[m]? := fun m hm => List.getElem?_set_ne (fun z => hm z.symm)
  refine ⟨_, (g 3 (by decide)).trans h3, _, (g 2 (by decide)).trans h2, .inl ⟨p, _, _, _, rfl, rfl, .inl (.inl n2), atI_nat gj, ?_⟩⟩
  refine ⟨_, (g 3 (by decide)).trans h3, _, (g 1 (by decide)).trans h1, p, _, _, i, rfl, rfl, n2, ixN_nat (by rw [List.length_map]; exact hia), ?_⟩
  refine ⟨_, List.getElem?_set_self (by rw [hl]; decide), _, (g 3 (by decide)).trans h3, _, (g 2 (by decide)).trans h2, p, _, _, j, rfl, rfl, upd_same, ixN_nat (by rw [List.length_set, List.length_map]; exact hja), ?_⟩
  have e1 : ((as.map V.ref).set i (.ref as[j])).set j (.ref as[i]) = ((as.set i as[j]).set j as[i]).map V.ref := by rw [List.map_set, List.map_set]
  rw [upd_upd, e1]
  have np' : p ∉ (as.set i as[j]).set j as[i] := fun z => by
    rcases List.mem_or_eq_of_mem_set z with z | z
    · rcases List.mem_or_eq_of_mem_set z with z | z
      · exact np z
      · exact np (by rw [z]; exact List.getElem_mem _)
    · exact np (by rw [z]; exact List.getElem_mem _)
  have mem : ∀ a, a ∈ (as.set i as[j]).set j as[i] → a ∈ as := fun a z => by
    rcases List.mem_or_eq_of_mem_set z with z | z
    · rcases List.mem_or_eq_of_mem_set z with z | z
      · exact z
      · rw [z]; exact List.getElem_mem _
    · rw [z]; exact List.getElem_mem _
  have hp' : upd H p (.lst (((as.set i as[j]).set j as[i]).map V.ref)) p = some (.lst (((as.set i as[j]).set j as[i]).map V.ref)) := upd_same
  refine k _ _ ⟨Ex.refl _, fun a u h => ?_, fun a o h n f => ?_⟩ (rows_own n1 hp' np' (sw_nodup nd hia hja) ?_ fun m a l ha hl' => ?_)
  · rw [upd_ne (fun z => by rw [z, n1] at h; cases h)]; exact x a u h
  · have hne : a ≠ p := fun z => f (.inl z)
    refine ⟨by rw [upd_ne hne]; exact h, n, fun z => ?_⟩
    rcases (ft_rows hp').mp z with z | z
    · exact hne z
    · exact f ((ft_rows n2).mpr (.inr (mem a z)))
  · rw [exRow_eq hi hj]; simp [nl]
  · rw [exRow_eq hi hj, sw_get hi hj] at hl'
    have hm := mem a (List.mem_of_getElem? ha)
    rw [sw_get hia hja] at ha
    rw [upd_ne (fun z => np (by rw [← z]; exact hm))]
    by_cases m1 : m = j
    · rw [if_pos m1] at ha hl'; cases ha; cases hl'
      exact n3 i _ _ (List.getElem?_eq_getElem hia) (List.getElem?_eq_getElem hi)
    · rw [if_neg m1] at ha hl'
      by_cases m2 : m = i
      · rw [if_pos m2] at ha hl'; cases ha; cases hl'
        exact n3 j _ _ (List.getElem?_eq_getElem hja) (List.getElem?_eq_getElem hj)
      · rw [if_neg m2] at ha hl'
        exact n3 m a l ha hl'
theorem vc_exchange {Hf H : Hp} {s p q r : Addr} {S S' : Tri} {ns : List Int} {d : D} {Q : VK}
    (x : Ex Hf H) (hs : SqT K Hf s [.ref p, .ref q, .ref r]) (ow : OwT K mg Hf H p q r S) (hR : rExch S ns d S') (hQ : ∀ v Hf' H', ChT Hf H Hf' H' p q r S S' → OwT K mg Hf' H' p q r S' → Rp K mg Hf' v d → Q v H') :
    tFor (iTup K (tVar 0)) (gName 3) (tSeq (tAsg (tOp (L2.rIx K) (tVar 3) (tVar 1)) (gName 4)) (tSeq (tAsg (tOp (L2.rIx K) (tVar 3) (tVar 2)) (gSub (tVar 3) (tVar 1) rSetL)) (tAsg (tVar 4) (gSub (tVar 3) (tVar 2) rSetL))))
      { nx := fun _ H' => Q .non H', rt := Q } (L2.start ["state", "i", "j", "some", "kept"] (.ref s :: ns.map V.int)) H := by
  obtain ⟨i, j, rfl, hi, hj, rfl, rfl⟩ := hR
  refine vc_each (I := fun σ => σ.length = 5 ∧ σ[1]? = some (some (.int i)) ∧ σ[2]? = some (some (.int j))) (V := fun L => i < L.length ∧ j < L.length) (f := fun L => exRow L i j) (fun σ Hf1 H1 p L D i1 x1 w1 v1 k => ?_)
    x rfl ⟨rfl, rfl, rfl⟩ hs ow ⟨hi.1, hj.1⟩ ⟨hi.2.1, hj.2.1⟩ ⟨hi.2.2, hj.2.2⟩ fun σ' Hf' H' _ c o => hQ _ Hf' H' c o .non
  have g : ∀ m, m ≠ 3 → (σ.set 3 (some (V.ref p)))[m]? = σ[m]? := fun m hm => List.getElem?_set_ne (fun z => hm z.symm)
  refine vc_ex1 w1 x1 v1.1 v1.2 (by rw [List.length_set]; exact i1.1) (List.getElem?_set_self (by rw [i1.1]; decide)) ((g 1 (by decide)).trans i1.2.1) ((g 2 (by decide)).trans i1.2.2) fun v H' c o => k _ Hf1 H' ⟨?_, ?_, ?_⟩ c o
  · rw [List.length_set, List.length_set]; exact i1.1
  · rw [List.getElem?_set_ne (by decide)]; exact (g 1 (by decide)).trans i1.2.1
  · rw [List.getElem?_set_ne (by decide)]; exact (g 2 (by decide)).trans i1.2.2
/-! ### turn_signs -/
theorem vc_turn {X : Cx} {W : WX} {tb : TS} {g : M Fl}
    (htb : ∀ (ps : Fg) (σ : L2.St) (Hf H : Hp) (env : DEnv), SR X.K X.mg ps Hf H σ env → ∀ De : Ends, SG X.K X.mg ps W De Hf (g env) → tb De σ H)
    (hg : ∀ (L : Mx) (i : Nat), i < L.length → (L.getD i []).length ≤ sizeLine → g [.no, .val (.int i), .own (some 0) (rw3 L), .no] = .ok .nx [.no, .val (.int i), .own (some 0) (rw3 (ngRow L i)), .no])
    {Hf H : Hp} {s p q r : Addr} {S S' : Tri} {ns : List Int} {d : D} {Q : VK}
    (x : Ex Hf H) (hs : SqT X.K Hf s [.ref p, .ref q, .ref r]) (ow : OwT X.K X.mg Hf H p q r S) (hR : rTurn S ns d S') (hQ : ∀ v Hf' H', ChT Hf H Hf' H' p q r S S' → OwT X.K X.mg Hf' H' p q r S' → Rp X.K X.mg Hf' v d → Q v H') :
    tFor (iTup X.K (tVar 0)) (gName 2) tb { nx := fun _ H' => Q .non H', rt := Q } (L2.start ["state", "i", "some", "number"] (.ref s :: ns.map V.int)) H := by
  obtain ⟨i, rfl, hi, hz, rfl, rfl⟩ := hR
  refine vc_each (I := fun σ => σ.length = 4 ∧ σ[1]? = some (some (.int i))) (V := fun L => i < L.length ∧ (L.getD i []).length ≤ sizeLine) (f := fun L => ngRow L i) (fun σ Hf1 H1 p L D i1 x1 w1 v1 k => ?_)
    x rfl ⟨rfl, rfl⟩ hs ow ⟨hi.1, hz.1⟩ ⟨hi.2.1, hz.2.1⟩ ⟨hi.2.2, hz.2.2⟩ fun σ' Hf' H' _ c o => hQ _ Hf' H' c o .non
  have gg : ∀ m, m ≠ 2 → (σ.set 2 (some (V.ref p)))[m]? = σ[m]? := fun m hm => List.getElem?_set_ne (fun z => hm z.symm)
  have S1 : SR X.K X.mg ⟨[p], gM Hf1 H1 p (rw3 L)⟩ Hf1 H1 (σ.set 2 (some (.ref p))) [.no, .val (.int i), .own (some 0) (rw3 L), .no] := by
    refine sr_one (n := 2) x1 w1 (by rw [List.length_set]; exact i1.1) rfl (List.getElem?_set_self (by rw [i1.1]; decide)) fun m t hm ht => ?_
    match m, hm, ht with
    | 0, _, ht => cases ht; exact .inl rfl
    | 1, _, ht => cases ht; exact .inr ⟨_, _, rfl, (gg 1 (by decide)).trans i1.2, .int _⟩
    | 2, hm, _ => exact absurd rfl hm
    | 3, _, ht => cases ht; exact .inl rfl
    | m + 4, _, ht => cases ht
  refine htb _ _ Hf1 H1 _ S1 D ?_
  rw [hg L i v1.1 v1.2]
  intro σ' Hf' H' y S2
  obtain ⟨c, o, _⟩ := sr_one_end (n := 2) y S2 rfl
  obtain ⟨v, e1, e2⟩ := S2.val (i := 1) rfl
  rw [e2.int_inv] at e1
  exact k σ' Hf' H' ⟨S2.len, e1⟩ c o
end
end DL

/-! DSc: bring_lead, walked by hand. -/
namespace DL
open PySem PySem.Spec PyProof.Rows L2 Evl
/-! ### what it does -/
def rdD (L : Mx) (i k : Nat) : Int := (rdM L i k).getD 0
def lstep (F : Mx) (k : Nat) (acc : Option Nat) (i : Nat) : Option Nat :=
  if rdD F i k ≠ 0 ∧ (∀ j, acc = some j → (rdD F i k).natAbs < (rdD F j k).natAbs) then some i else acc
def leastAt (F : Mx) (top k : Nat) : Option Nat := (List.range' top (F.length - top)).foldl (lstep F k) none
def OkL (F : Mx) (top k : Nat) : Prop := top < 2 ^ 62 ∧ F.length < 2 ^ 62 ∧ (∀ i, i < F.length → (rdM F i k).isSome = true)
def atD : Option Nat → D
  | none => .non
  | some i => .int i
def atV : Option Nat → V
  | none => .non
  | some i => .int i
def qAt (top k : Nat) (S : Tri) (i : Nat) : Int := (rdD S.F i k).fdiv (rdD S.F top k)
def tk1 (top k : Nat) (S : Tri) (i : Nat) : Tri := S.take i top (qAt top k S i)
def okT1 (top k : Nat) (S : Tri) (i : Nat) : Prop := (rdM S.F i k).isSome = true ∧ (rdM S.F top k).isSome = true ∧ rdD S.F top k ≠ 0 ∧ (qAt top k S i ≠ 0 → S.ok i top (qAt top k S i)) ∧ (rdM (tk1 top k S i).F i k).isSome = true
def passS (top k : Nat) : List Nat → Tri → Tri
  | [], S => S
  | i :: r, S => passS top k r (tk1 top k S i)
def passOk (top k : Nat) : List Nat → Tri → Prop
  | [], _ => True
  | i :: r, S => okT1 top k S i ∧ passOk top k r (tk1 top k S i)
def passB (top k : Nat) : List Nat → Tri → Bool → Bool
  | [], _, b => b
  | i :: r, S, b => passB top k r (tk1 top k S i) (b || decide (rdD (tk1 top k S i).F i k ≠ 0))
def exOk (S : Tri) (i j : Nat) : Prop := (i < S.F.length ∧ i < S.R.length ∧ i < S.C.length) ∧ (j < S.F.length ∧ j < S.R.length ∧ j < S.C.length)
/-- the rows below top -/
def below (top : Nat) (S : Tri) : List Nat := List.range' (top + 1) (S.F.length - (top + 1))
def Wh (top k : Nat) : Nat → Tri → Option Nat → Bool → Tri → Prop
  | _, S, _, false, T => T = S
  | 0, _, _, true, _ => False
  | _ + 1, _, none, true, _ => False
  | m + 1, S, some i, true, T => exOk S top i ∧ (top : Int) + 1 < 2 ^ 62 ∧ (S.F.length : Int) < 2 ^ 62 ∧ passOk top k (below top (S.ex top i)) (S.ex top i) ∧ (passS top k (below top (S.ex top i)) (S.ex top i)).F.length = S.F.length ∧
      OkL (passS top k (below top (S.ex top i)) (S.ex top i)).F top k ∧
      Wh top k m (passS top k (below top (S.ex top i)) (S.ex top i)) (leastAt (passS top k (below top (S.ex top i)) (S.ex top i)).F top k) (passB top k (below top (S.ex top i)) (S.ex top i) false) T
def sgnT (top k : Nat) (T : Tri) : Tri := if rdD T.F top k < 0 then T.ng top else T
def ngOk (top : Nat) (S : Tri) : Prop := (top < S.F.length ∧ top < S.R.length ∧ top < S.C.length) ∧ ((S.F.getD top []).length ≤ sizeLine ∧ (S.R.getD top []).length ≤ sizeLine ∧ (S.C.getD top []).length ≤ sizeLine)
def rBring (S : Tri) (ns : List Int) (d : D) (S' : Tri) : Prop := ∃ (top k : Nat), ns = [(top : Int), (k : Int)] ∧ OkL S.F top k ∧
  ((leastAt S.F top k = none ∧ d = .bl false ∧ S' = S) ∨ ∃ (i m : Nat) (T : Tri), leastAt S.F top k = some i ∧ d = .bl true ∧ Wh top k m S (some i) true T ∧ (rdM T.F top k).isSome = true ∧ (rdD T.F top k < 0 → ngOk top T) ∧
    passOk top k (List.range top) (sgnT top k T) ∧ S' = passS top k (List.range top) (sgnT top k T))
theorem rd_some {L : Mx} {i k : Nat} (h : (rdM L i k).isSome = true) : rdM L i k = some (rdD L i k) := by
  unfold rdD
  cases q : rdM L i k with
  | none => rw [q] at h; cases h
  | some n => rfl
section
variable {K : PySem.W.Frag} {mg : MG} {Hf H Hf' H' : Hp} {p q r : Addr} {d e f : OD}
theorem OwO.ext (w : OwO K mg Hf H p d) (x : Ex H H') : OwO K mg Hf H' p d ∧ ∀ a, Ft H' d p a → Ft H d p a := by
  have k : ∀ a, Ft H d p a → Hf a = none ∧ H' a = H a := fun a f => by
    obtain ⟨n, u, hu⟩ := w.live f
    exact ⟨n, (x a u hu).trans hu.symm⟩
  exact ⟨w.keep (Ex.refl _) k, fun a f => f.of_eq (k p .self).2⟩
theorem Own3.ext (w : Own3 K mg Hf H p q r d e f) (y : Ex Hf H) (x : Ex H H') : Own3 K mg Hf H' p q r d e f ∧ Chg3 Hf H Hf H' p q r d e f d e f := by
  obtain ⟨w1, f1⟩ := w.o1.ext x
  obtain ⟨w2, f2⟩ := w.o2.ext x
  obtain ⟨w3, f3⟩ := w.o3.ext x
  exact ⟨⟨w1, w2, w3, fun a h1 h2 => w.a12 a (f1 a h1) (f2 a h2), fun a h1 h2 => w.a13 a (f1 a h1) (f3 a h2), fun a h1 h2 => w.a23 a (f2 a h1) (f3 a h2)⟩,
    Ex.refl _, y.trans x, fun a o h n h1 h2 h3 => ⟨x a o h, n, fun z => h1 (f1 a z), fun z => h2 (f2 a z), fun z => h3 (f3 a z)⟩⟩
end
section
variable {K : PySem.W.Frag} {mg : MG}
/-- the rows lent, as frozen data -/
theorem lend_rows {Hf H : Hp} {p : Addr} {L : Mx} (w : OwO K mg Hf H p (rw3 L)) : ∃ Hl : Hp, Ex Hl H ∧ Rp K mg Hl (.ref p) (.lst ((mxD L).map D.lst)) := by
  obtain ⟨as, n1, n2, np, nd, nl, n3⟩ := own_rows w
  refine ⟨fun a => if a = p ∨ a ∈ as then H a else none, fun a o h => ?_, ?_⟩
  · dsimp only at h
    split at h
    · exact h
    · cases h
  · have key : ∀ (bs : List Addr) (M : Mx), bs.length = M.length → (∀ (i : Nat) (a : Addr) (l : List Int), bs[i]? = some a → M[i]? = some l → a ∈ as ∧ H a = some (.lst (l.map V.int))) → Rps K mg (fun a => if a = p ∨ a ∈ as then H a else none) (bs.map V.ref) ((mxD M).map D.lst) := by
      intro bs
      induction bs with
      | nil => intro M hl _; cases M with
        | nil => exact .nil
        | cons _ _ => cases hl
      | cons b bs ih => intro M hl h; cases M with
        | nil => cases hl
        | cons m M =>
          obtain ⟨h1, h2⟩ := h 0 b m rfl rfl
          refine .cons (.lst (.inl (.inl ?_)) (rows_own.rps_ofInts m)) (ih M (by simpa using hl) fun i a l q1 q2 => h (i + 1) a l (by simpa using q1) (by simpa using q2))
          exact (if_pos (Or.inr h1)).trans h2
    refine .lst (.inl (.inl ?_)) (key as L nl fun i a l h1 h2 => ⟨List.mem_of_getElem? h1, (n3 i a l h1 h2).2⟩)
    exact (if_pos (Or.inl rfl)).trans n2
theorem vc_least {FL : List D → Rs} {E : L2.St → XK} {Hf H : Hp} {p : Addr} {L : Mx} {top k : Nat} {σ : L2.St} {Q : VK} (hL : ∀ (F : Mx) (top k : Nat), OkL F top k → FL [.lst ((mxD F).map D.lst), .int top, .int k] = .ok (atD (leastAt F top k)))
    (w : OwO K mg Hf H p (rw3 L)) (ok : OkL L top k) (h3 : σ[3]? = some (some (.ref p))) (h1 : σ[1]? = some (some (.int top))) (h2 : σ[2]? = some (some (.int k))) (hQ : ∀ H', Ex H H' → Q (atV (leastAt L top k)) H') :
    tCallS (spP K mg 3 FL) E (tCons (tVar 3) (tCons (tVar 1) (tCons (tVar 2) tNil))) σ H Q := by
  obtain ⟨Hl, x, rl⟩ := lend_rows w
  refine ⟨_, h3, _, h1, _, h2, rfl, Hl, [_, .int top, .int k], x, .cons rl (.cons (.int _) (.cons (.int _) .nil)), ?_⟩
  rw [hL L top k ok]
  intro v Hf' H' y1 y2 fr rv
  have hv : v = atV (leastAt L top k) := by
    cases q : leastAt L top k with
    | none => rw [q] at rv; exact rv.non_inv
    | some i => rw [q] at rv; exact rv.int_inv
  rw [hv]
  refine hQ H' fun a o h => ?_
  cases q : Hl a with
  | none => exact (fr a o h q).1
  | some u =>
    have := x a u q
    rw [h] at this; cases this
    exact y2 a o (y1 a o q)
/-- take_all(state, i, top, form[i][k] // form[top][k]) -/
theorem vc_tk {E : L2.St → XK} {Hf H : Hp} {s p q r : Addr} {S : Tri} {top k i : Nat} {σ : L2.St} {D : Ends} (x : Ex Hf H) (hs : SqT K Hf s [.ref p, .ref q, .ref r]) (ow : OwT K mg Hf H p q r S) (ok : okT1 top k S i)
    (h0 : σ[0]? = some (some (.ref s))) (h1 : σ[1]? = some (some (.int top))) (h2 : σ[2]? = some (some (.int k))) (h3 : σ[3]? = some (some (.ref p))) (h6 : σ[6]? = some (some (.int i)))
    (hQ : ∀ Hf' H', ChT Hf H Hf' H' p q r S (tk1 top k S i) → OwT K mg Hf' H' p q r (tk1 top k S i) → D.nx σ H') :
    tDrop (tCallS (spT K mg rTake) E (tCons (tVar 0) (tCons (tVar 6) (tCons (tVar 1) (tCons (tOp (rI (fun _ j => DivOk j) fun i j => .int (i.fdiv j)) (tOp (L2.rIx K) (tOp (L2.rIx K) (tVar 3) (tVar 6)) (tVar 2)) (tOp (L2.rIx K) (tOp (L2.rIx K) (tVar 3) (tVar 1)) (tVar 2))) tNil))))) D σ H := by
  obtain ⟨k1, k2, k3, k4, _⟩ := ok
  refine ⟨_, h0, _, h6, _, h1, ?_⟩
  refine vc_rd ow.o1 h3 h6 h2 (rd_some k1) ?_
  refine vc_rd ow.o1 h3 h1 h2 (rd_some k2) ⟨_, _, rfl, rfl, k3, ?_⟩
  refine ⟨s, p, q, r, Hf, S, [(i : Int), (top : Int), qAt top k S i], .non, tk1 top k S i, rfl, x, hs, ow, ⟨i, top, _, rfl, k4, rfl, rfl⟩, fun v Hf' H' c o _ => hQ Hf' H' c o⟩
theorem range_drop (a n i : Nat) : List.range' (a + i) (n - i) = (List.range' a n).drop i := by
  rw [List.drop_range']; simp
theorem list_next {l : List Nat} {i : Nat} {a : Nat} (h : l[i]? = some a) : l.drop i = a :: l.drop (i + 1) := by
  obtain ⟨hi, e⟩ := List.getElem?_eq_some_iff.mp h
  rw [List.drop_eq_getElem_cons hi, e]
def σB (s p : Addr) (top k : Nat) (x4 x5 x6 : Option V) : L2.St := [some (.ref s), some (.int top), some (.int k), some (.ref p), x4, x5, x6]
abbrev tDiv (K : PySem.W.Frag) : TE := tOp (rI (fun _ j => DivOk j) fun i j => .int (i.fdiv j)) (tOp (L2.rIx K) (tOp (L2.rIx K) (tVar 3) (tVar 6)) (tVar 2)) (tOp (L2.rIx K) (tOp (L2.rIx K) (tVar 3) (tVar 1)) (tVar 2))
abbrev tTk (K : PySem.W.Frag) (mg : MG) (E : L2.St → XK) : TS := tDrop (tCallS (spT K mg rTake) E (tCons (tVar 0) (tCons (tVar 6) (tCons (tVar 1) (tCons (tDiv K) tNil)))))
/-- one pass over the rows below -/
theorem vc_pass {E : L2.St → XK} {Hf H : Hp} {s p q r : Addr} {S : Tri} {top k : Nat} {x4 x6 : Option V} {De : Ends} {tl : TA} (x : Ex Hf H) (hs : SqT K Hf s [.ref p, .ref q, .ref r]) (ow : OwT K mg Hf H p q r S)
    (htl : ∀ (σ : L2.St) (R : List V → Hp → Prop), σ[1]? = some (some (.int top)) → σ[3]? = some (some (.ref p)) → R [.int ((top : Int) + 1), .int S.F.length] H → tl σ H R)
    (b1 : (top : Int) + 1 < 2 ^ 62) (b2 : (S.F.length : Int) < 2 ^ 62) (ok : passOk top k (below top S) S)
    (hQ : ∀ x6' Hf' H', ChT Hf H Hf' H' p q r S (passS top k (below top S) S) → OwT K mg Hf' H' p q r (passS top k (below top S) S) → De.nx (σB s p top k x4 (some (.bl (passB top k (below top S) S false))) x6') H') :
    tFor (iRng2 tl) (gName 6) (tSeq (tTk K mg E) (tIfS (tTest (tOp rNe (tOp (L2.rIx K) (tOp (L2.rIx K) (tVar 3) (tVar 6)) (tVar 2)) (tC (.int 0)))) (tAsg (tC (.bl true)) (gName 5)) tNext)) De (σB s p top k x4 (some (.bl false)) x6) H := by
  refine htl _ _ rfl rfl ⟨_, _, rfl, ⟨by omega, b1, by omega, b2⟩, ?_⟩
  have hn : ((S.F.length : Int) - ((top : Int) + 1)).toNat = S.F.length - (top + 1) := by omega
  rw [hn]
  refine ⟨fun i m σ' H' => i + m = S.F.length - (top + 1) ∧ ∃ x6' b Hf' S', σ' = σB s p top k x4 (some (.bl b)) x6' ∧ ChT Hf H Hf' H' p q r S S' ∧ OwT K mg Hf' H' p q r S' ∧ passOk top k ((below top S).drop i) S' ∧
      passS top k ((below top S).drop i) S' = passS top k (below top S) S ∧ passB top k ((below top S).drop i) S' b = passB top k (below top S) S false, ⟨S.F.length - (top + 1), by omega, x6, false, Hf, S, rfl, Chg3.refl x, ow, ok, rfl, rfl⟩, ?_⟩
  rintro i m σ1 H1 ⟨hm, x6', b, Hf1, S1, rfl, c1, o1, ok1, e1, e2⟩
  have lb : (below top S).length = S.F.length - (top + 1) := by unfold below; simp
  by_cases hi : i < S.F.length - (top + 1)
  · have hd : (below top S)[i]? = some (top + 1 + i) := by unfold below; rw [List.getElem?_range' hi, Nat.one_mul]
    rw [list_next hd] at ok1 e1 e2
    refine .inr ⟨hi, fun σ' H' => ∃ m', m' < m ∧ (i + 1 + m' = S.F.length - (top + 1) ∧ ∃ x6' b Hf' S', σ' = σB s p top k x4 (some (.bl b)) x6' ∧ ChT Hf H Hf' H' p q r S S' ∧ OwT K mg Hf' H' p q r S' ∧ passOk top k ((below top S).drop (i + 1)) S' ∧
      passS top k ((below top S).drop (i + 1)) S' = passS top k (below top S) S ∧ passB top k ((below top S).drop (i + 1)) S' b = passB top k (below top S) S false), fun σ' H' z => z, ?_⟩
    rintro v H2 ⟨rfl, rfl⟩
    have hv : V.int ((top : Int) + 1 + (i : Int)) = .int ((top + 1 + i : Nat) : Int) := by
      congr 1
    rw [hv]
    refine vc_tk c1.h (c1.f.trans (Ex.refl _) |> fun y => ex_t y hs) o1 ok1.1 rfl rfl rfl rfl rfl fun Hf2 H3 c2 o2 => ?_
    refine vc_rd (i := top + 1 + i) (k := k) o2.o1 rfl rfl rfl (rd_some ok1.1.2.2.2.2) ⟨rfl, _, rfl, ?_⟩
    by_cases hz : rdD (tk1 top k S1 (top + 1 + i)).F (top + 1 + i) k = 0
    · rw [hz]
      rw [show (!decide (V.int 0 = V.int 0)) = false from rfl]
      refine iteF ⟨m - 1, by omega, by omega, _, b, Hf2, _, rfl, c1.trans c2, o2, ok1.2, e1, ?_⟩
      have e2 : passB top k ((below top S).drop (i + 1)) (tk1 top k S1 (top + 1 + i)) (b || decide (rdD (tk1 top k S1 (top + 1 + i)).F (top + 1 + i) k ≠ 0)) = passB top k (below top S) S false := e2
      rw [hz] at e2
      simpa using e2
    · rw [show (!decide (V.int (rdD (tk1 top k S1 (top + 1 + i)).F (top + 1 + i) k) = V.int 0)) = true from by rw [decide_eq_false (fun e => hz (V.int.inj e))]; rfl]
      refine iteT ⟨m - 1, by omega, by omega, _, true, Hf2, _, rfl, c1.trans c2, o2, ok1.2, e1, ?_⟩
      have e2 : passB top k ((below top S).drop (i + 1)) (tk1 top k S1 (top + 1 + i)) (b || decide (rdD (tk1 top k S1 (top + 1 + i)).F (top + 1 + i) k ≠ 0)) = passB top k (below top S) S false := e2
      rw [decide_eq_true hz, Bool.or_true] at e2
      exact e2
  · have hd : (below top S).drop i = [] := List.drop_eq_nil_of_le (by omega)
    rw [hd] at e1 e2
    have e1 : S1 = passS top k (below top S) S := e1
    have e2 : b = passB top k (below top S) S false := e2
    refine .inl ⟨show _ ≤ _ by omega, ?_⟩
    rw [e2]
    rw [e1] at c1 o1
    exact hQ x6' Hf1 H1 c1 o1
/-- the rows above -/
theorem vc_above {E : L2.St → XK} {Hf H : Hp} {s p q r : Addr} {S : Tri} {top k : Nat} {x4 x5 x6 : Option V} {De : Ends} (x : Ex Hf H) (hs : SqT K Hf s [.ref p, .ref q, .ref r]) (ow : OwT K mg Hf H p q r S)
    (b1 : (top : Int) < 2 ^ 62) (ok : passOk top k (List.range top) S)
    (hQ : ∀ x6' Hf' H', ChT Hf H Hf' H' p q r S (passS top k (List.range top) S) → OwT K mg Hf' H' p q r (passS top k (List.range top) S) → De.nx (σB s p top k x4 x5 x6') H') :
    tFor (iRng1 (tCons (tVar 1) tNil)) (gName 6) (tTk K mg E) De (σB s p top k x4 x5 x6) H := by
  refine ⟨_, rfl, _, rfl, by omega, b1, ?_⟩
  have hn : ((top : Nat) : Int).toNat = top := by omega
  rw [hn]
  refine ⟨fun i m σ' H' => i + m = top ∧ ∃ x6' Hf' S', σ' = σB s p top k x4 x5 x6' ∧ ChT Hf H Hf' H' p q r S S' ∧ OwT K mg Hf' H' p q r S' ∧ passOk top k ((List.range top).drop i) S' ∧
      passS top k ((List.range top).drop i) S' = passS top k (List.range top) S, ⟨top, by omega, x6, Hf, S, rfl, Chg3.refl x, ow, ok, rfl⟩, ?_⟩
  rintro i m σ1 H1 ⟨hm, x6', Hf1, S1, rfl, c1, o1, ok1, e1⟩
  by_cases hi : i < top
  · have hd : (List.range top)[i]? = some i := List.getElem?_range hi
    rw [list_next hd] at ok1 e1
    refine .inr ⟨hi, fun σ' H' => ∃ m', m' < m ∧ (i + 1 + m' = top ∧ ∃ x6' Hf' S', σ' = σB s p top k x4 x5 x6' ∧ ChT Hf H Hf' H' p q r S S' ∧ OwT K mg Hf' H' p q r S' ∧ passOk top k ((List.range top).drop (i + 1)) S' ∧
      passS top k ((List.range top).drop (i + 1)) S' = passS top k (List.range top) S), fun σ' H' z => z, ?_⟩
    rintro v H2 ⟨rfl, rfl⟩
    have hv : V.int (0 + (i : Int)) = .int (i : Int) := by rw [Int.zero_add]
    rw [hv]
    exact vc_tk c1.h (ex_t c1.f hs) o1 ok1.1 rfl rfl rfl rfl rfl fun Hf2 H3 c2 o2 => ⟨m - 1, by omega, by omega, _, Hf2, _, rfl, c1.trans c2, o2, ok1.2, e1⟩
  · have hd : (List.range top).drop i = [] := List.drop_eq_nil_of_le (by simp; omega)
    rw [hd] at e1
    have e1 : S1 = passS top k (List.range top) S := e1
    refine .inl ⟨show _ ≤ _ by omega, ?_⟩
    rw [e1] at c1 o1
    exact hQ x6' Hf1 H1 c1 o1
end
end DL

/-! DSd: bring_lead as a whole. -/
namespace DL
open PySem PySem.Spec PyProof.Rows L2 Evl
section
variable {K : PySem.W.Frag} {mg : MG}
def rIsQ : R2 := fun x y H Q => y = .non ∧ Q (.bl (decide (x = .non))) H
abbrev rLenQ (K : PySem.W.Frag) : List V → Hp → VK → Prop := fun xs H Q => ∃ p ys, xs = [.ref p] ∧ (SqL K H p ys ∨ SqT K H p ys) ∧ Q (.int ys.length) H
abbrev tLst (K : PySem.W.Frag) (mg : MG) (FL : List D → Rs) (E : L2.St → XK) : TE := tCallS (spP K mg 3 FL) E (tCons (tVar 3) (tCons (tVar 1) (tCons (tVar 2) tNil)))
abbrev tRdB (K : PySem.W.Frag) (i : Nat) : TE := tOp (L2.rIx K) (tOp (L2.rIx K) (tVar 3) (tVar i)) (tVar 2)
abbrev tTurn (K : PySem.W.Frag) (mg : MG) (FL : List D → Rs) (E : L2.St → XK) : TS :=
  tSeq (tDrop (tCallS (spT K mg rExch) E (tCons (tVar 0) (tCons (tVar 1) (tCons (tVar 4) tNil)))))
    (tSeq (tAsg (tC (.bl false)) (gName 5))
      (tSeq (tFor (iRng2 (tCons (tOp (rI0 fun i j => .int (i + j)) (tVar 1) (tC (.int 1))) (tCons (tCB (rLenQ K) (tCons (tVar 3) tNil)) tNil))) (gName 6)
          (tSeq (tTk K mg E) (tIfS (tTest (tOp rNe (tRdB K 6) (tC (.int 0)))) (tAsg (tC (.bl true)) (gName 5)) tNext)))
        (tAsg (tLst K mg FL E) (gName 4))))
theorem own_len {Hf H : Hp} {p : Addr} {L : Mx} (w : OwO K mg Hf H p (rw3 L)) : ∃ ys, SqL K H p ys ∧ ys.length = L.length := by
  obtain ⟨as, n1, n2, np, nd, nl, n3⟩ := own_rows w
  exact ⟨_, .inl (.inl n2), by rw [List.length_map, nl]⟩
theorem seq_c {v : V} {i : Nat} {A : TS} {De : Ends} {σ : L2.St} {H : Hp} (h : A De (σ.set i (some v)) H) : tSeq (tAsg (tC v) (gName i)) A De σ H := h
theorem seq_2 {A B : TS} {De : Ends} {σ : L2.St} {H : Hp} (h : A { De with nx := B De } σ H) : tSeq A B De σ H := h
/-- one turn of the while -/
theorem vc_turn1 {FL : List D → Rs} {E : L2.St → XK} (hL : ∀ (F : Mx) (top k : Nat), OkL F top k → FL [.lst ((mxD F).map D.lst), .int top, .int k] = .ok (atD (leastAt F top k)))
    {Hf H : Hp} {s p q r : Addr} {S : Tri} {top k i : Nat} {x6 : Option V} {b : Bool} {De : Ends} (x : Ex Hf H) (hs : SqT K Hf s [.ref p, .ref q, .ref r]) (ow : OwT K mg Hf H p q r S)
    (e0 : exOk S top i) (b1 : (top : Int) + 1 < 2 ^ 62) (b2 : (S.F.length : Int) < 2 ^ 62) (ok : passOk top k (below top (S.ex top i)) (S.ex top i)) (ol : OkL (passS top k (below top (S.ex top i)) (S.ex top i)).F top k)
    (hQ : ∀ x6' Hf' H', ChT Hf H Hf' H' p q r S (passS top k (below top (S.ex top i)) (S.ex top i)) → OwT K mg Hf' H' p q r (passS top k (below top (S.ex top i)) (S.ex top i)) →
      De.nx (σB s p top k (some (atV (leastAt (passS top k (below top (S.ex top i)) (S.ex top i)).F top k))) (some (.bl (passB top k (below top (S.ex top i)) (S.ex top i) false))) x6') H') :
    tTurn K mg FL E De (σB s p top k (some (.int i)) (some (.bl b)) x6) H := by
  refine ⟨_, rfl, _, rfl, _, rfl, s, p, q, r, Hf, S, [(top : Int), (i : Int)], .non, S.ex top i, rfl, x, hs, ow, ⟨top, i, rfl, e0.1, e0.2, rfl, rfl⟩, fun v Hf1 H1 c1 o1 _ => ?_⟩
  have el : (S.ex top i).F.length = S.F.length := by unfold Tri.ex exRow; simp
  dsimp only
  refine seq_c (seq_2 ?_)
  show tFor _ _ _ _ (σB s p top k (some (.int i)) (some (.bl false)) x6) H1
  refine vc_pass (x4 := some (.int i)) (x6 := x6) c1.h (ex_t c1.f hs) o1 (fun σ R h1 h3 hr => ?_) b1 (by rw [el]; exact b2) ok fun x6' Hf2 H2 c2 o2 => ?_
  · obtain ⟨ys, hy, hn⟩ := own_len o1.o1
    refine ⟨_, h1, _, _, rfl, rfl, ?_⟩
    refine ⟨_, h3, p, ys, rfl, .inl hy, ?_⟩
    rw [hn]
    exact hr
  · refine vc_least hL o2.o1 ol rfl rfl rfl fun H3 y => ?_
    obtain ⟨o3, c3⟩ := o2.ext c2.h y
    exact hQ x6' Hf2 H3 ((c1.trans c2).trans c3) o3
theorem vc_bring {FL : List D → Rs} {E : L2.St → XK} (hL : ∀ (F : Mx) (top k : Nat), OkL F top k → FL [.lst ((mxD F).map D.lst), .int top, .int k] = .ok (atD (leastAt F top k)))
    {Hf H : Hp} {s p q r : Addr} {S S' : Tri} {ns : List Int} {d : D} {Q : VK}
    (x : Ex Hf H) (hs : SqT K Hf s [.ref p, .ref q, .ref r]) (ow : OwT K mg Hf H p q r S) (hR : rBring S ns d S') (hQ : ∀ v Hf' H', ChT Hf H Hf' H' p q r S S' → OwT K mg Hf' H' p q r S' → Rp K mg Hf' v d → Q v H') :
    tSeq (tAsg (tOp (L2.rIx K) (tVar 0) (tC (.int 0))) (gName 3))
      (tSeq (tAsg (tLst K mg FL E) (gName 4))
        (tSeq (tIfS (tTest (tOp rIsQ (tVar 4) (tC .non))) (tRet (tC (.bl false))) tNext)
          (tSeq (tAsg (tC (.bl true)) (gName 5))
            (tSeq (tWhile (fun σ H Q => tVar 5 σ H fun x H' => ∃ k, TruV K x H' k ∧ Q k H') (tTurn K mg FL E))
              (tSeq (tIfS (tTest (tOp (rI0 fun i j => .bl (decide (i < j))) (tRdB K 1) (tC (.int 0)))) (tDrop (tCallS (spT K mg rTurn) E (tCons (tVar 0) (tCons (tVar 1) tNil)))) tNext)
                (tSeq (tFor (iRng1 (tCons (tVar 1) tNil)) (gName 6) (tTk K mg E))
                  (tRet (tC (.bl true))))))))) { nx := fun _ H' => Q .non H', rt := Q } (L2.start ["state", "top", "k", "form", "at", "again", "i"] (.ref s :: ns.map V.int)) H := by
  obtain ⟨top, k, rfl, ol, hc⟩ := hR
  refine ⟨_, rfl, .inr (.inl ⟨s, _, 0, _, rfl, rfl, ex_t x hs, rfl, ?_⟩)⟩
  refine vc_least hL ow.o1 ol rfl rfl rfl fun H1 y1 => ?_
  obtain ⟨o1, c1⟩ := ow.ext x y1
  refine ⟨_, rfl, ?_⟩
  refine ⟨rfl, _, rfl, ?_⟩
  rcases hc with ⟨e1, rfl, rfl⟩ | ⟨i, m, T, e1, rfl, hw, hk, hng, hpa, rfl⟩
  · rw [e1]
    exact iteT (hQ _ Hf H1 c1 o1 (.bl false))
  · rw [e1]
    refine iteF ?_
    refine ⟨fun n σ' H' => ∃ x4 x6 b Hf' S1, σ' = σB s p top k (some (atV x4)) (some (.bl b)) x6 ∧ ChT Hf H Hf' H' p q r S S1 ∧ OwT K mg Hf' H' p q r S1 ∧ Wh top k n S1 x4 b T, ⟨m, some i, none, true, Hf, S, rfl, c1, o1, hw⟩, ?_⟩
    rintro n σ1 H2 ⟨x4, x6, b, Hf2, S1, rfl, c2, o2, w2⟩
    refine ⟨_, rfl, b, rfl, ?_⟩
    cases b with
    | true =>
      refine iteT ?_
      cases n with
      | zero => exact w2.elim
      | succ n =>
        cases x4 with
        | none => exact w2.elim
        | some i1 =>
          obtain ⟨g1, g2, g3, g4, g5, g6, g7⟩ := w2
          refine ⟨fun σ' H' => ∃ x4 x6 b Hf' S1, σ' = σB s p top k (some (atV x4)) (some (.bl b)) x6 ∧ ChT Hf H Hf' H' p q r S S1 ∧ OwT K mg Hf' H' p q r S1 ∧ Wh top k n S1 x4 b T, fun σ' H' z => ⟨n, Nat.lt_succ_self _, z⟩, ?_⟩
          exact vc_turn1 hL c2.h (ex_t c2.f hs) o2 g1 g2 g3 g4 g6 fun x6' Hf3 H3 c3 o3 => ⟨_, x6', _, Hf3, _, rfl, c2.trans c3, o3, g7⟩
    | false =>
      refine iteF ?_
      have e2 : T = S1 := by cases n <;> exact w2
      subst e2
      refine vc_rd (i := top) (k := k) o2.o1 rfl rfl rfl (rd_some hk) ⟨_, _, rfl, rfl, _, rfl, ?_⟩
      have fin : ∀ (Hf3 H3 : Hp), ChT Hf H Hf3 H3 p q r S (sgnT top k T) → OwT K mg Hf3 H3 p q r (sgnT top k T) → (tSeq (tFor (iRng1 (tCons (tVar 1) tNil)) (gName 6) (tTk K mg E)) (tRet (tC (.bl true)))) { nx := fun _ H' => Q .non H', rt := Q } (σB s p top k (some (atV x4)) (some (.bl false)) x6) H3 := fun Hf3 H3 c3 o3 => by
        refine vc_above c3.h (ex_t c3.f hs) o3 (by have := ol.1; omega) hpa fun x6' Hf4 H4 c4 o4 => ?_
        exact hQ _ Hf4 H4 (c3.trans c4) o4 (.bl true)
      by_cases hz : rdD T.F top k < 0
      · rw [decide_eq_true hz]
        have e3 : sgnT top k T = T.ng top := if_pos hz
        obtain ⟨u1, u2⟩ := hng hz
        refine iteT ⟨_, rfl, _, rfl, s, p, q, r, Hf2, T, [(top : Int)], .non, T.ng top, rfl, c2.h, ex_t c2.f hs, o2, ⟨top, rfl, u1, u2, rfl, rfl⟩, fun v Hf3 H3 c3 o3 _ => ?_⟩
        exact fin Hf3 H3 (by rw [e3]; exact c2.trans c3) (by rw [e3]; exact o3)
      · rw [decide_eq_false hz]
        have e3 : sgnT top k T = T := if_neg hz
        exact iteF (fin Hf2 H2 (by rw [e3]; exact c2) (by rw [e3]; exact o2))
end
end DL

/-! DSe: rows handed back by a def; the call that changes three own slots. -/
namespace DL
open PySem PySem.Spec PyProof.Rows L2 Evl
/-- what comes back is a new list of new lists -/
def spRR (K : PySem.W.Frag) (mg : MG) (n : Nat) (F : List D → Res (List (List D))) : Sp := fun vs H Q E => vs.length = n ∧ ∃ Hf ds, Ex Hf H ∧ Rps K mg Hf vs ds ∧ match F ds with
  | .ok ll _ => ∀ p as Hf' H', Ex Hf Hf' → Ex Hf' H' → (∀ a o, H a = some o → Hf a = none → H' a = some o ∧ Hf' a = none) → (∀ a, a = p ∨ a ∈ as → H a = none) → H' p = some (.lst (as.map V.ref)) → Hf' p = none → p ∉ as → as.Nodup → RwR K mg Hf' H' as ll → Q (.ref p) H'
  | .exc x p _ => ∀ cls dd Hf' H', Ex Hf Hf' → Ex Hf' H' → (∀ a o, H a = some o → Hf a = none → H' a = some o ∧ Hf' a = none) → IsExc K mg Hf' x p cls dd → E cls dd H'
  | .stuck => False
def runRR (n : Nat) (f : M (List (List D))) (ds : List D) : Res (List (List D)) := f (envOf n ds)
section
variable {P : Program} {w : World} {K : PySem.W.Frag} {mg : MG} {base : Heap}
theorem fn_okRR {x qual : Str} {st : Stmt} {f : Addr} {fd : FuncData} {N ps : List Str} {k : Nat} {g : M (List (List D))} {e : Expr} {pos : Pos} (F : Fun K x qual st f fd) (NS : Big P base k) (S : FnScope N ps (defScope st)) (hb : defBody st = [.Return (some e) pos])
    (hbody : ∀ (X : Cx) (W : WX), X.prog = P → X.w = w → X.K = K → X.mg = mg → X.base = base → Room k X.A → CtxOk X W → Nm X N (defScope st) (defScope st) → Df X → JR X W e g) (hle : ps.length ≤ N.length := by decide) :
    FnOk P w K mg base (L2N.CX P w) (k + 1) f fd ps (spRR K mg ps.length (runRR N.length g)) := by
  refine okN F S (fun vs H Q E h => h.1) (fun cdv A outer s H vs Q E hr h => ?_)
  obtain ⟨hl, Hf, ds, x, r, hF⟩ := h
  obtain ⟨t, p, ht⟩ := (hbody (cxOf (L2N.CX P w) P w K mg base N qual (defScope st) f cdv A outer s H E) (fun cls d _ H => E cls d H) rfl rfl rfl rfl rfl hr ⟨rfl, hr.units, passes_of rfl, L2N.takes_of rfl rfl rfl rfl, ⟨NS.tree, NS.seer, ⟨_, _, rfl, S.gen, S.co, rfl, rfl⟩, by
    show (A.deeper (envOfC qual (defScope st) s.heap.objs.size f cdv)).depth + Builtin.pylongFrames < recursionLimit
    have := hr.dp; have e : Builtin.pylongFrames = 100 := rfl; have := NS.k; omega⟩⟩ ⟨rfl, rfl, S.nd, S.kind, fun _ _ => rfl⟩ ⟨rfl, rfl⟩).ex
  have key := ht ⟨[], fun a => if (Hf a).isSome then none else H a⟩ (L2.start N vs) Hf H (envOf N.length ds) (sr_start x r (by omega))
  refine ⟨_, by rw [hb]; exact pss_one (ps_ret p), key _ ?_⟩
  unfold runRR at hF
  cases q : g (envOf N.length ds) with
  | ok ll e' =>
    rw [q] at hF
    exact fun Hf' H' p as x' S' hp nf np nd rr no => hF p as Hf' H' x' S'.ex (fg_back S') (fun a ha => by
      have nfa : Hf' a = none := by
        rcases ha with rfl | ha
        · exact nf
        · obtain ⟨i, hi, rfl⟩ := List.mem_iff_getElem.mp ha
          exact (rr.2 i _ _ (List.getElem?_eq_getElem hi) (List.getElem?_eq_getElem (by rw [← rr.1]; exact hi))).1
      exact ro_new (fresh_back x' nfa) (no a ha).1) hp nf np nd rr
  | exc y p e' => rw [q] at hF; exact fun cls dd Hf' H' x' S' z => hF cls dd Hf' H' x' S'.ex (fg_back S') z
  | stuck => rw [q] at hF; exact hF.elim
end
def mCallRR (f : M (List D)) (F : List D → Res (List (List D))) : M (List (List D)) := bnd f fun ds env => match F ds with
  | .ok ll _ => .ok ll env | .exc x p _ => .exc x p env | .stuck => .stuck
section
variable {X : Cx} {W : WX} {a b c e : Expr} {es : List Expr} {fa fb fc : M D} {pos : Pos} {f : M (List D)} {N : List Str} {sc raw : Scope}
theorem jr_call {x : Str} {p : Pos} {n : Nat} {F : List D → Res (List (List D))} (C : CtxOk X W) (V : Nm X N sc raw) (hG : okG sc x = true) (c : CalM X x (spRR X.K X.mg n F)) (ja : JA X W (e :: es) f) (hn : ∀ env ds env', f env = .ok ds env' → ds.length = n)
    (he : starEach (e :: es) X.env = (false, eval e X.env) :: starEach es X.env := by rfl) (hpl : (backTo pos (starEach es X.env)).any (·.1) = false := by rfl) :
    JR X W (.Call (.Name x p) (e :: es) [] pos) (mCallRR f F) := by
  obtain ⟨t, q, h⟩ := ja.ex
  refine ⟨⟨_, pe_callM C V hG c q he hpl, fun ps σ Hf H env S Q z => ?_⟩⟩
  unfold mCallRR bnd at z
  refine h ps σ Hf H env S _ ?_
  cases w : f env with
  | ok ds e1 =>
    rw [w] at z
    intro Hf1 H1 x1 S1 vs r
    refine ⟨by rw [r.length]; exact hn _ _ _ w, Hf1, ds, S1.ex, r, ?_⟩
    have z := RGd.mono x1 z
    cases q : F ds with
    | ok ll e2 =>
      simp only [q] at z ⊢
      intro p as Hf' H' x y fr nw hp nf np nd rr
      refine z Hf' H' p as x (S1.after x y fr) hp nf np nd rr fun a ha => ⟨S1.ng_new (nw a ha), fun i k2 od w q1 q2 f => ?_⟩
      obtain ⟨z1, u, z2⟩ := S1.live q1 q2 .self
      have hw := (fr w u z2 z1).1
      exact S1.nob_new (nw a ha) i k2 od w q1 q2 (f.of_eq (by rw [hw, z2]))
    | exc c p e2 => simp only [q] at z ⊢; exact fun cls dd Hf' H' x y fr ie => z cls dd Hf' H' x (S1.after x y fr) ie
    | stuck => simp only [q] at z; exact z.elim
  | exc y p e1 => rw [w] at z; exact fun cls dd Hf' H' x S' ie => z cls dd Hf' H' x S' ie
  | stuck => rw [w] at z; exact z.elim
/-! ### rules by a slot's fact -/
theorem pvV {i : Nat} {x : Str} (V : Nm X N sc raw) (h : okV N sc i x = true) : PE X (.Name x pos) (tVar i) := by
  obtain ⟨n1, a1, b1, c1⟩ := V.v h
  exact pe_var n1 a1 b1 c1
theorem pgV {i : Nat} {x : Str} (V : Nm X N sc raw) (h : okS N sc raw i x = true) : PG X (.Name x pos) (gName i) := pg_name (i := i) V.nodup (V.s h).1 (V.s h).2.1 (V.s h).2.2
theorem psV {i : Nat} {x : Str} {te : TE} {pos' : Pos} (V : Nm X N sc raw) (h : okS N sc raw i x = true) (he : PE X e te) (hs : swapsWith e (some (.Name x pos')) pos.line X.env = pure false := by rfl) : PS X (.Assign [.Name x pos'] e pos) (tAsg te (gName i)) :=
  ps_set (i := i) V.nodup (V.s h).1 (V.s h).2.1 he hs (V.s h).2.2
theorem plenV {i : Nat} {x : Str} {p p2 : Pos} (V : Nm X N sc raw) (hv : okV N sc i x = true) (hG : okG sc "len" = true) (hm : X.mg "len" = none) (he : starEach [.Name x p2] X.env = [(false, eval (.Name x p2) X.env)] := by rfl) : PE X (.Call (.Name "len" p) [.Name x p2] [] pos) (tCB (rLenQ X.K) (tCons (tVar i) tNil)) :=
  pe_callB call_len_seq (V.g hG).1 hm (by decide +kernel) (pa_cons (pvV V hv) pa_nil he) (by decide) (by decide) he rfl
/-! ### three own slots changed by a call -/
structure Br (R : Tri → List Int → D → Tri → Prop) (i1 i2 i3 j1 j2 : Nat) (env : DEnv) (d : D) (e' : DEnv) : Prop where
  ex : ∃ (S S' : Tri) (n1 n2 : Int), env[i1]? = some (.own none (rw3 S.F)) ∧ env[i2]? = some (.own none (rw3 S.R)) ∧ env[i3]? = some (.own none (rw3 S.C)) ∧ env[j1]? = some (.val (.int n1)) ∧ env[j2]? = some (.val (.int n2)) ∧
    R S [n1, n2] d S' ∧ d.plain = true ∧ e' = ((env.set i1 (.own none (rw3 S'.F))).set i2 (.own none (rw3 S'.R))).set i3 (.own none (rw3 S'.C))
open Classical in
noncomputable def mBr (R : Tri → List Int → D → Tri → Prop) (i1 i2 i3 j1 j2 : Nat) : M D := fun env =>
  if h : ∃ q : D × DEnv, Br R i1 i2 i3 j1 j2 env q.1 q.2 then .ok (choose h).1 (choose h).2 else .stuck
theorem mBr_of {R : Tri → List Int → D → Tri → Prop} {i1 i2 i3 j1 j2 : Nat} {env e' : DEnv} {d : D} (h : Br R i1 i2 i3 j1 j2 env d e') : ∃ d e', Br R i1 i2 i3 j1 j2 env d e' ∧ mBr R i1 i2 i3 j1 j2 env = .ok d e' := by
  have hx : ∃ q : D × DEnv, Br R i1 i2 i3 j1 j2 env q.1 q.2 := ⟨(d, e'), h⟩
  refine ⟨_, _, Classical.choose_spec hx, ?_⟩
  unfold mBr
  rw [dif_pos hx]
/-- the own slots i1, i2, i3 of an environment, taken out -/
theorem SR.three {K : PySem.W.Frag} {mg : MG} {ps : Fg} {Hf H : Hp} {σ : L2.St} {env : DEnv} (S : SR K mg ps Hf H σ env) {i1 i2 i3 : Nat} {d1 d2 d3 : OD} (h12 : i1 ≠ i2) (h13 : i1 ≠ i3) (h23 : i2 ≠ i3)
    (e1 : env[i1]? = some (.own none d1)) (e2 : env[i2]? = some (.own none d2)) (e3 : env[i3]? = some (.own none d3)) :
    ∃ p q r, σ[i1]? = some (some (.ref p)) ∧ σ[i2]? = some (some (.ref q)) ∧ σ[i3]? = some (some (.ref r)) ∧ Own3 K mg Hf H p q r d1 d2 d3 ∧
      ∀ {Hf' H' : Hp} {d1' d2' d3' : OD}, Chg3 Hf H Hf' H' p q r d1 d2 d3 d1' d2' d3' → Own3 K mg Hf' H' p q r d1' d2' d3' → SR K mg ps Hf' H' σ (((env.set i1 (.own none d1')).set i2 (.own none d2')).set i3 (.own none d3')) := by
  obtain ⟨p, o1, s1, n1, g1, r1, _⟩ := S.own e1
  obtain ⟨q, o2, s2, n2, g2, r2, _⟩ := S.own e2
  obtain ⟨r, o3, s3, n3, g3, r3, _⟩ := S.own e3
  refine ⟨p, q, r, s1, s2, s3, ⟨⟨o1, n1, g1, r1⟩, ⟨o2, n2, g2, r2⟩, ⟨o3, n3, g3, r3⟩, fun a f1 f2 => S.apF i1 i2 _ _ _ _ p q a h12 e1 e2 s1 s2 f1 f2, fun a f1 f2 => S.apF i1 i3 _ _ _ _ p r a h13 e1 e3 s1 s3 f1 f2, fun a f1 f2 => S.apF i2 i3 _ _ _ _ q r a h23 e2 e3 s2 s3 f1 f2⟩, ?_⟩
  intro Hf' H' d1' d2' d3' c o
  have l1 : i1 < env.length := (List.getElem?_eq_some_iff.mp e1).1
  have l2 : i2 < env.length := (List.getElem?_eq_some_iff.mp e2).1
  have l3 : i3 < env.length := (List.getElem?_eq_some_iff.mp e3).1
  have D1 := S.drop i1 (some (.ref p)); rw [set_back s1] at D1
  have D2 := D1.drop i2 (some (.ref q)); rw [set_back s2] at D2
  have D3 := D2.drop i3 (some (.ref r)); rw [set_back s3] at D3
  -- what the other own slots take up is apart from the three
  have at' : ∀ {j : Nat} {k : Option Nat} {l : OD}, (((env.set i1 .no).set i2 .no).set i3 .no)[j]? = some (.own k l) → i1 ≠ j ∧ i2 ≠ j ∧ i3 ≠ j ∧ env[j]? = some (.own k l) := fun {j k l} h => by
    have n3 : i3 ≠ j := fun z => by subst z; rw [List.getElem?_set_self (by simpa using l3)] at h; cases h
    rw [List.getElem?_set_ne n3] at h
    have n2 : i2 ≠ j := fun z => by subst z; rw [List.getElem?_set_self (by simpa using l2)] at h; cases h
    rw [List.getElem?_set_ne n2] at h
    have n1 : i1 ≠ j := fun z => by subst z; rw [List.getElem?_set_self l1] at h; cases h
    rw [List.getElem?_set_ne n1] at h
    exact ⟨n1, n2, n3, h⟩
  have keep : ∀ {j : Nat} {k : Option Nat} {l : OD} {b a : Addr}, (((env.set i1 .no).set i2 .no).set i3 .no)[j]? = some (.own k l) → σ[j]? = some (some (.ref b)) → Ft H l b a → Hf' a = none ∧ H' a = H a ∧ ¬ Ft H' d1' p a ∧ ¬ Ft H' d2' q a ∧ ¬ Ft H' d3' r a := fun {j k l b a} h hs f => by
    obtain ⟨m1, m2, m3, h⟩ := at' h
    obtain ⟨w1, u, w2⟩ := S.live h hs f
    obtain ⟨k1, k2, k3, k4, k5⟩ := c.k a u w2 w1 (fun z => S.apF i1 j _ _ _ _ p b a m1 e1 h s1 hs z f) (fun z => S.apF i2 j _ _ _ _ q b a m2 e2 h s2 hs z f) (fun z => S.apF i3 j _ _ _ _ r b a m3 e3 h s3 hs z f)
    exact ⟨k2, by rw [k1, w2], k3, k4, k5⟩
  have keepG : ∀ {a : Addr} {u : HO}, ps.g a = some u → H' a = some u ∧ Hf' a = none ∧ ¬ Ft H' d1' p a ∧ ¬ Ft H' d2' q a ∧ ¬ Ft H' d3' r a := fun {a u} h => by
    obtain ⟨w1, w2, w3⟩ := S.fgF a u h
    exact c.k a u w1 w2 (fun z => w3 i1 _ _ p e1 s1 z) (fun z => w3 i2 _ _ q e2 s2 z) (fun z => w3 i3 _ _ r e3 s3 z)
  have T := D3.frame c.f c.h (fun j k l b a h hs f => ⟨(keep h hs f).1, (keep h hs f).2.1⟩) (fun a u h => ⟨(keepG h).1, (keepG h).2.1⟩)
  have ftb : ∀ {j : Nat} {k : Option Nat} {l : OD} {b a : Addr}, (((env.set i1 .no).set i2 .no).set i3 .no)[j]? = some (.own k l) → σ[j]? = some (some (.ref b)) → Ft H' l b a → Ft H l b a := fun {j k l b a} h hs f => f.of_eq (keep h hs .self).2.1
  have gn : ∀ {a : Addr}, (Ft H' d1' p a ∨ Ft H' d2' q a ∨ Ft H' d3' r a) → ps.g a = none := fun {a} f => by
    cases w : ps.g a with
    | none => rfl
    | some u =>
      obtain ⟨_, _, k1, k2, k3⟩ := keepG w
      rcases f with f | f | f
      · exact (k1 f).elim
      · exact (k2 f).elim
      · exact (k3 f).elim
  have nb : ∀ {a : Addr}, (Ft H' d1' p a ∨ Ft H' d2' q a ∨ Ft H' d3' r a) → Nob H' σ (((env.set i1 .no).set i2 .no).set i3 .no) a := fun {a} f j k l b h hs f2 => by
    obtain ⟨_, _, k1, k2, k3⟩ := keep h hs (ftb h hs f2)
    rcases f with f | f | f
    · exact k1 f
    · exact k2 f
    · exact k3 f
  obtain ⟨u1, m1, v1, w1⟩ := o.o1.ex
  obtain ⟨u2, m2, v2, w2⟩ := o.o2.ex
  obtain ⟨u3, m3, v3, w3⟩ := o.o3.ex
  have A1 := T.takeG i1 v1 m1 w1 fun a f => ⟨gn (.inl f), nb (.inl f)⟩
  rw [set_back s1] at A1
  have ro : ∀ {i j : Nat} {x : Sl} {k : Option Nat} {l : OD} {e0 : DEnv}, i < e0.length → (e0.set i x)[j]? = some (.own k l) → (i = j ∧ x = .own k l) ∨ e0[j]? = some (.own k l) := fun {i j x k l e0} hl h => by
    by_cases z : i = j
    · subst z; rw [List.getElem?_set_self hl] at h; cases h; exact .inl ⟨rfl, rfl⟩
    · rw [List.getElem?_set_ne z] at h; exact .inr h
  have A2 := A1.takeG i2 v2 m2 w2 fun a f => ⟨gn (.inr (.inl f)), fun j k l b h hs f2 => by
    rcases ro (by simp; exact l1) h with ⟨z1, z2⟩ | h
    · subst z1; cases z2
      rw [s1] at hs; cases hs
      exact o.a12 a f2 f
    · exact nb (.inr (.inl f)) j k l b h hs f2⟩
  rw [set_back s2] at A2
  have A3 := A2.takeG i3 v3 m3 w3 fun a f => ⟨gn (.inr (.inr f)), fun j k l b h hs f2 => by
    rcases ro (by simp; exact l2) h with ⟨z1, z2⟩ | h
    · subst z1; cases z2
      rw [s2] at hs; cases hs
      exact o.a23 a f2 f
    · rcases ro (by simp; exact l1) h with ⟨z1, z2⟩ | h
      · subst z1; cases z2
        rw [s1] at hs; cases hs
        exact o.a13 a f2 f
      · exact nb (.inr (.inr f)) j k l b h hs f2⟩
  rw [set_back s3] at A3
  have ee : ((((((env.set i1 .no).set i2 .no).set i3 .no).set i1 (Sl.own none d1')).set i2 (Sl.own none d2')).set i3 (Sl.own none d3')) = (((env.set i1 (.own none d1')).set i2 (.own none d2')).set i3 (.own none d3')) := by
    apply List.ext_getElem?
    intro j
    by_cases z3 : i3 = j
    · subst z3; simp [List.getElem?_set_self, l3]
    · rw [List.getElem?_set_ne z3, List.getElem?_set_ne z3]
      by_cases z2 : i2 = j
      · subst z2; simp [List.getElem?_set_self, l2]
      · rw [List.getElem?_set_ne z2, List.getElem?_set_ne z2]
        by_cases z1 : i1 = j
        · subst z1; simp [List.getElem?_set_self, l1]
        · rw [List.getElem?_set_ne z1, List.getElem?_set_ne z1, List.getElem?_set_ne z3, List.getElem?_set_ne z2, List.getElem?_set_ne z1]
  rw [ee] at A3
  exact A3
/-- f((x1, x2, x3), y1, y2), f lent a tuple of three own lists of lists -/
theorem je_br {x x1 x2 x3 y1 y2 : Str} {p p1 p2 p3 p4 q1 q2 : Pos} {kk : Nat} {R : Tri → List Int → D → Tri → Prop} {i1 i2 i3 j1 j2 : Nat} (C : CtxOk X W) (V : Nm X N sc raw) (hG : okG sc x = true) (c : CalM X x (spT X.K X.mg R))
    (v1 : okV N sc i1 x1 = true) (v2 : okV N sc i2 x2 = true) (v3 : okV N sc i3 x3 = true) (u1 : okV N sc j1 y1 = true) (u2 : okV N sc j2 y2 = true) (h12 : i1 ≠ i2 := by decide) (h13 : i1 ≠ i3 := by decide) (h23 : i2 ≠ i3 := by decide)
    (he : starEach (.Tuple [.Name x1 p1, .Name x2 p2, .Name x3 p3] kk p4 :: [.Name y1 q1, .Name y2 q2]) X.env = (false, eval (.Tuple [.Name x1 p1, .Name x2 p2, .Name x3 p3] kk p4) X.env) :: starEach [.Name y1 q1, .Name y2 q2] X.env := by rfl)
    (hpl : (backTo pos (starEach [.Name y1 q1, .Name y2 q2] X.env)).any (·.1) = false := by rfl) :
    JE X W (.Call (.Name x p) [.Tuple [.Name x1 p1, .Name x2 p2, .Name x3 p3] kk p4, .Name y1 q1, .Name y2 q2] [] pos) (mBr R i1 i2 i3 j1 j2) := by
  obtain ⟨n1, a1, b1, c1⟩ := V.v v1
  obtain ⟨n2, a2, b2, c2⟩ := V.v v2
  obtain ⟨n3, a3, b3, c3⟩ := V.v v3
  obtain ⟨n4, a4, b4, c4⟩ := V.v u1
  obtain ⟨n5, a5, b5, c5⟩ := V.v u2
  refine ⟨⟨_, pe_callM C V hG c (pa_cons (pe_tup (pa_cons (pe_var n1 a1 b1 c1) (pa_cons (pe_var n2 a2 b2 c2) (pa_cons (pe_var n3 a3 b3 c3) pa_nil)))) (pa_cons (pe_var n4 a4 b4 c4) (pa_cons (pe_var n5 a5 b5 c5) pa_nil)) he) he hpl, fun ps σ Hf H env S Q z => ?_⟩⟩
  unfold mBr at z
  split at z
  · rename_i hx
    obtain ⟨T, T', m1, m2, e1, e2, e3, e4, e5, hR, hpn, ee⟩ := (Classical.choose_spec hx).ex
    generalize (Classical.choose hx) = dq at *
    obtain ⟨d, e'⟩ := dq
    dsimp only at *
    subst ee
    obtain ⟨pp, qq, rr, s1, s2, s3, ow, back⟩ := S.three h12 h13 h23 e1 e2 e3
    obtain ⟨w4, s4, r4⟩ := S.val e4
    obtain ⟨w5, s5, r5⟩ := S.val e5
    rw [r4.int_inv] at s4
    rw [r5.int_inv] at s5
    refine ⟨_, s1, _, s2, _, s3, (by show 3 ≤ sizeLine; decide), fun t nt => ?_⟩
    refine ⟨_, s4, _, s5, ?_⟩
    have S1 := S.froze (p := t) (o := .tup [.ref pp, .ref qq, .ref rr]) nt
    obtain ⟨pp', qq', rr', s1', s2', s3', ow', back'⟩ := S1.three h12 h13 h23 e1 e2 e3
    rw [s1] at s1'; cases s1'
    rw [s2] at s2'; cases s2'
    rw [s3] at s3'; cases s3'
    refine ⟨t, pp, qq, rr, upd Hf t (.tup [.ref pp, .ref qq, .ref rr]), T, [m1, m2], d, T', rfl, S1.ex, .inl (.inl upd_same), ow', hR, fun v Hf' H' ch o rv => ?_⟩
    exact z Hf' H' ((Ex.new (fresh_back S.ex nt)).trans ch.f) (back' ch o) v rv
  · exact z.elim
end
end DL

/-! DLr: rows of whole numbers of any size, as lists or tuples; one times the other. -/
namespace DL
open PySem PySem.Spec PyProof.Rows L2 Evl
abbrev Mt := List (List Int)
theorem mi {a b : Int} {m n : Nat} (ha : ib a ≤ m) (hb : ib b ≤ n) (h : m + n ≤ 100000 := by decide) : IntMulOk a b := IntMulOk.of_le ha hb (Nat.le_trans h (by decide))
def mkD (k : Bool) (l : List D) : D := match k with | true => .lst l | false => .tup l
abbrev rowD (k : Bool) (r : List Int) : D := mkD k (r.map .int)
abbrev rowsD (k j : Bool) (X : Mt) : D := mkD k (X.map (rowD j))
section
variable {k : Bool} {l : List D} {e : DEnv} {i : Int}
theorem a_itK : itemsD (mkD k l) = some l := by cases k <;> rfl
theorem a_dIxK : dIx (mkD k l) i e = oM (atI l i) e := by cases k <;> rfl
theorem a_lenK : cLen [mkD k l] e = .ok (.int l.length) e := by cases k <;> rfl
theorem a_tupleK : cTuple [mkD k l] e = .ok (.tup l) e := by cases k <;> rfl
theorem a_listK : cList [mkD k l] e = .ok (.lst l) e := by cases k <;> rfl
def sqD (d : D) : M (List D) := match d with | .lst l => ret l | .tup l => ret l | .str z => ret (signsD z) | _ => stk
theorem a_seqN {f : M D} : mSeq f e = rB (f e) sqD := rfl
theorem a_sqL : sqD (.lst l) e = .ok l e := rfl
theorem a_sqT : sqD (.tup l) e = .ok l e := rfl
theorem a_sqS {z : Str} : sqD (.str z) e = .ok (signsD z) e := rfl
theorem a_sqK : sqD (mkD k l) e = .ok l e := by cases k <;> rfl
theorem mSeq_K {f : M D} {e e' : DEnv} (h : f e = .ok (mkD k l) e') : mSeq f e = .ok l e' := by
  unfold mSeq; rw [bnd_ok h]; cases k <;> rfl
end
theorem zipD_map {α β : Type} (f : α → D) (g : β → D) (xs : List α) (ys : List β) : zipD (xs.map f) (ys.map g) = (xs.zip ys).map fun p => .tup [f p.1, g p.2] := by
  unfold zipD
  rw [List.zip_map, List.map_map]
  rfl
theorem enD_map {α : Type} (f : α → D) (xs : List α) : enD (xs.map f) = (List.range xs.length).map fun k => .tup [.int (k : Nat), (xs.map f).getD k .non] := by
  unfold enD
  rw [List.length_map]
/-- every number within B bits -/
def Bd (B : Nat) (X : Mt) : Prop := ∀ r ∈ X, ∀ x ∈ r, ib x ≤ B
def Wd (n : Nat) (X : Mt) : Prop := ∀ r ∈ X, r.length = n
theorem getD_mem {α : Type} {l : List α} {k : Nat} {d : α} (h : k < l.length) : l.getD k d ∈ l := by
  rw [List.getD_eq_getElem?_getD, List.getElem?_eq_getElem h]; exact List.getElem_mem h
/-- row r times column c of Y -/
def dt (r : List Int) (Y : Mt) (c : Nat) : Int := ((r.zip Y).map fun p => p.1 * p.2.getD c 0).sum
def pmt (X Y : Mt) : Mt := X.map fun r => (List.range (Y.headD []).length).map fun c => dt r Y c
theorem pmt_len {X Y : Mt} : (pmt X Y).length = X.length := List.length_map _
theorem pmt_wd {X Y : Mt} : Wd (Y.headD []).length (pmt X Y) := fun r h => by
  obtain ⟨x, _, rfl⟩ := List.mem_map.mp h
  rw [List.length_map, List.length_range]
theorem getD_range {α : Type} {f : Nat → α} {n k : Nat} {d : α} (h : k < n) : ((List.range n).map f).getD k d = f k := by
  rw [List.getD_eq_getElem?_getD, List.getElem?_map, List.getElem?_range h]; rfl
theorem pmt_at {X Y : Mt} {i c : Nat} (hi : i < X.length) (hc : c < (Y.headD []).length) : ((pmt X Y).getD i []).getD c 0 = dt (X.getD i []) Y c := by
  have h1 : (pmt X Y).getD i [] = (List.range (Y.headD []).length).map fun c => dt (X.getD i []) Y c := by
    unfold pmt
    rw [List.getD_eq_getElem?_getD, List.getElem?_map, List.getD_eq_getElem?_getD, List.getElem?_eq_getElem hi]
    rfl
  rw [h1, getD_range hc]
theorem zip_sum (f : Int → List Int → Int) : ∀ (r : List Int) (Y : Mt), r.length = Y.length → ((r.zip Y).map fun p => f p.1 p.2).sum = ((List.range Y.length).map fun j => f (r.getD j 0) (Y.getD j [])).sum
  | [], [], _ => rfl
  | [], _ :: _, h => by simp at h
  | _ :: _, [], h => by simp at h
  | x :: r, y :: Y, h => by
    rw [List.length_cons, List.range_succ_eq_map, List.map_cons, List.map_map, List.sum_cons, List.zip_cons_cons, List.map_cons, List.sum_cons, zip_sum f r Y (by simpa using h)]
    rfl
theorem dt_eq {r : List Int} {Y : Mt} {c : Nat} (h : r.length = Y.length) : dt r Y c = ((List.range Y.length).map fun j => r.getD j 0 * (Y.getD j []).getD c 0).sum := zip_sum (fun x y => x * y.getD c 0) r Y h
theorem getD_ib {r : List Int} {B c : Nat} (h : ∀ x ∈ r, ib x ≤ B) : ib (r.getD c 0) ≤ B := by
  by_cases hc : c < r.length
  · exact h _ (getD_mem hc)
  · rw [List.getD_eq_getElem?_getD, List.getElem?_eq_none (by omega)]; exact Nat.le_trans (by decide : ib 0 ≤ 0) (Nat.zero_le _)
theorem dt_bits {r : List Int} {Y : Mt} {c B B' : Nat} (hr : ∀ x ∈ r, ib x ≤ B) (hY : Bd B' Y) : ib (dt r Y c) ≤ B + B' + Y.length := by
  unfold dt
  refine Nat.le_trans (sum_bits (m := B + B') _ fun x hx => ?_) ?_
  · obtain ⟨p, hp, rfl⟩ := List.mem_map.mp hx
    obtain ⟨h1, h2⟩ := List.of_mem_zip (a := p.1) (b := p.2) hp
    exact intBits_mul_le (hr _ h1) (getD_ib (hY _ h2))
  · rw [List.length_map, List.length_zip]; omega
theorem pmt_bits {X Y : Mt} {B B' : Nat} (hX : Bd B X) (hY : Bd B' Y) : Bd (B + B' + Y.length) (pmt X Y) := fun r h x hx => by
  obtain ⟨r0, h0, rfl⟩ := List.mem_map.mp h
  obtain ⟨c, _, rfl⟩ := List.mem_map.mp hx
  exact dt_bits (hX _ h0) hY
theorem pl_mk {n : Nat} {k : Bool} {l : List D} (h : ∀ d ∈ l, D.pl n d = true) : D.pl (n + 1) (mkD k l) = true := by
  cases k <;> exact List.all_eq_true.mpr h
theorem pl_row {n : Nat} {k : Bool} {r : List Int} : D.pl (n + 1) (rowD k r) = true := pl_mk (pl_ints r)
theorem pl_rows {n : Nat} {k j : Bool} {X : Mt} : D.pl (n + 2) (rowsD k j X) = true := pl_mk fun d h => by
  obtain ⟨r, _, rfl⟩ := List.mem_map.mp h
  exact pl_row
end DL

local macro_rules | `(tactic| walk_at "dl") => `(tactic| try simp -implicitDefEqProofs only [Bool.true_eq_false, DL.wipeE, DL.at0, DL.at1, DL.at2, DL.nc0, DL.nc1, DL.nc2, DL.nc3, DL.nc4, DL.nc5, not_true_eq_false, not_false_eq_true, eq_self, ne_eq,  DL.sz0, DL.sz1, DL.sz2, DL.sz3, DL.sz4, DL.sz5, DL.sz6, DL.a_listL, DL.a_listT, DL.a_tupleL, DL.a_tupleT, DL.a_sum, DL.a_isiT, DL.a_isiL, DL.a_isiS, DL.k_tt, DL.k_lt, DL.k_tl, DL.k_ll, DL.k_it, DL.k_il, DL.k_ss, DL.k_st, DL.k_ti, DL.k_li, DL.k_tb, DL.k_lb, DL.a_isE, DL.a_callE, DL.a_reok, DL.a_try, DL.a_tok, DL.a_texc, DL.a_cT, DL.a_cF, DL.a_unN, DL.a_unR, DL.a_slice, DL.a_oNone, DL.a_oSome, DL.a_dSlL, DL.a_dSlT, DL.a_ret, DL.a_stk, DL.a_bnd, DL.a_rok, DL.a_rexc, DL.a_rst, DL.a_rite, DL.a_var, DL.a_oval, DL.a_oown, DL.a_m2, DL.a_g2i, DL.a_add, DL.a_mAdd, DL.a_sub, DL.a_mul, DL.a_div, DL.a_mod, DL.a_pow, DL.a_shr, DL.a_cmp, DL.a_eq, DL.a_ne, DL.eqOk_ii, DL.deq_ii, DL.a_u1i, DL.a_mB, DL.a_truB, DL.a_truI, DL.a_truN, DL.a_truL, DL.a_truT, DL.a_bAnd, DL.a_bOr, DL.a_bNot, DL.a_vAnd, DL.a_vOr, DL.a_vNot, DL.a_if, DL.a_ite, DL.a_aNil, DL.a_aCons, DL.a_tup, DL.a_lst, DL.a_c1i, DL.a_c2i, DL.a_cIntI, DL.a_cIntB, DL.a_lenL, DL.a_lenT, DL.a_lenS, DL.a_nx, DL.a_sq, DL.a_snx, DL.a_srt, DL.a_sbk, DL.a_sct, DL.a_sexc, DL.a_sst, DL.a_site, DL.a_asg, DL.a_mRet, DL.a_drop, DL.a_aug, DL.a_oA, DL.a_gN, DL.a_gsNil, DL.a_gsCons, DL.a_gTpT, DL.a_gTpL, DL.a_asgT, DL.a_par, DL.a_again, DL.a_gnx, DL.a_gct, DL.a_gbk, DL.a_grt, DL.a_gexc, DL.a_gite, DL.a_rng1, DL.a_rng2, DL.a_raise, DL.a_call, DL.a_rsok, DL.a_rsexc, DL.a_rsst, DL.a_has, DL.a_hval, DL.a_hown, DL.a_onSl, DL.a_slD, DL.a_oDv, DL.a_oDo, DL.a_oDs, DL.a_ixN, DL.a_mIxI, DL.a_dIxL, DL.a_dIxT, DL.a_oM, DL.a_isiI, DL.a_isiB, DL.a_kM, DL.k_ii, DL.k_ib, DL.k_bi, DL.k_bb, DL.a_runF, DL.a_rFrt, DL.a_rFnx, DL.a_rFexc, DL.a_rFite, DL.envOf, List.map_cons, List.map_nil, List.length_cons, List.length_nil, List.cons_append, List.nil_append, List.getElem?_cons_zero, List.getElem?_cons_succ, List.set_cons_zero, List.set_cons_succ, List.replicate, if_true, if_false, Bool.false_eq_true, reduceIte, List.length_map, Nat.reduceAdd, Nat.reduceSub, Nat.zero_add, decide_eq_true_eq, Bool.not_eq_true', decide_eq_false_iff_not, Bool.not_true, Bool.not_false, DL.a_xStr, DL.a_dSplit, DL.a_dJoinL, DL.a_dJoinT, DL.a_dIn, DL.a_inF, DL.a_inT, DL.sgn_one, DL.a_mOwn, DL.a_mFl, DL.a_unL, DL.a_uLok, DL.a_ownAt, DL.a_oOw, DL.a_app, DL.a_aP, DL.a_kApp, DL.a_kA, DL.a_setI, DL.a_sI, DL.a_kSet, DL.a_kS, DL.a_kN, DL.a_frz1, DL.a_fZ, DL.a_rng3, DL.a_mAddS, DL.a_mAddL, DL.a_dIxS, DL.a_dSlS, DL.isN_n, DL.isN_t, DL.isN_l, DL.isN_i, DL.isN_s, DL.at3, DL.at4, DL.at5, DL.at6, DL.at7, DL.a_cStr, DL.a_cMaxL, DL.a_ext, DL.a_eP, DL.a_kExt, DL.a_kE, DL.a_sro, DL.a_gro, DL.a_rFro, DL.a_retF, DL.a_take, DL.a_oT, DL.a_callO, DL.a_rsOok, DL.a_rsOexc, DL.a_runO, DL.a_rOro, DL.a_rOexc, DL.a_lend, DL.a_lDi, DL.a_lDb, DL.a_lDn, DL.a_lDx, DL.a_shn, DL.a_shc, DL.a_sh1v, DL.a_sh1n, DL.a_sh1o, DL.a_clr, DL.a_cM, DL.a_enu, DL.a_enO, DL.a_cListFl, DL.a_cListFt, DL.a_try1, DL.a_tok1, DL.a_texc1, DL.a_cT1, DL.a_cF1, DL.a_unTok, DL.a_zipM, DL.a_itL, DL.a_itT, DL.a_zip2, DL.a_itK, DL.a_dIxK, DL.a_lenK, DL.a_tupleK, DL.a_listK, DL.a_seqN, DL.a_sqL, DL.a_sqT, DL.a_sqS, DL.a_sqK, DL.a_oownR, DL.a_rowsAt, DL.a_rA, DL.a_ownR, DL.a_setRR, DL.a_rowIx, DL.a_rIx, DL.a_kRow, DL.a_kRw, DL.a_oNt, DL.a_hid, DL.a_hD, DL.a_hE, DL.a_hN, DL.a_kSetRR, DL.a_kSr, DL.a_kSl, DL.a_kSi, DL.a_sh1r, DL.a_fZr, DL.a_forR, DL.a_fRw, DL.a_rowG0, DL.a_rowG1, DL.a_rowG2, DL.a_rowG3, DL.a_row1, DL.a_r1s, DL.a_r1o, DL.a_r1a, DL.a_r1b, DL.a_r1c, DL.a_r1e, DL.ix20, DL.ix21, DL.ix30, DL.ix31, DL.ix32, DL.a_appR, DL.a_kAppR, DL.a_kAr, DL.a_kAl, DL.a_popR, DL.a_kPopR, DL.a_kPr, DL.a_kPl, DL.a_iR, DL.a_rpop, DL.a_kRPop, DL.a_rapp, DL.a_kRApp, DL.a_kRa, DL.a_rset, DL.a_kRset1, DL.a_kRSet, DL.a_kRs, DL.a_kRs2])
local macro_rules | `(tactic| walk_at "dx") => `(tactic| try simp -implicitDefEqProofs only [Bool.true_eq_false, DL.wipeE, DL.at0, DL.at1, DL.at2, DL.nc0, DL.nc1, DL.nc2, DL.nc3, DL.nc4, DL.nc5, not_true_eq_false, not_false_eq_true, eq_self, ne_eq,  DL.sz0, DL.sz1, DL.sz2, DL.sz3, DL.sz4, DL.sz5, DL.sz6, DL.a_listL, DL.a_listT, DL.a_tupleL, DL.a_tupleT, DL.a_sum, DL.a_isiT, DL.a_isiL, DL.a_isiS, DL.k_tt, DL.k_lt, DL.k_tl, DL.k_ll, DL.k_it, DL.k_il, DL.k_ss, DL.k_st, DL.k_ti, DL.k_li, DL.k_tb, DL.k_lb, DL.a_isE, DL.a_callE, DL.a_reok, DL.a_try, DL.a_tok, DL.a_texc, DL.a_cT, DL.a_cF, DL.a_unN, DL.a_unR, DL.a_slice, DL.a_oNone, DL.a_oSome, DL.a_dSlL, DL.a_dSlT, DL.a_ret, DL.a_stk, DL.a_bnd, DL.a_rok, DL.a_rexc, DL.a_rst, DL.a_rite, DL.a_var, DL.a_oval, DL.a_oown, DL.a_m2, DL.a_g2i, DL.a_add, DL.a_mAdd, DL.a_sub, DL.a_mul, DL.a_div, DL.a_mod, DL.a_pow, DL.a_shr, DL.a_cmp, DL.a_eq, DL.a_ne, DL.eqOk_ii, DL.deq_ii, DL.a_u1i, DL.a_mB, DL.a_truB, DL.a_truI, DL.a_truN, DL.a_truL, DL.a_truT, DL.a_bAnd, DL.a_bOr, DL.a_bNot, DL.a_vAnd, DL.a_vOr, DL.a_vNot, DL.a_if, DL.a_ite, DL.a_aNil, DL.a_aCons, DL.a_tup, DL.a_lst, DL.a_c1i, DL.a_c2i, DL.a_cIntI, DL.a_cIntB, DL.a_lenL, DL.a_lenT, DL.a_lenS, DL.a_nx, DL.a_sq, DL.a_snx, DL.a_srt, DL.a_sbk, DL.a_sct, DL.a_sexc, DL.a_sst, DL.a_site, DL.a_asg, DL.a_mRet, DL.a_drop, DL.a_aug, DL.a_oA, DL.a_gN, DL.a_gsNil, DL.a_gsCons, DL.a_gTpT, DL.a_gTpL, DL.a_asgT, DL.a_par, DL.a_again, DL.a_gnx, DL.a_gct, DL.a_gbk, DL.a_grt, DL.a_gexc, DL.a_gite, DL.a_rng1, DL.a_rng2, DL.a_raise, DL.a_call, DL.a_rsok, DL.a_rsexc, DL.a_rsst, DL.a_has, DL.a_hval, DL.a_hown, DL.a_onSl, DL.a_slD, DL.a_oDv, DL.a_oDo, DL.a_oDs, DL.a_ixN, DL.a_mIxI, DL.a_dIxL, DL.a_dIxT, DL.a_oM, DL.a_isiI, DL.a_isiB, DL.a_kM, DL.k_ii, DL.k_ib, DL.k_bi, DL.k_bb, DL.a_runF, DL.a_rFrt, DL.a_rFnx, DL.a_rFexc, DL.a_rFite, DL.envOf, List.map_cons, List.map_nil, List.length_cons, List.length_nil, List.cons_append, List.nil_append, List.getElem?_cons_zero, List.getElem?_cons_succ, List.set_cons_zero, List.set_cons_succ, List.replicate, if_true, if_false, Bool.false_eq_true, reduceIte, List.length_map, Nat.reduceAdd, Nat.reduceSub, Nat.zero_add, decide_eq_true_eq, Bool.not_eq_true', decide_eq_false_iff_not, Bool.not_true, Bool.not_false, DL.a_xStr, DL.a_dSplit, DL.a_dJoinL, DL.a_dJoinT, DL.a_dIn, DL.a_inF, DL.a_inT, DL.sgn_one, DL.a_mOwn, DL.a_mFl, DL.a_unL, DL.a_uLok, DL.a_ownAt, DL.a_oOw, DL.a_app, DL.a_aP, DL.a_kApp, DL.a_kA, DL.a_setI, DL.a_sI, DL.a_kSet, DL.a_kS, DL.a_kN, DL.a_frz1, DL.a_fZ, DL.a_rng3, DL.a_mAddS, DL.a_mAddL, DL.a_dIxS, DL.a_dSlS, DL.isN_n, DL.isN_t, DL.isN_l, DL.isN_i, DL.isN_s, DL.at3, DL.at4, DL.at5, DL.at6, DL.at7, DL.a_cStr, DL.a_cMaxL, DL.a_ext, DL.a_eP, DL.a_kExt, DL.a_kE, DL.a_sro, DL.a_gro, DL.a_rFro, DL.a_retF, DL.a_take, DL.a_oT, DL.a_callO, DL.a_rsOok, DL.a_rsOexc, DL.a_runO, DL.a_rOro, DL.a_rOexc, DL.a_lend, DL.a_lDi, DL.a_lDb, DL.a_lDn, DL.a_lDx, DL.a_shn, DL.a_shc, DL.a_sh1v, DL.a_sh1n, DL.a_sh1o, DL.a_clr, DL.a_cM, DL.a_enu, DL.a_enO, DL.a_cListFl, DL.a_cListFt, DL.a_try1, DL.a_tok1, DL.a_texc1, DL.a_cT1, DL.a_cF1, DL.a_unTok, DL.a_zipM, DL.a_itL, DL.a_itT, DL.a_zip2, DL.a_itK, DL.a_dIxK, DL.a_lenK, DL.a_tupleK, DL.a_listK, DL.a_seqN, DL.a_sqL, DL.a_sqT, DL.a_sqS, DL.a_sqK, DL.a_oownR, DL.a_rowsAt, DL.a_rA, DL.a_ownR, DL.a_setRR, DL.a_rowIx, DL.a_rIx, DL.a_kRow, DL.a_kRw, DL.a_oNt, DL.a_hid, DL.a_hD, DL.a_hE, DL.a_hN, DL.a_kSetRR, DL.a_kSr, DL.a_kSl, DL.a_kSi, DL.a_sh1r, DL.a_fZr, DL.a_forR, DL.a_fRw, DL.a_rowG0, DL.a_rowG1, DL.a_rowG2, DL.a_rowG3, DL.a_row1, DL.a_r1s, DL.a_r1o, DL.a_r1a, DL.a_r1b, DL.a_r1c, DL.a_r1e, DL.ix20, DL.ix21, DL.ix30, DL.ix31, DL.ix32, DL.a_appR, DL.a_kAppR, DL.a_kAr, DL.a_kAl, DL.a_popR, DL.a_kPopR, DL.a_kPr, DL.a_kPl, DL.a_iR, DL.a_rpop, DL.a_kRPop, DL.a_rapp, DL.a_kRApp, DL.a_kRa, DL.a_rset, DL.a_kRset1, DL.a_kRSet, DL.a_kRs, DL.a_kRs2, and_self, *])
/-! DSm: what take_row, turn_signs' loop and least_at come to. -/
namespace DL
open PySem PySem.Spec PyProof.Rows L2
noncomputable def bTakeRow : M Fl :=
  (mRSet 0 (mVar 1) (mLendF (unL (mLc [4, 5] (mZipM (aCons (mIxN 0 (mVar 1)) (aCons (mIxN 0 (mVar 2)) aNil))) (gTp 2 (gsCons (gN 4) (gsCons (gN 5) gsNil))) (ret true) (m2 (mVar 4) (m2 (mVar 3) (mVar 5) (g2i iMul)) (g2i iSub))))))
noncomputable def bTurn : M Fl :=
  (mRSet 2 (mVar 1) (mLendF (unL (mLc [3] (mSeq (mIxN 2 (mVar 1))) (gN 3) (ret true) (bnd (mVar 3) (u1i fun i => ret (.int (-i))))))))
noncomputable def bLeastLoop : M Fl := (mIf (bAnd (bnd (m2 (m2 (mIxN 0 (mVar 4)) (mVar 2) mIx) (ret (.int 0)) mNe) mB) (bOr (bnd (mVar 3) fun x => ret (isNon x)) (bnd (m2 (bnd (aCons (m2 (mIxN 0 (mVar 4)) (mVar 2) mIx) aNil) (c1i fun i => ret (.int (iAbs i)))) (bnd (aCons (m2 (mIxN 0 (mVar 3)) (mVar 2) mIx) aNil) (c1i fun i => ret (.int (iAbs i)))) (g2i (iCmp fun i j => decide (i < j)))) mB))) (mAsg 3 (mVar 4)) nx)
noncomputable def bLeast : M Fl :=
  (sq (mAsg 3 (ret .non))
  (sq (bnd (mRng2 (aCons (mVar 1) (aCons (has 0 (onSl 0 fun d => cLen [d])) aNil))) (forL (gN 4) bLeastLoop))
  (mRet (mVar 3))))
theorem zipI_eq : ∀ (r s : List Int) (q : Int), zipI r s q = (r.zip s).map fun p => p.1 - q * p.2
  | [], _, _ => by cases ‹List Int› <;> rfl
  | _ :: _, [], _ => rfl
  | a :: r, b :: s, q => by
    show _ :: zipI r s q = _
    rw [zipI_eq r s q]; rfl
theorem mx_at {L : Mx} {i : Nat} {l : List Int} (h : L[i]? = some l) : atI ((mxD L).map D.lst) (i : Int) = some (.lst (l.map .int)) := by
  refine atI_nat ?_
  unfold mxD
  rw [List.map_map, List.getElem?_map, h]; rfl
theorem mx_set {L : Mx} {i : Nat} {l : List Int} : (mxD L).set i (l.map D.int) = mxD (L.set i l) := by
  unfold mxD; rw [List.map_set]
theorem getD_of {L : Mx} {i : Nat} {l : List Int} (h : L[i]? = some l) : L.getD i [] = l := by
  rw [List.getD_eq_getElem?_getD, h]; rfl
theorem mLendF_of {f : M (List D)} {e e' : DEnv} {l : List D} (h : f (shw e) = .ok l e') (hp : l.all D.plain = true) : mLendF f e = .ok l e := by
  unfold mLendF; rw [h]; dsimp only; rw [if_pos hp]
theorem ints_plain {l : List Int} : (l.map D.int).all D.plain = true := by
  rw [List.all_eq_true]
  intro d hd
  obtain ⟨n, _, rfl⟩ := List.mem_map.mp hd
  rfl
theorem set_backE {e : DEnv} {i : Nat} {x : Sl} (h : e[i]? = some x) : e.set i x = e := by
  apply List.ext_getElem?
  intro j
  by_cases hj : i = j
  · subst hj; rw [List.getElem?_set_self (List.getElem?_eq_some_iff.mp h).1, h]
  · rw [List.getElem?_set_ne hj]
theorem rset_of {n m : Nat} {k : Option Nat} {ll : List (List D)} {fb : M D} {f : M (List D)} {e : DEnv} {ds : List D} {j : Int} (hn : e[n]? = some (.own k (.rows ll))) (hf : f e = .ok ds e) (hb : fb (e.set n .no) = .ok (.int j) (e.set n .no)) (hx : ixN ll.length j = some m) :
    mRSet n fb f e = .ok .nx (e.set n (.own k (.rows (ll.set m ds)))) := by
  have hr : rowsAt e n = some (k, ll) := by unfold rowsAt; rw [hn]
  have hl : n < e.length := (List.getElem?_eq_some_iff.mp hn).1
  unfold mRSet
  rw [bnd_ok hf, hr]
  have h1 : hid n fb e = .ok (.int j) e := by
    unfold hid
    rw [hr]
    dsimp only
    rw [hb]
    dsimp only
    rw [List.getElem?_set_self hl]
    dsimp only
    rw [List.set_set]
    congr 1
    exact set_backE hn
  rw [bnd_ok h1]
  unfold kRSet
  rw [hr]
  dsimp only
  rw [hx]
theorem takeRow_eq {L : Mx} {i j : Nat} {q : Int} (h : okRow L i j q) : runM 6 bTakeRow (rw3 L) [.int i, .int j, .int q] = .ok .non (rw3 (tkRow L i j q)) := by
  obtain ⟨hi, hj, hm, hz⟩ := h
  have gi := List.getElem?_eq_getElem hi
  have gj := List.getElem?_eq_getElem hj
  rw [getD_of gj] at hm
  rw [getD_of gi] at hz
  have a1 := mx_at gi
  have a2 := mx_at gj
  generalize L[i] = li at *
  generalize L[j] = lj at *
  have L1 : mLc [4, 5] (mZipM (aCons (mIxN 0 (mVar 1)) (aCons (mIxN 0 (mVar 2)) aNil))) (gTp 2 (gsCons (gN 4) (gsCons (gN 5) gsNil))) (ret true) (m2 (mVar 4) (m2 (mVar 3) (mVar 5) (g2i iMul)) (g2i iSub)) [.val (.lst ((mxD L).map .lst)), .val (.int i), .val (.int j), .val (.int q), .no, .no] = .ok (.lst ((zipI li lj q).map .int)) [.val (.lst ((mxD L).map .lst)), .val (.int i), .val (.int j), .val (.int q), .no, .no] := by
    have k := mLc_gen (vs := [4, 5]) (fi := mZipM (aCons (mIxN 0 (mVar 1)) (aCons (mIxN 0 (mVar 2)) aNil))) (g := gTp 2 (gsCons (gN 4) (gsCons (gN 5) gsNil))) (el := m2 (mVar 4) (m2 (mVar 3) (mVar 5) (g2i iMul)) (g2i iSub)) (e := [.val (.lst ((mxD L).map .lst)), .val (.int i), .val (.int j), .val (.int q), .no, .no]) (e0 := [.val (.lst ((mxD L).map .lst)), .val (.int i), .val (.int j), .val (.int q), .no, .no])
      (li.zip lj) (fun p => .tup [.int p.1, .int p.2]) (fun p => .int (p.1 - q * p.2)) (by
        walk_at "dl"
        rw [a1]
        walk_at "dl"
        rw [a2]
        walk_at "dl"
        rw [zipD_map]) rfl rfl (by rw [List.length_zip]; omega) fun p hp => by
      obtain ⟨h1, h2⟩ := List.of_mem_zip (a := p.1) (b := p.2) hp
      have qq := hm _ h2
      refine ⟨[.val (.lst ((mxD L).map .lst)), .val (.int i), .val (.int j), .val (.int q), .val (.int p.1), .val (.int p.2)], [.val (.lst ((mxD L).map .lst)), .val (.int i), .val (.int j), .val (.int q), .val (.int p.1), .val (.int p.2)], by walk_at "dl", ?_, rfl⟩
      walk_at "dl"
      rw [if_pos qq]
      walk_at "dl"
    rw [k, zipI_eq, List.map_map]
    rfl
  have e0 : envM 6 (rw3 L) [.int i, .int j, .int q] = [.own (some 0) (rw3 L), .val (.int i), .val (.int j), .val (.int q), .no, .no] := rfl
  have f1 : mLendF (unL (mLc [4, 5] (mZipM (aCons (mIxN 0 (mVar 1)) (aCons (mIxN 0 (mVar 2)) aNil))) (gTp 2 (gsCons (gN 4) (gsCons (gN 5) gsNil))) (ret true) (m2 (mVar 4) (m2 (mVar 3) (mVar 5) (g2i iMul)) (g2i iSub)))) [.own (some 0) (rw3 L), .val (.int i), .val (.int j), .val (.int q), .no, .no] = .ok ((zipI li lj q).map .int) [.own (some 0) (rw3 L), .val (.int i), .val (.int j), .val (.int q), .no, .no] := by
    refine mLendF_of (e' := [.val (.lst ((mxD L).map .lst)), .val (.int i), .val (.int j), .val (.int q), .no, .no]) ?_ ints_plain
    show unL _ [.val (.lst ((mxD L).map .lst)), .val (.int i), .val (.int j), .val (.int q), .no, .no] = _
    rw [a_unL, L1]; rfl
  unfold runM bTakeRow
  rw [e0, rset_of (fb := mVar 1) (k := some 0) (ll := mxD L) (j := (i : Int)) (m := i) rfl f1 rfl (ixN_nat (by unfold mxD; rw [List.length_map]; exact hi)), mx_set]
  have et : tkRow L i j q = L.set i (zipI li lj q) := by unfold tkRow; rw [getD_of gi, getD_of gj]
  rw [et]
  rfl
theorem turn_eq {L : Mx} {i : Nat} (hi : i < L.length) (hz : (L.getD i []).length ≤ sizeLine) : bTurn [.no, .val (.int i), .own (some 0) (rw3 L), .no] = .ok .nx [.no, .val (.int i), .own (some 0) (rw3 (ngRow L i)), .no] := by
  have gi := List.getElem?_eq_getElem hi
  rw [getD_of gi] at hz
  have a1 := mx_at gi
  generalize L[i] = li at *
  have L1 : mLc [3] (mSeq (mIxN 2 (mVar 1))) (gN 3) (ret true) (bnd (mVar 3) (u1i fun i => ret (.int (-i)))) [.no, .val (.int i), .val (.lst ((mxD L).map .lst)), .no] = .ok (.lst ((li.map fun n => -n).map .int)) [.no, .val (.int i), .val (.lst ((mxD L).map .lst)), .no] :=
    mLc_ints (vs := [3]) (fun n => -n) (by
      walk_at "dl"
      rw [a1]
      walk_at "dl") rfl rfl hz fun x _ => ⟨_, _, rfl, by walk_at "dl"; rfl, by rfl⟩
  have f1 : mLendF (unL (mLc [3] (mSeq (mIxN 2 (mVar 1))) (gN 3) (ret true) (bnd (mVar 3) (u1i fun i => ret (.int (-i)))))) [.no, .val (.int i), .own (some 0) (rw3 L), .no] = .ok ((li.map fun n => -n).map .int) [.no, .val (.int i), .own (some 0) (rw3 L), .no] := by
    refine mLendF_of (e' := [.no, .val (.int i), .val (.lst ((mxD L).map .lst)), .no]) ?_ ints_plain
    show unL _ [.no, .val (.int i), .val (.lst ((mxD L).map .lst)), .no] = _
    rw [a_unL, L1]; rfl
  unfold bTurn
  rw [rset_of (fb := mVar 1) (k := some 0) (ll := mxD L) (j := (i : Int)) (m := i) rfl f1 rfl (ixN_nat (by unfold mxD; rw [List.length_map]; exact hi)), mx_set]
  have et : ngRow L i = L.set i (li.map fun n => -n) := by unfold ngRow; rw [getD_of gi]
  rw [et]
  rfl
theorem rdD_at {F : Mx} {i k : Nat} (h : (rdM F i k).isSome = true) : ∃ l : List Int, atI ((mxD F).map D.lst) (i : Int) = some (.lst (l.map .int)) ∧ atI (l.map D.int) (k : Int) = some (.int (rdD F i k)) := by
  have e := rd_some h
  unfold rdM at e
  cases q : F[i]? with
  | none => rw [q] at e; cases e
  | some l =>
    rw [q] at e
    have e : l[k]? = some (rdD F i k) := e
    exact ⟨l, mx_at q, atI_nat (by rw [List.getElem?_map, e]; rfl)⟩
theorem least_eq {F : Mx} {top k : Nat} (h : OkL F top k) : runF 5 bLeast [.lst ((mxD F).map D.lst), .int top, .int k] = .ok (atD (leastAt F top k)) := by
  obtain ⟨h1, h2, h3⟩ := h
  have step : ∀ (i : Nat) (acc : Option Nat) (x4 : Sl), i < F.length → (∀ j, acc = some j → j < F.length) → bLeastLoop [.val (.lst ((mxD F).map .lst)), .val (.int top), .val (.int k), .val (atD acc), .val (.int i)] = .ok .nx [.val (.lst ((mxD F).map .lst)), .val (.int top), .val (.int k), .val (atD (lstep F k acc i)), .val (.int i)] := by
    intro i acc x4 hi hacc
    obtain ⟨l, a1, a2⟩ := rdD_at (h3 i hi)
    have ab : ∀ a b : Int, (iAbs a < iAbs b) = (a.natAbs < b.natAbs) := fun a b => propext (by unfold iAbs; split <;> split <;> omega)
    cases acc with
    | none =>
      show bLeastLoop [.val (.lst ((mxD F).map .lst)), .val (.int top), .val (.int k), .val .non, .val (.int i)] = _
      by_cases hz : rdD F i k = 0
      · have e : lstep F k none i = none := if_neg fun z => z.1 hz
        rw [e]
        show _ = Res.ok Fl.nx [.val (.lst ((mxD F).map .lst)), .val (.int top), .val (.int k), .val .non, .val (.int i)]
        clear hacc h3
        unfold bLeastLoop
        walk_at "dx"
      · have e : lstep F k none i = some i := if_pos ⟨hz, fun j hj => by cases hj⟩
        rw [e]
        show _ = Res.ok Fl.nx [.val (.lst ((mxD F).map .lst)), .val (.int top), .val (.int k), .val (.int i), .val (.int i)]
        clear hacc h3
        unfold bLeastLoop
        walk_at "dx"
    | some j =>
      show bLeastLoop [.val (.lst ((mxD F).map .lst)), .val (.int top), .val (.int k), .val (.int j), .val (.int i)] = _
      obtain ⟨l2, b1, b2⟩ := rdD_at (h3 j (hacc j rfl))
      by_cases hz : rdD F i k = 0
      · have e : lstep F k (some j) i = some j := if_neg fun z => z.1 hz
        rw [e]
        show _ = Res.ok Fl.nx [.val (.lst ((mxD F).map .lst)), .val (.int top), .val (.int k), .val (.int j), .val (.int i)]
        clear hacc h3
        unfold bLeastLoop
        walk_at "dx"
      · by_cases hc : (rdD F i k).natAbs < (rdD F j k).natAbs
        · have e : lstep F k (some j) i = some i := if_pos ⟨hz, fun j' hj => by cases hj; exact hc⟩
          rw [e]
          show _ = Res.ok Fl.nx [.val (.lst ((mxD F).map .lst)), .val (.int top), .val (.int k), .val (.int i), .val (.int i)]
          clear hacc h3
          unfold bLeastLoop
          walk_at "dx"
        · have e : lstep F k (some j) i = some j := if_neg fun z => hc (z.2 j rfl)
          rw [e]
          show _ = Res.ok Fl.nx [.val (.lst ((mxD F).map .lst)), .val (.int top), .val (.int k), .val (.int j), .val (.int i)]
          clear hacc h3
          unfold bLeastLoop
          walk_at "dx"
  have bound : ∀ (n : Nat) (l : List Nat) (acc : Option Nat), (∀ i ∈ l, i < F.length) → (∀ j, acc = some j → j < F.length) → ∀ j, l.foldl (lstep F k) acc = some j → j < F.length := by
    intro n l
    induction l with
    | nil => intro acc _ h; exact h
    | cons i r ih =>
      intro acc hl h
      refine ih _ (fun i hi => hl i (List.mem_cons_of_mem _ hi)) fun j hj => ?_
      unfold lstep at hj
      split at hj
      · cases hj; exact hl _ List.mem_cons_self
      · exact h j hj
  unfold bLeast
  walk_at "dl"
  have hlen : (mxD F).length = F.length := by unfold mxD; simp
  rw [hlen, if_pos ⟨by unfold rOk; omega, by unfold rOk; omega⟩]
  have hn : ((F.length : Int) - (top : Int)).toNat = F.length - top := by omega
  rw [hn]
  obtain ⟨e', q1, x4, q2⟩ := forL_rng (g := gN 4) (b := bLeastLoop) (lo := (top : Int)) (m := F.length - top) (fun n e => ∃ x4, e = [.val (.lst ((mxD F).map .lst)), .val (.int top), .val (.int k), .val (atD ((List.range' top n).foldl (lstep F k) none)), x4]) (e := [.val (.lst ((mxD F).map .lst)), .val (.int top), .val (.int k), .val .non, .no]) ⟨.no, rfl⟩ (fun n hn e he => by
    obtain ⟨x4, rfl⟩ := he
    have st := step (top + n) ((List.range' top n).foldl (lstep F k) none) x4 (by omega) (bound n (List.range' top n) none (fun i hi => by
      rw [List.mem_range'] at hi
      obtain ⟨m, h, rfl⟩ := hi; omega) (fun j hj => by cases hj))
    have e1 : (List.range' top (n + 1)).foldl (lstep F k) none = lstep F k ((List.range' top n).foldl (lstep F k) none) (top + n) := by
      rw [List.range'_concat, List.foldl_append, Nat.one_mul]; rfl
    rw [e1]
    exact ⟨[.val (.lst ((mxD F).map .lst)), .val (.int top), .val (.int k), .val (atD ((List.range' top n).foldl (lstep F k) none)), .val (.int ((top : Int) + (n : Int)))], _, rfl, .inl st, _, rfl⟩)
  rw [q1, q2]
  show rF (mRet (mVar 3) _) = _
  walk_at "dl"
  rfl
end DL

/-! DVa: a tuple of three new lists of lists, handed back, looked at, changed. -/
namespace DL
open PySem PySem.Spec PyProof.Rows L2 Evl
abbrev R3 := List (List D) × List (List D) × List (List D)
def Ft3 (H : Hp) (p q r : Addr) (d e f : OD) (a : Addr) : Prop := Ft H d p a ∨ Ft H e q a ∨ Ft H f r a
section
variable {K : PySem.W.Frag} {mg : MG} {Hf H Hf' H' : Hp} {p q r : Addr} {d e f : OD} {σ : L2.St} {env : DEnv} {ps : Fg}
theorem Own3.live (w : Own3 K mg Hf H p q r d e f) {a : Addr} (h : Ft3 H p q r d e f a) : Hf a = none ∧ ∃ u, H a = some u := by
  rcases h with h | h | h
  · exact w.o1.live h
  · exact w.o2.live h
  · exact w.o3.live h
theorem ft3_back (k : ∀ a, Ft3 H p q r d e f a → H' a = H a) {a : Addr} (h : Ft3 H' p q r d e f a) : Ft3 H p q r d e f a := by
  rcases h with h | h | h
  · exact .inl (h.of_eq (k p (.inl .self)))
  · exact .inr (.inl (h.of_eq (k q (.inr (.inl .self)))))
  · exact .inr (.inr (h.of_eq (k r (.inr (.inr .self)))))
theorem Own3.keep (w : Own3 K mg Hf H p q r d e f) (x : Ex Hf Hf') (k : ∀ a, Ft3 H p q r d e f a → Hf' a = none ∧ H' a = H a) : Own3 K mg Hf' H' p q r d e f := by
  have e1 := (k p (.inl .self)).2
  have e2 := (k q (.inr (.inl .self))).2
  have e3 := (k r (.inr (.inr .self))).2
  exact ⟨w.o1.keep x fun a z => k a (.inl z), w.o2.keep x fun a z => k a (.inr (.inl z)), w.o3.keep x fun a z => k a (.inr (.inr z)),
    fun a f1 f2 => w.a12 a (f1.of_eq e1) (f2.of_eq e2), fun a f1 f2 => w.a13 a (f1.of_eq e1) (f2.of_eq e3), fun a f1 f2 => w.a23 a (f1.of_eq e2) (f2.of_eq e3)⟩
/-- three own objects are given to three slots -/
theorem SR.give3 (S : SR K mg ps Hf H σ env) {i1 i2 i3 : Nat} (w : Own3 K mg Hf H p q r d e f) (no : ∀ z, Ft3 H p q r d e f z → ps.g z = none ∧ Nob H σ env z)
    (l1 : i1 < env.length) (l2 : i2 < env.length) (l3 : i3 < env.length) (h12 : i1 ≠ i2) (h13 : i1 ≠ i3) (h23 : i2 ≠ i3) :
    SR K mg ps Hf H (((σ.set i1 (some (.ref p))).set i2 (some (.ref q))).set i3 (some (.ref r))) (((env.set i1 (.own none d)).set i2 (.own none e)).set i3 (.own none f)) := by
  obtain ⟨o1, n1, m1, w1⟩ := w.o1.ex
  obtain ⟨o2, n2, m2, w2⟩ := w.o2.ex
  obtain ⟨o3, n3, m3, w3⟩ := w.o3.ex
  have ro : ∀ {i j : Nat} {x : Sl} {k : Option Nat} {l : OD} {e0 : DEnv}, i < e0.length → (e0.set i x)[j]? = some (.own k l) → (i = j ∧ x = .own k l) ∨ (i ≠ j ∧ e0[j]? = some (.own k l)) := fun {i j x k l e0} hl h => by
    by_cases z : i = j
    · subst z; rw [List.getElem?_set_self hl] at h; cases h; exact .inl ⟨rfl, rfl⟩
    · rw [List.getElem?_set_ne z] at h; exact .inr ⟨z, h⟩
  have A1 := S.takeG i1 m1 n1 w1 fun a f => no a (.inl f)
  have A2 := A1.takeG i2 m2 n2 w2 fun a f => ⟨(no a (.inr (.inl f))).1, fun j k l b h hs f2 => by
    rcases ro l1 h with ⟨z1, z2⟩ | ⟨z1, h⟩
    · subst z1; cases z2
      rw [List.getElem?_set_self (by rw [S.len]; exact l1)] at hs; cases hs
      exact w.a12 a f2 f
    · rw [List.getElem?_set_ne z1] at hs
      exact (no a (.inr (.inl f))).2 j k l b h hs f2⟩
  exact A2.takeG i3 m3 n3 w3 fun a f => ⟨(no a (.inr (.inr f))).1, fun j k l b h hs f2 => by
    rcases ro (by rw [List.length_set]; exact l2) h with ⟨z1, z2⟩ | ⟨z1, h⟩
    · subst z1; cases z2
      rw [List.getElem?_set_self (by rw [List.length_set, S.len]; exact l2)] at hs; cases hs
      exact w.a23 a f2 f
    · rw [List.getElem?_set_ne z1] at hs
      rcases ro l1 h with ⟨z1, z2⟩ | ⟨z1, h⟩
      · subst z1; cases z2
        rw [List.getElem?_set_self (by rw [S.len]; exact l1)] at hs; cases hs
        exact w.a13 a f2 f
      · rw [List.getElem?_set_ne z1] at hs
        exact (no a (.inr (.inr f))).2 j k l b h hs f2⟩
/-- rows that nobody names are frozen -/
theorem SR.frzRw (S : SR K mg ps Hf H σ env) {as : List Addr} {ll : List (List D)} (hh : H p = some (.lst (as.map V.ref))) (nf : Hf p = none) (np : p ∉ as) (nd : as.Nodup) (hr : RwR K mg Hf H as ll)
    (fr : ∀ a, a = p ∨ a ∈ as → ps.g a = none ∧ Nob H σ env a) : ∃ Hf', Ex Hf Hf' ∧ SR K mg ps Hf' H σ env ∧ Rp K mg Hf' (.ref p) (.lst (ll.map .lst)) := by
  have go : ∀ (bs : List Addr) (ls : List (List D)) (Hf1 : Hp), Ex Hf Hf1 → SR K mg ps Hf1 H σ env → bs.Nodup → (∀ a ∈ bs, a ∈ as) → p ∉ bs → Hf1 p = none → RwR K mg Hf1 H bs ls →
      ∃ Hf2, Ex Hf1 Hf2 ∧ SR K mg ps Hf2 H σ env ∧ Hf2 p = none ∧ Rps K mg Hf2 (bs.map V.ref) (ls.map D.lst) := by
    intro bs
    induction bs with
    | nil =>
      intro ls Hf1 x T _ _ _ n r
      cases ls with
      | nil => exact ⟨Hf1, Ex.refl _, T, n, .nil⟩
      | cons l ls => exact absurd r.1 (by simp)
    | cons b bs ih =>
      intro ls Hf1 x T nd' m np' n r
      cases ls with
      | nil => exact absurd r.1 (by simp)
      | cons l ls =>
        obtain ⟨n1, vs, h1, h2⟩ := r.2 0 b l rfl rfl
        have hb := fr b (.inr (m b List.mem_cons_self))
        have T1 := T.freezes h1 n1 hb.1 hb.2
        have nb := List.nodup_cons.mp nd'
        obtain ⟨Hf2, y, T2, n2, r2⟩ := ih ls (upd Hf1 b (.lst vs)) (x.trans (Ex.new n1)) T1 nb.2 (fun a q => m a (List.mem_cons_of_mem _ q)) (fun q => np' (List.mem_cons_of_mem _ q))
          (by rw [upd_ne (fun q => np' (by rw [q]; exact List.mem_cons_self))]; exact n)
          ⟨by have := r.1; simpa using this, fun k a l' q1 q2 => by
            obtain ⟨z1, ws, z2, z3⟩ := r.2 (k + 1) a l' (by simpa using q1) (by simpa using q2)
            have hne : a ≠ b := fun q => nb.1 (by rw [← q]; exact List.mem_of_getElem? q1)
            exact ⟨by rw [upd_ne hne]; exact z1, ws, z2, z3.mono (Ex.new n1)⟩⟩
        exact ⟨Hf2, (Ex.new n1).trans y, T2, n2, .cons (.lst (.inl (.inl (y b _ upd_same))) (h2.mono ((Ex.new n1).trans y))) r2⟩
  obtain ⟨Hf2, y, T2, n2, r2⟩ := go as ll Hf (Ex.refl _) S nd (fun _ m => m) np nf hr
  have T3 := T2.freezes hh n2 (fr p (.inl rfl)).1 (fr p (.inl rfl)).2
  exact ⟨upd Hf2 p (.lst (as.map V.ref)), y.trans (Ex.new n2), T3, .lst (.inl (.inl upd_same)) (r2.mono (Ex.new n2))⟩
end
section
variable (K : PySem.W.Frag) (mg : MG) (ps : Fg) (W : WX)
def TGd (Hf : Hp) (σ : L2.St) (Q : VK) : Res R3 → Prop
  | .ok t e' => ∀ Hf' H' s p q r, Ex Hf Hf' → SR K mg ps Hf' H' σ e' → SqT K Hf' s [.ref p, .ref q, .ref r] → Own3 K mg Hf' H' p q r (.rows t.1) (.rows t.2.1) (.rows t.2.2) →
      (∀ z, Ft3 H' p q r (.rows t.1) (.rows t.2.1) (.rows t.2.2) z → ps.g z = none ∧ Nob H' σ e' z) → Q (.ref s) H'
  | .exc x p e' => ∀ cls dd Hf' H', Ex Hf Hf' → SR K mg ps Hf' H' σ e' → IsExc K mg Hf' x p cls dd → W cls dd σ H'
  | .stuck => False
def TSG (De : Ends) (Hf : Hp) : Res R3 → Prop
  | .ok t e' => ∀ σ' Hf' H' s p q r, Ex Hf Hf' → SR K mg ps Hf' H' σ' e' → SqT K Hf' s [.ref p, .ref q, .ref r] → Own3 K mg Hf' H' p q r (.rows t.1) (.rows t.2.1) (.rows t.2.2) →
      (∀ z, Ft3 H' p q r (.rows t.1) (.rows t.2.1) (.rows t.2.2) z → ps.g z = none) → De.rt (.ref s) H'
  | .exc x p e' => ∀ cls dd σ' Hf' H', Ex Hf Hf' → SR K mg ps Hf' H' σ' e' → IsExc K mg Hf' x p cls dd → W cls dd σ' H'
  | .stuck => False
end
theorem TGd.mono {K : PySem.W.Frag} {mg : MG} {ps : Fg} {W : WX} {Hf Hf' : Hp} {σ : L2.St} {Q : VK} (x : Ex Hf Hf') : ∀ {r : Res R3}, TGd K mg ps W Hf σ Q r → TGd K mg ps W Hf' σ Q r
  | .ok _ _, h => fun Hf2 H2 s p q r y => h Hf2 H2 s p q r (x.trans y)
  | .exc _ _ _, h => fun c d Hf2 H2 y s z => h c d Hf2 H2 (x.trans y) s z
  | .stuck, h => h
theorem TSG.mono {K : PySem.W.Frag} {mg : MG} {ps : Fg} {W : WX} {De : Ends} {Hf Hf' : Hp} (x : Ex Hf Hf') : ∀ {r : Res R3}, TSG K mg ps W De Hf r → TSG K mg ps W De Hf' r
  | .ok _ _, h => fun σ2 Hf2 H2 s p q r y => h σ2 Hf2 H2 s p q r (x.trans y)
  | .exc _ _ _, h => fun c d σ2 Hf2 H2 y s z => h c d σ2 Hf2 H2 (x.trans y) s z
  | .stuck, h => h
structure JR3 (X : Cx) (W : WX) (e : Expr) (f : M R3) : Prop where
  ex : ∃ t, PE X e t ∧ ∀ (ps : Fg) (σ : L2.St) (Hf H : Hp) (env : DEnv), SR X.K X.mg ps Hf H σ env → ∀ Q : VK, TGd X.K X.mg ps W Hf σ Q (f env) → t σ H Q
/-- statements that hand such a tuple back -/
structure J3s (X : Cx) (W : WX) (s : List Stmt) (f : M R3) : Prop where
  ex : ∃ t, PSs X s t ∧ ∀ (ps : Fg) (σ : L2.St) (Hf H : Hp) (env : DEnv), SR X.K X.mg ps Hf H σ env → ∀ De : Ends, TSG X.K X.mg ps W De Hf (f env) → t De σ H
def sq3 (f : M Fl) (g : M R3) : M R3 := fun env => match f env with | .ok .nx e' => g e' | .exc x p e' => .exc x p e' | _ => .stuck
def ret3 (i1 i2 i3 : Nat) : M R3 := fun env => match rowsAt env i1, rowsAt env i2, rowsAt env i3 with
  | some (none, a), some (none, b), some (none, c) => .ok (a, b, c) (((env.set i1 .no).set i2 .no).set i3 .no)
  | _, _, _ => .stuck
section
variable {X : Cx} {W : WX} {a b c e : Expr} {es : List Expr} {fa fb fc : M D} {pos : Pos} {f : M (List D)} {N : List Str} {sc raw : Scope} {s : Stmt} {ss : List Stmt}
theorem j3_cons {f : M Fl} {g : M R3} (j : JS X W s f) (k : J3s X W ss g) : J3s X W (s :: ss) (sq3 f g) := by
  obtain ⟨t, p, h⟩ := j.ex
  obtain ⟨u, q, hu⟩ := k.ex
  refine ⟨⟨_, pss_cons p q, fun ps σ Hf H env S De z => ?_⟩⟩
  refine h ps σ Hf H env S _ ?_
  unfold sq3 at z
  cases w : f env with
  | ok fl e' =>
    rw [w] at z
    cases fl with
    | nx => exact fun σ' Hf' H' x S' => hu ps σ' Hf' H' e' S' De (TSG.mono x z)
    | rt d => exact z.elim
    | ro l => exact z.elim
    | bk => exact z.elim
    | ct => exact z.elim
  | exc x p e' => rw [w] at z; exact z
  | stuck => rw [w] at z; exact z
theorem j3_ret {x1 x2 x3 : Str} {p1 p2 p3 p4 : Pos} {kk i1 i2 i3 : Nat} (V : Nm X N sc raw) (v1 : okV N sc i1 x1 = true) (v2 : okV N sc i2 x2 = true) (v3 : okV N sc i3 x3 = true) (h12 : i1 ≠ i2 := by decide) (h13 : i1 ≠ i3 := by decide) (h23 : i2 ≠ i3 := by decide) :
    J3s X W [.Return (some (.Tuple [.Name x1 p1, .Name x2 p2, .Name x3 p3] kk p4)) pos] (ret3 i1 i2 i3) := by
  obtain ⟨n1, a1, b1, c1⟩ := V.v v1
  obtain ⟨n2, a2, b2, c2⟩ := V.v v2
  obtain ⟨n3, a3, b3, c3⟩ := V.v v3
  refine ⟨⟨_, pss_one (ps_ret (pe_tup (pa_cons (pe_var n1 a1 b1 c1) (pa_cons (pe_var n2 a2 b2 c2) (pa_cons (pe_var n3 a3 b3 c3) pa_nil))))), fun ps σ Hf H env S De z => ?_⟩⟩
  unfold ret3 at z
  cases w1 : rowsAt env i1 with
  | none => simp only [w1] at z; exact z.elim
  | some k1 =>
    cases w2 : rowsAt env i2 with
    | none => simp only [w1, w2] at z; obtain ⟨_ | _, _⟩ := k1 <;> exact z.elim
    | some k2 =>
      cases w3 : rowsAt env i3 with
      | none => simp only [w1, w2, w3] at z; obtain ⟨_ | _, _⟩ := k1 <;> obtain ⟨_ | _, _⟩ := k2 <;> exact z.elim
      | some k3 =>
        obtain ⟨_ | _, la⟩ := k1 <;> obtain ⟨_ | _, lb⟩ := k2 <;> obtain ⟨_ | _, lc⟩ := k3 <;> simp only [w1, w2, w3] at z <;> try exact z.elim
        have e1 := rowsAt_eq w1
        have e2 := rowsAt_eq w2
        have e3 := rowsAt_eq w3
        obtain ⟨p, q, r, s1, s2, s3, ow, back⟩ := S.three h12 h13 h23 e1 e2 e3
        refine ⟨_, s1, _, s2, _, s3, by show 3 ≤ sizeLine; rw [sizeLine_eq]; decide, fun s hs => ?_⟩
        have nfs : Hf s = none := fresh_back S.ex hs
        have kp : ∀ z, Ft3 H p q r (.rows la) (.rows lb) (.rows lc) z → upd Hf s (.tup [.ref p, .ref q, .ref r]) z = none ∧ upd H s (.tup [.ref p, .ref q, .ref r]) z = H z := fun z hz => by
          obtain ⟨y1, u, y2⟩ := ow.live hz
          have hne : z ≠ s := fun y => by subst y; rw [hs] at y2; cases y2
          exact ⟨by rw [upd_ne hne]; exact y1, upd_ne hne⟩
        have D1 := S.drop i1 (some (.ref p)); rw [set_back s1] at D1
        have D2 := D1.drop i2 (some (.ref q)); rw [set_back s2] at D2
        have D3 := D2.drop i3 (some (.ref r)); rw [set_back s3] at D3
        refine z σ _ _ s p q r (Ex.new nfs) (D3.froze hs) (.inl (.inl upd_same)) (ow.keep (Ex.new nfs) kp) fun y hy => ?_
        have hy := ft3_back (fun a h => (kp a h).2) hy
        cases w : ps.g y with
        | none => rfl
        | some u =>
          obtain ⟨_, _, g3⟩ := S.fgF y u w
          rcases hy with f | f | f
          · exact (g3 i1 _ _ p e1 s1 f).elim
          · exact (g3 i2 _ _ q e2 s2 f).elim
          · exact (g3 i3 _ _ r e3 s3 f).elim
end
/-- a def that hands such a tuple back -/
def spR3 (K : PySem.W.Frag) (mg : MG) (n : Nat) (F : List D → Res R3) : Sp := fun vs H Q E => vs.length = n ∧ ∃ Hf ds, Ex Hf H ∧ Rps K mg Hf vs ds ∧ match F ds with
  | .ok t _ => ∀ s p q r Hf' H', Ex Hf Hf' → Ex Hf' H' → (∀ a o, H a = some o → Hf a = none → H' a = some o ∧ Hf' a = none) → SqT K Hf' s [.ref p, .ref q, .ref r] →
      Own3 K mg Hf' H' p q r (.rows t.1) (.rows t.2.1) (.rows t.2.2) → (∀ z, Ft3 H' p q r (.rows t.1) (.rows t.2.1) (.rows t.2.2) z → H z = none) → Q (.ref s) H'
  | .exc x p _ => ∀ cls dd Hf' H', Ex Hf Hf' → Ex Hf' H' → (∀ a o, H a = some o → Hf a = none → H' a = some o ∧ Hf' a = none) → IsExc K mg Hf' x p cls dd → E cls dd H'
  | .stuck => False
def runR3 (n : Nat) (f : M R3) (ds : List D) : Res R3 := f (envOf n ds)
section
variable {P : Program} {w : World} {K : PySem.W.Frag} {mg : MG} {base : Heap}
theorem fn_okR3 {x qual : Str} {st : Stmt} {f : Addr} {fd : FuncData} {N ps : List Str} {k : Nat} {g : M R3} (F : Fun K x qual st f fd) (NS : Big P base k) (S : FnScope N ps (defScope st))
    (hbody : ∀ (X : Cx) (W : WX), X.prog = P → X.w = w → X.K = K → X.mg = mg → X.base = base → Room k X.A → CtxOk X W → Nm X N (defScope st) (defScope st) → Df X → J3s X W (defBody st) g) (hle : ps.length ≤ N.length := by decide) :
    FnOk P w K mg base (L2N.CX P w) (k + 1) f fd ps (spR3 K mg ps.length (runR3 N.length g)) := by
  refine okN F S (fun vs H Q E h => h.1) (fun cdv A outer s H vs Q E hr h => ?_)
  obtain ⟨hl, Hf, ds, x, r, hF⟩ := h
  obtain ⟨t, p, ht⟩ := (hbody (cxOf (L2N.CX P w) P w K mg base N qual (defScope st) f cdv A outer s H E) (fun cls d _ H => E cls d H) rfl rfl rfl rfl rfl hr ⟨rfl, hr.units, passes_of rfl, L2N.takes_of rfl rfl rfl rfl, ⟨NS.tree, NS.seer, ⟨_, _, rfl, S.gen, S.co, rfl, rfl⟩, by
    show (A.deeper (envOfC qual (defScope st) s.heap.objs.size f cdv)).depth + Builtin.pylongFrames < recursionLimit
    have := hr.dp; have e : Builtin.pylongFrames = 100 := rfl; have := NS.k; omega⟩⟩ ⟨rfl, rfl, S.nd, S.kind, fun _ _ => rfl⟩ ⟨rfl, rfl⟩).ex
  refine ⟨t, p, ht ⟨[], fun a => if (Hf a).isSome then none else H a⟩ (L2.start N vs) Hf H (envOf N.length ds) (sr_start x r (by omega)) _ ?_⟩
  unfold runR3 at hF
  cases q : g (envOf N.length ds) with
  | ok t3 e' =>
    rw [q] at hF
    exact fun σ' Hf' H' s p q r x' S' hs ow no => hF s p q r Hf' H' x' S'.ex (fg_back S') hs ow fun z hz => ro_new (fresh_back x' (ow.live hz).1) (no z hz)
  | exc y p e' => rw [q] at hF; exact fun cls dd σ' Hf' H' x' S' z => hF cls dd Hf' H' x' S'.ex (fg_back S') z
  | stuck => rw [q] at hF; exact hF.elim
end
def mCall3 (f : M (List D)) (F : List D → Res R3) : M R3 := bnd f fun ds env => match F ds with
  | .ok t _ => .ok t env | .exc x p _ => .exc x p env | .stuck => .stuck
open Classical in
/-- x = f(..); if c: ..; x1, x2, x3 = x; and on -/
noncomputable def mTri (ix i1 i2 i3 : Nat) (f : M R3) (c : M Bool) (k : M Fl) : M Fl := bnd f fun t env =>
  if (ix < env.length ∧ i1 < env.length ∧ i2 < env.length ∧ i3 < env.length) ∧ ∀ p q r : Addr, c (env.set ix (.val (.tup [.opq p, .opq q, .opq r]))) = .ok false (env.set ix (.val (.tup [.opq p, .opq q, .opq r])))
    then k ((((env.set ix .no).set i1 (.own none (.rows t.1))).set i2 (.own none (.rows t.2.1))).set i3 (.own none (.rows t.2.2))) else .stuck
/-- f, while own lists are lent -/
def mLendB (f : M Bool) : M Bool := fun env => match f (shw env) with
  | .ok b _ => .ok b env
  | .exc x none _ => .exc x none env
  | _ => .stuck
def mLendR (f : M (List (List D))) : M (List (List D)) := fun env => match f (shw env) with
  | .ok ll _ => if ll.all (fun l => l.all D.plain) then .ok ll env else .stuck
  | .exc x none _ => .exc x none env
  | _ => .stuck
def mFrzR (f : M (List (List D))) : M D := bnd f fun ll => ret (.lst (ll.map .lst))
section
variable {X : Cx} {W : WX} {a b c e : Expr} {es : List Expr} {fa fb fc : M D} {pos : Pos} {f : M (List D)} {N : List Str} {sc raw : Scope} {s : Stmt} {ss : List Stmt}
theorem jr3_call {x : Str} {p : Pos} {n : Nat} {F : List D → Res R3} (C : CtxOk X W) (V : Nm X N sc raw) (hG : okG sc x = true) (c : CalM X x (spR3 X.K X.mg n F)) (ja : JA X W (e :: es) f) (hn : ∀ env ds env', f env = .ok ds env' → ds.length = n)
    (he : starEach (e :: es) X.env = (false, eval e X.env) :: starEach es X.env := by rfl) (hpl : (backTo pos (starEach es X.env)).any (·.1) = false := by rfl) :
    JR3 X W (.Call (.Name x p) (e :: es) [] pos) (mCall3 f F) := by
  obtain ⟨t, q, h⟩ := ja.ex
  refine ⟨⟨_, pe_callM C V hG c q he hpl, fun ps σ Hf H env S Q z => ?_⟩⟩
  unfold mCall3 bnd at z
  refine h ps σ Hf H env S _ ?_
  cases w : f env with
  | ok ds e1 =>
    rw [w] at z
    intro Hf1 H1 x1 S1 vs r
    refine ⟨by rw [r.length]; exact hn _ _ _ w, Hf1, ds, S1.ex, r, ?_⟩
    have z := TGd.mono x1 z
    cases q : F ds with
    | ok t e2 =>
      simp only [q] at z ⊢
      intro s p q r Hf' H' x y fr hs ow nw
      refine z Hf' H' s p q r x (S1.after x y fr) hs ow fun a ha => ⟨S1.ng_new (nw a ha), fun i k2 od w q1 q2 f => ?_⟩
      obtain ⟨z1, u, z2⟩ := S1.live q1 q2 .self
      have hw := (fr w u z2 z1).1
      exact S1.nob_new (nw a ha) i k2 od w q1 q2 (f.of_eq (by rw [hw, z2]))
    | exc c p e2 => simp only [q] at z ⊢; exact fun cls dd Hf' H' x y fr ie => z cls dd Hf' H' x (S1.after x y fr) ie
    | stuck => simp only [q] at z; exact z.elim
  | exc y p e1 => rw [w] at z; exact fun cls dd Hf' H' x S' ie => z cls dd Hf' H' x S' ie
  | stuck => rw [w] at z; exact z.elim
theorem jt_lend {gc : M Bool} (j : JT X W c gc) : JT X W c (mLendB gc) := by
  obtain ⟨t, p, h⟩ := j.ex
  refine ⟨⟨t, p, fun ps σ Hf H env S Q z => ?_⟩⟩
  refine h _ σ _ H (shw env) S.lent Q ?_
  unfold mLendB at z
  cases q : gc (shw env) with
  | ok d e' =>
    rw [q] at z
    dsimp only at z
    intro Hf' H' x S'
    obtain ⟨x1, S1⟩ := S.unlent x S'
    exact z (backH env σ H Hf') H' x1 S1
  | exc y p e' =>
    rw [q] at z
    cases p with
    | none =>
      intro cls dd Hf' H' x S' ie
      obtain ⟨x1, S1⟩ := S.unlent x S'
      exact z cls dd _ H' x1 S1 ie
    | some d => exact z.elim
  | stuck => rw [q] at z; exact z.elim
theorem je_frzR {fr : M (List (List D))} (j : JR X W e fr) : JE X W e (mFrzR fr) := by
  obtain ⟨t, p, h⟩ := j.ex
  refine ⟨⟨t, p, fun ps σ Hf H env S Q z => ?_⟩⟩
  refine h ps σ Hf H env S Q ?_
  unfold mFrzR bnd at z
  cases q : fr env with
  | ok ll e' =>
    rw [q] at z
    intro Hf' H' p as x S' hp nf np nd rr no
    obtain ⟨Hf2, y, S2, r2⟩ := S'.frzRw hp nf np nd rr no
    exact z Hf2 H' (x.trans y) S2 _ r2
  | exc y p e' => rw [q] at z; exact z
  | stuck => rw [q] at z; exact z
theorem jr_lend {fr : M (List (List D))} (j : JR X W e fr) : JR X W e (mLendR fr) := by
  obtain ⟨t, p, h⟩ := j.ex
  refine ⟨⟨t, p, fun ps σ Hf H env S Q z => ?_⟩⟩
  refine h _ σ _ H (shw env) S.lent Q ?_
  unfold mLendR at z
  cases q : fr (shw env) with
  | ok ll e' =>
    rw [q] at z
    dsimp only at z
    intro Hf' H' p as x S' hp nf np nd rr no
    by_cases hpl : (ll.all fun l => l.all D.plain) = true
    · rw [if_pos hpl] at z
      obtain ⟨x1, S1⟩ := S.unlent x S'
      have hin : ∀ a, a = p ∨ a ∈ as → H a = none ∧ backH env σ H Hf' a = none := fun a ha => by
        have nfa : Hf' a = none := by
          rcases ha with rfl | ha
          · exact nf
          · obtain ⟨i, hi, rfl⟩ := List.mem_iff_getElem.mp ha
            exact (rr.2 i _ _ (List.getElem?_eq_getElem hi) (List.getElem?_eq_getElem (by rw [← rr.1]; exact hi))).1
        refine ⟨ro_new (fresh_back x nfa) (no a ha).1, ?_⟩
        unfold backH
        split
        · rfl
        · exact nfa
      refine z _ H' p as x1 S1 hp (hin p (.inl rfl)).2 np nd ⟨rr.1, fun k a l h1 h2 => ?_⟩ fun a ha => ⟨?_, fun i k l w q1 q2 f => ?_⟩
      · obtain ⟨_, vs, m1, m2⟩ := rr.2 k a l h1 h2
        exact ⟨(hin a (.inr (List.mem_of_getElem? h1))).2, vs, m1, m2.plain (List.all_eq_true.mp hpl l (List.mem_of_getElem? h2))⟩
      · cases w : ps.g a with
        | none => rfl
        | some u => have := (S.fgF a u w).1; rw [(hin a ha).1] at this; cases this
      · obtain ⟨z1, u, z2⟩ := S.live q1 q2 .self
        by_cases ho : OwnL H env σ w
        · have hw := S'.ex w u (x w u (by unfold lentH; rw [if_pos ho]; exact z2))
          exact S.nob_new (hin a ha).1 i k l w q1 q2 (f.of_eq (by rw [hw, z2]))
        · have hl : lentH env σ Hf H w = none := by unfold lentH; rw [if_neg ho]; exact z1
          have hw := (S'.fg w u (by unfold lentG; dsimp only; rw [hl]; exact z2)).1
          exact S.nob_new (hin a ha).1 i k l w q1 q2 (f.of_eq (by rw [hw, z2]))
    · rw [if_neg hpl] at z; exact z.elim
  | exc y p e' =>
    rw [q] at z
    cases p with
    | none =>
      intro cls dd Hf' H' x S' ie
      obtain ⟨x1, S1⟩ := S.unlent x S'
      exact z cls dd _ H' x1 S1 ie
    | some d => exact z.elim
  | stuck => rw [q] at z; exact z.elim
/-! ### the tuple looked at, and taken apart -/
open Classical in
noncomputable def g3 (ps : Fg) (H : Hp) (p q r : Addr) (d e f : OD) : Fg := ⟨ps.ps, fun a => if Ft3 H p q r d e f a then H a else ps.g a⟩
theorem jss_tri {x x1 x2 x3 : Str} {p0 p1 p2 p3 p4 p5 pos1 pos2 : Pos} {kk ix i1 i2 i3 : Nat} {f3 : M R3} {gc : M Bool} {fA k : M Fl} {A : List Stmt} (C : CtxOk X W) (V : Nm X N sc raw)
    (hS : okS N sc raw ix x = true) (hV : okV N sc ix x = true) (hS1 : okS N sc raw i1 x1 = true) (hS2 : okS N sc raw i2 x2 = true) (hS3 : okS N sc raw i3 x3 = true)
    (j : JR3 X W e f3) (jc : JT X W c gc) (jA : JSs X W A fA) (jk : JSs X W ss k) (h12 : i1 ≠ i2 := by decide) (h13 : i1 ≠ i3 := by decide) (h23 : i2 ≠ i3 := by decide)
    (hs : swapsWith e (some (.Name x p0)) pos.line X.env = pure false := by rfl)
    (hs2 : swapsWithSole [.Tuple [.Name x1 p1, .Name x2 p2, .Name x3 p3] kk p4] (.Name x p5) pos2.line X.env = pure false := by rfl) (hw2 : swappedStores [.Tuple [.Name x1 p1, .Name x2 p2, .Name x3 p3] kk p4] (.Name x p5) X.env = pure none := by rfl)
    (h1 : (assignEach [.Tuple [.Name x1 p1, .Name x2 p2, .Name x3 p3] kk p4] X.env).map (·.2) = [assign (.Tuple [.Name x1 p1, .Name x2 p2, .Name x3 p3] kk p4) X.env] := by rfl)
    (hn : (assignEach [.Name x1 p1, .Name x2 p2, .Name x3 p3] X.env).length = 3 := by rfl) (hst : (assignEach [.Name x1 p1, .Name x2 p2, .Name x3 p3] X.env).findIdx? (·.1) = none := by rfl) :
    JSs X W (.Assign [.Name x p0] e pos :: .If c A [] pos1 :: .Assign [.Tuple [.Name x1 p1, .Name x2 p2, .Name x3 p3] kk p4] (.Name x p5) pos2 :: ss) (mTri ix i1 i2 i3 f3 gc k) := by
  obtain ⟨hi, hx, hf⟩ := V.s hS
  have hN := V.nodup
  obtain ⟨t, pt, ht⟩ := j.ex
  obtain ⟨tc, pc, hc⟩ := jc.ex
  obtain ⟨tA, pA, hA⟩ := jA.ex
  obtain ⟨tk, pk, hk⟩ := jk.ex
  obtain ⟨n1, a1, b1, c1⟩ := V.v hV
  have pg : ∀ {i : Nat} {y : Str} {p : Pos}, okS N sc raw i y = true → PG X (.Name y p) (gName i) := fun {i y p} h => pg_name (i := i) V.nodup (V.s h).1 (V.s h).2.1 (V.s h).2.2
  refine ⟨⟨_, pss_cons (ps_set (i := ix) hN hi hx pt hs hf) (pss_cons (ps_if pc pA pss_nil) (pss_cons (ps_asg (pe_var n1 a1 b1 c1) (pg_tup C.calm (pgs_cons (pg hS1) (pgs_cons (pg hS2) (pgs_cons (pg hS3) pgs_nil))) hn hst) hs2 hw2 h1) pk)), fun ps σ Hf H env S De z => ?_⟩⟩
  refine ht ps σ Hf H env S _ ?_
  unfold mTri bnd at z
  cases w : f3 env with
  | exc y p e1 => rw [w] at z; exact fun cls dd Hf' H' x S' ie => z cls dd σ Hf' H' x S' ie
  | stuck => rw [w] at z; exact z.elim
  | ok t3 e1 =>
    rw [w] at z
    dsimp only at z
    intro Hf1 H1 s p q r x1 S1 sq ow no
    split at z
    · rename_i hcc
      obtain ⟨⟨lx, l1, l2, l3⟩, hcc⟩ := hcc
      have z := SG.mono x1 z
      -- the three are foreign meanwhile
      have S2 : SR X.K X.mg (g3 ps H1 p q r (.rows t3.1) (.rows t3.2.1) (.rows t3.2.2)) Hf1 H1 σ e1 := ⟨S1.ex, S1.len, S1.sl, S1.apF, fun a o h => by
        unfold g3 at h
        dsimp only at h
        split at h
        · rename_i f
          exact ⟨h, (ow.live f).1, (no a f).2⟩
        · exact S1.fgF a o h⟩
      have S3 := S2.put ix (v := .ref s) (d := .tup [.opq p, .opq q, .opq r]) (.tup sq (.cons (.opq p) (.cons (.opq q) (.cons (.opq r) .nil))))
      refine hc _ _ _ _ _ S3 _ ?_
      rw [hcc p q r]
      intro Hf4 H4 x4 S4
      unfold Pb
      dsimp only
      rw [if_neg Bool.false_ne_true]
      refine ⟨.ref s, by rw [List.getElem?_set_self (by rw [S1.len]; exact lx)], s, _, rfl, ex_t S4.ex (ex_t x4 sq), rfl, .ref p, _, rfl, .ref q, _, rfl, .ref r, _, rfl, rfl, ?_⟩
      have kp : ∀ a, Ft3 H1 p q r (.rows t3.1) (.rows t3.2.1) (.rows t3.2.2) a → H4 a = H1 a ∧ Hf4 a = none ∧ Nob H4 (σ.set ix (some (.ref s))) (e1.set ix (.val (.tup [.opq p, .opq q, .opq r]))) a := fun a f => by
        obtain ⟨_, u, hu⟩ := ow.live f
        obtain ⟨y1, y2, y3⟩ := S4.fgF a u (by unfold g3; dsimp only; rw [if_pos f]; exact hu)
        exact ⟨by rw [y1, hu], y2, y3⟩
      have S5 : SR X.K X.mg ps Hf4 H4 (σ.set ix (some (.ref s))) (e1.set ix (.val (.tup [.opq p, .opq q, .opq r]))) := ⟨S4.ex, S4.len, S4.sl, S4.apF, fun a o h => S4.fgF a o (by
        unfold g3
        dsimp only
        split
        · rename_i f
          rw [(no a f).1] at h; cases h
        · exact h)⟩
      have S6 := S5.drop ix (some (.ref s))
      rw [set_back (List.getElem?_set_self (by rw [S1.len]; exact lx)), List.set_set] at S6
      have ow4 := ow.keep x4 fun a f => ⟨(kp a f).2.1, (kp a f).1⟩
      have S7 := S6.give3 (i1 := i1) (i2 := i2) (i3 := i3) ow4 (fun a f => by
        have f := ft3_back (fun a h => (kp a h).1) f
        refine ⟨(no a f).1, fun jj k l b h hs f2 => ?_⟩
        by_cases hj : ix = jj
        · subst hj; rw [List.getElem?_set_self lx] at h; cases h
        · exact (kp a f).2.2 jj k l b (by rw [List.getElem?_set_ne hj] at h ⊢; exact h) hs f2) (by simpa using l1) (by simpa using l2) (by simpa using l3) h12 h13 h23
      exact hk ps _ Hf4 H4 _ S7 De (SG.mono x4 z)
    · exact z.elim
end
/-! ### a def that is lent the three, and changes them -/
open Classical in
noncomputable def gA3 (Hf H : Hp) (p q r : Addr) (d e f : OD) : Hp := fun a => if (Hf a).isSome ∨ Ft3 H p q r d e f a then none else H a
def spA3 (K : PySem.W.Frag) (mg : MG) (F : R3 → Option Bool) : Sp := fun vs H Q _ => ∃ p q r Hf t b, vs = [.ref p, .ref q, .ref r] ∧ Ex Hf H ∧ Own3 K mg Hf H p q r (.rows t.1) (.rows t.2.1) (.rows t.2.2) ∧ F t = some b ∧
  ∀ Hf' H', Ex Hf Hf' → Ex Hf' H' → (∀ a o, H a = some o → Hf a = none → ¬ Ft3 H p q r (.rows t.1) (.rows t.2.1) (.rows t.2.2) a → H' a = some o ∧ Hf' a = none) → Q (.bl b) H'
def envA3 (n : Nat) (t : R3) : DEnv := .own none (.rows t.1) :: .own none (.rows t.2.1) :: .own none (.rows t.2.2) :: List.replicate (n - 3) .no
def runA3 (n : Nat) (g : M Fl) (t : R3) : Option Bool := match g (envA3 n t) with | .ok (.rt (.bl b)) _ => some b | _ => none
section
variable {P : Program} {w : World} {K : PySem.W.Frag} {mg : MG} {base : Heap}
theorem sr_startA3 {Hf H : Hp} {p q r : Addr} {t : R3} {N : List Str} (x : Ex Hf H) (ow : Own3 K mg Hf H p q r (.rows t.1) (.rows t.2.1) (.rows t.2.2)) (hn : 3 ≤ N.length) :
    SR K mg ⟨[], gA3 Hf H p q r (.rows t.1) (.rows t.2.1) (.rows t.2.2)⟩ Hf H (L2.start N [.ref p, .ref q, .ref r]) (envA3 N.length t) := by
  obtain ⟨m, hm⟩ : ∃ m, N.length = m + 3 := ⟨N.length - 3, by omega⟩
  have es : L2.start N [.ref p, .ref q, .ref r] = some (.ref p) :: some (.ref q) :: some (.ref r) :: List.replicate m none := by
    unfold L2.start
    rw [hm]
    rfl
  have ee : envA3 N.length t = .own none (.rows t.1) :: .own none (.rows t.2.1) :: .own none (.rows t.2.2) :: List.replicate m .no := by
    unfold envA3
    rw [hm]
    rfl
  have no : ∀ {i : Nat} {k : Option Nat} {l : OD}, (List.replicate (m + 3) Sl.no)[i]? = some (.own k l) → False := fun {i k l} h => by
    rw [List.getElem?_replicate] at h
    split at h <;> cases h
  have S0 : SR K mg ⟨[], gA3 Hf H p q r (.rows t.1) (.rows t.2.1) (.rows t.2.2)⟩ Hf H (some (.ref p) :: some (.ref q) :: some (.ref r) :: List.replicate m none) (List.replicate (m + 3) .no) := by
    refine ⟨x, by simp, fun i s h => ?_, fun i j k k' l l' a b c hij h1 => (no h1).elim, fun a o h => ?_⟩
    · have hi : i < m + 3 := by have := (List.getElem?_eq_some_iff.mp h).1; simpa using this
      rw [List.getElem?_replicate, if_pos hi] at h; cases h
      exact ⟨_, List.getElem?_eq_getElem (by simp; omega), trivial⟩
    · unfold gA3 at h
      dsimp only at h
      split at h
      · cases h
      · rename_i z
        refine ⟨h, ?_, fun i k l _ q => (no q).elim⟩
        cases w : Hf a with
        | none => rfl
        | some u => exact absurd (.inl (by rw [w]; rfl)) z
  have S1 := S0.give3 (i1 := 0) (i2 := 1) (i3 := 2) ow (fun z hz => ⟨by unfold gA3; dsimp only; rw [if_pos (.inr hz)], fun i k l _ q => (no q).elim⟩) (by simp) (by simp) (by simp) (by decide) (by decide) (by decide)
  rw [es, ee]
  exact S1
theorem fn_okA3 {x qual : Str} {st : Stmt} {f : Addr} {fd : FuncData} {N ps : List Str} {k : Nat} {g : M Fl} (F : Fun K x qual st f fd) (NS : Big P base k) (S : FnScope N ps (defScope st)) (h3 : ps.length = 3)
    (hbody : ∀ (X : Cx) (W : WX), X.prog = P → X.w = w → X.K = K → X.mg = mg → X.base = base → Room k X.A → CtxOk X W → Nm X N (defScope st) (defScope st) → Df X → JSs X W (defBody st) g) (hle : 3 ≤ N.length := by decide) :
    FnOk P w K mg base (L2N.CX P w) (k + 1) f fd ps (spA3 K mg (runA3 N.length g)) := by
  refine okN F S (fun vs H Q E h => by obtain ⟨p, q, r, Hf, t, b, rfl, _⟩ := h; rw [h3]; rfl) (fun cdv A outer s H vs Q E hr h => ?_)
  obtain ⟨p, q, r, Hf, t3, b, rfl, x, ow, hF, hQ⟩ := h
  obtain ⟨t, pt, ht⟩ := (hbody (cxOf (L2N.CX P w) P w K mg base N qual (defScope st) f cdv A outer s H E) (fun cls d _ H => E cls d H) rfl rfl rfl rfl rfl hr ⟨rfl, hr.units, passes_of rfl, L2N.takes_of rfl rfl rfl rfl, ⟨NS.tree, NS.seer, ⟨_, _, rfl, S.gen, S.co, rfl, rfl⟩, by
    show (A.deeper (envOfC qual (defScope st) s.heap.objs.size f cdv)).depth + Builtin.pylongFrames < recursionLimit
    have := hr.dp; have e : Builtin.pylongFrames = 100 := rfl; have := NS.k; omega⟩⟩ ⟨rfl, rfl, S.nd, S.kind, fun _ _ => rfl⟩ ⟨rfl, rfl⟩).ex
  refine ⟨t, pt, ht _ _ Hf H _ (sr_startA3 x ow hle) _ ?_⟩
  unfold runA3 at hF
  cases w : g (envA3 N.length t3) with
  | ok fl e' =>
    rw [w] at hF
    cases fl with
    | rt d =>
      cases d with
      | bl b2 =>
        cases hF
        intro σ' Hf' H' x' S' v rv
        rw [rv.bl_inv]
        refine hQ Hf' H' x' S'.ex fun a o h n f => ?_
        obtain ⟨g1, g2, _⟩ := S'.fgF a o (by
          unfold gA3
          dsimp only
          rw [if_neg (fun z => z.elim (fun z => by rw [n] at z; cases z) f)]
          exact h)
        exact ⟨g1, g2⟩
      | _ => cases hF
    | _ => cases hF
  | exc y pd e' => rw [w] at hF; cases hF
  | stuck => rw [w] at hF; cases hF
end
def mRetA (F : R3 → Option Bool) (i1 i2 i3 : Nat) : M Fl := fun env => match rowsAt env i1, rowsAt env i2, rowsAt env i3 with
  | some (none, a), some (none, b), some (none, c) => (match F (a, b, c) with | some t => .ok (.rt (.bl t)) (((env.set i1 .no).set i2 .no).set i3 .no) | none => .stuck)
  | _, _, _ => .stuck
section
variable {X : Cx} {W : WX} {a b c e : Expr} {es : List Expr} {fa fb fc : M D} {pos : Pos} {f : M (List D)} {N : List Str} {sc raw : Scope} {s : Stmt} {ss : List Stmt}
theorem js_retA {x x1 x2 x3 : Str} {p p1 p2 p3 pos2 : Pos} {i1 i2 i3 : Nat} {F : R3 → Option Bool} (C : CtxOk X W) (V : Nm X N sc raw) (hG : okG sc x = true) (cc : CalM X x (spA3 X.K X.mg F))
    (v1 : okV N sc i1 x1 = true) (v2 : okV N sc i2 x2 = true) (v3 : okV N sc i3 x3 = true) (h12 : i1 ≠ i2 := by decide) (h13 : i1 ≠ i3 := by decide) (h23 : i2 ≠ i3 := by decide)
    (he : starEach [.Name x1 p1, .Name x2 p2, .Name x3 p3] X.env = (false, eval (.Name x1 p1) X.env) :: starEach [.Name x2 p2, .Name x3 p3] X.env := by rfl)
    (he2 : starEach [.Name x2 p2, .Name x3 p3] X.env = (false, eval (.Name x2 p2) X.env) :: starEach [.Name x3 p3] X.env := by rfl)
    (he3 : starEach [.Name x3 p3] X.env = (false, eval (.Name x3 p3) X.env) :: starEach [] X.env := by rfl)
    (hpl : (backTo pos (starEach [.Name x2 p2, .Name x3 p3] X.env)).any (·.1) = false := by rfl) :
    JS X W (.Return (some (.Call (.Name x p) [.Name x1 p1, .Name x2 p2, .Name x3 p3] [] pos)) pos2) (mRetA F i1 i2 i3) := by
  obtain ⟨n1, a1, b1, c1⟩ := V.v v1
  obtain ⟨n2, a2, b2, c2⟩ := V.v v2
  obtain ⟨n3, a3, b3, c3⟩ := V.v v3
  refine ⟨⟨_, ps_ret (pe_callM C V hG cc (pa_cons (pe_var n1 a1 b1 c1) (pa_cons (pe_var n2 a2 b2 c2) (pa_cons (pe_var n3 a3 b3 c3) pa_nil he3) he2) he) he hpl), fun ps σ Hf H env S De z => ?_⟩⟩
  unfold mRetA at z
  cases w1 : rowsAt env i1 with
  | none => simp only [w1] at z; exact z.elim
  | some k1 =>
    cases w2 : rowsAt env i2 with
    | none => simp only [w1, w2] at z; obtain ⟨_ | _, _⟩ := k1 <;> exact z.elim
    | some k2 =>
      cases w3 : rowsAt env i3 with
      | none => simp only [w1, w2, w3] at z; obtain ⟨_ | _, _⟩ := k1 <;> obtain ⟨_ | _, _⟩ := k2 <;> exact z.elim
      | some k3 =>
        obtain ⟨_ | _, la⟩ := k1 <;> obtain ⟨_ | _, lb⟩ := k2 <;> obtain ⟨_ | _, lc⟩ := k3 <;> simp only [w1, w2, w3] at z <;> try exact z.elim
        cases hF : F (la, lb, lc) with
        | none => rw [hF] at z; exact z.elim
        | some t =>
          rw [hF] at z
          have e1 := rowsAt_eq w1
          have e2 := rowsAt_eq w2
          have e3 := rowsAt_eq w3
          obtain ⟨p, q, r, s1, s2, s3, ow, _⟩ := S.three h12 h13 h23 e1 e2 e3
          refine ⟨_, s1, _, s2, _, s3, p, q, r, Hf, (la, lb, lc), t, rfl, S.ex, ow, hF, fun Hf' H' x y fr => ?_⟩
          have D1 := S.drop i1 (some (.ref p)); rw [set_back s1] at D1
          have D2 := D1.drop i2 (some (.ref q)); rw [set_back s2] at D2
          have D3 := D2.drop i3 (some (.ref r)); rw [set_back s3] at D3
          have l1 : i1 < env.length := (List.getElem?_eq_some_iff.mp e1).1
          have l2 : i2 < env.length := (List.getElem?_eq_some_iff.mp e2).1
          have l3 : i3 < env.length := (List.getElem?_eq_some_iff.mp e3).1
          refine z σ Hf' H' x (D3.frame x y (fun j k l b a h hs f => ?_) fun a u h => ?_) _ (.bl t)
          · have n3 : i3 ≠ j := fun z => by subst z; rw [List.getElem?_set_self (by simpa using l3)] at h; cases h
            rw [List.getElem?_set_ne n3] at h
            have n2 : i2 ≠ j := fun z => by subst z; rw [List.getElem?_set_self (by simpa using l2)] at h; cases h
            rw [List.getElem?_set_ne n2] at h
            have n1 : i1 ≠ j := fun z => by subst z; rw [List.getElem?_set_self l1] at h; cases h
            rw [List.getElem?_set_ne n1] at h
            obtain ⟨w1, u, w2⟩ := S.live h hs f
            obtain ⟨k1, k2⟩ := fr a u w2 w1 fun z => by
              rcases z with z | z | z
              · exact S.apF i1 j _ _ _ _ p b a n1 e1 h s1 hs z f
              · exact S.apF i2 j _ _ _ _ q b a n2 e2 h s2 hs z f
              · exact S.apF i3 j _ _ _ _ r b a n3 e3 h s3 hs z f
            exact ⟨k2, by rw [k1, w2]⟩
          · obtain ⟨w1, w2, w3⟩ := S.fgF a u h
            exact fr a u w1 w2 fun z => by
              rcases z with z | z | z
              · exact w3 i1 _ _ p e1 s1 z
              · exact w3 i2 _ _ q e2 s2 z
              · exact w3 i3 _ _ r e3 s3 z
/-- x.clear(), x a list of own lists -/
def mRClr (i : Nat) : M Fl := fun env => match rowsAt env i with
  | some (k, _) => .ok .nx (env.set i (.own k (.rows [])))
  | none => .stuck
theorem js_rclear {x : Str} {i : Nat} {p1 p2 p3 pos2 : Pos} (V : Nm X N sc raw) (hv : okV N sc i x = true)
    (hbase : attributeBase (.Name x p1) "clear" X.env (eval (.Name x p1) X.env) = eval (.Name x p1) X.env := by rfl)
    (hline : (p2.endLine == p3.line) = true := by rfl)
    (hsw : swapsWith (.Call (.Attribute (.Name x p1) "clear" p2) [] [] p3) none pos2.line X.env = pure false := by rfl) :
    JS X W (.Expr (.Call (.Attribute (.Name x p1) "clear" p2) [] [] p3) pos2) (mRClr i) := by
  obtain ⟨hN, hvi, hd, hcd⟩ := V.v hv
  refine ⟨⟨_, ps_expr (pe_bm0 PySem.F.plainAttrs_list PySem.F.slot_list_clear PySem.F.type_list_clear mt_clear (pe_var hN hvi hd hcd) hbase hline) hsw, fun ps σ Hf H env S De z => ?_⟩⟩
  unfold mRClr at z
  cases w : rowsAt env i with
  | none => rw [w] at z; exact z.elim
  | some kl =>
    obtain ⟨k, l⟩ := kl
    rw [w] at z
    obtain ⟨pa, as, hp, nf, ho, np, nd, rr⟩ := rows_of S (rowsAt_eq w)
    have T := S.rowsTo (as' := []) (ll' := []) (rowsAt_eq w) hp ho (by simp) List.nodup_nil ⟨rfl, fun k a l h => by cases h⟩ (fun b hb => by cases hb)
    exact ⟨.ref pa, hp, .inl ⟨rfl, _, .inl (.inl ho)⟩, pa, _, rfl, rfl, ho, z σ Hf _ (Ex.refl _) T⟩
end
end DL

namespace G_crystalwords_k23_whole_stairs
open PySem PySem.Spec PyProof.Rows L2 DL
/-! the text -/
def topS (i : Nat) : Stmt := PySem.Challenge.pw_crystalwords_k23_whole_stairs.main.body.getD i (.Pass ⟨0, 0, 0, 0⟩)
theorem dv_5 : DivOk 5 = True := eq_true (divOk_of (m := 3) (by decide) (by decide) (by decide))
theorem dv_40 : DivOk 40 = True := eq_true (divOk_of (m := 6) (by decide) (by decide) (by decide))
theorem dv_80 : DivOk 80 = True := eq_true (divOk_of (m := 7) (by decide) (by decide) (by decide))
theorem dv_280 : DivOk 280 = True := eq_true (divOk_of (m := 9) (by decide) (by decide) (by decide))
theorem dv_1400 : DivOk 1400 = True := eq_true (divOk_of (m := 11) (by decide) (by decide) (by decide))
theorem dv_22400 : DivOk 22400 = True := eq_true (divOk_of (m := 15) (by decide) (by decide) (by decide))
theorem nz_2 : ((2 : Int) = 0) = False := eq_false (by decide)
theorem nz_4 : ((4 : Int) = 0) = False := eq_false (by decide)
theorem nz_5 : ((5 : Int) = 0) = False := eq_false (by decide)
theorem nz_7 : ((7 : Int) = 0) = False := eq_false (by decide)
theorem nz_8 : ((8 : Int) = 0) = False := eq_false (by decide)
theorem nz_16 : ((16 : Int) = 0) = False := eq_false (by decide)
theorem pw_10_18 : PowOk 10 18 = True := eq_true (by decide)
theorem pw_10_60 : PowOk 10 60 = True := eq_true (by decide)
theorem pw_10_9 : PowOk 10 9 = True := eq_true (by decide)

abbrev s_law_int : Stmt := topS 12
theorem sc_law_int : FnScope ["_law_thing"] ["_law_thing"] (defScope s_law_int) := ⟨rfl, rfl, rfl, by decide +kernel, rfl, by decide +kernel, by decide +kernel⟩
noncomputable def b_law_int : M Fl :=
  (mRet (vAnd (vNot (bnd (mVar 0) fun d => cIsi "bool" [d])) (bnd (mVar 0) fun d => cIsi "int" [d])))
noncomputable def F_law_int : List D → Rs := runF 1 b_law_int
abbrev N_law_int : List Str := ["_law_thing"]
abbrev sk_law_int : Scope := defScope s_law_int
theorem v_law_int_0 : okV N_law_int sk_law_int 0 "_law_thing" = true := by decide +kernel
theorem g_law_int_bool : okG sk_law_int "bool" = true := by decide +kernel
theorem g_law_int_int : okG sk_law_int "int" = true := by decide +kernel
theorem g_law_int_isinstance : okG sk_law_int "isinstance" = true := by decide +kernel
set_option maxHeartbeats 4000000 in
theorem j_law_int {X : Cx} {W : WX} (C : CtxOk X W) (V : Nm X N_law_int sk_law_int sk_law_int) (Y : Df X) (z_bool : X.mg "bool" = none) (z_int : X.mg "int" = none) (z_isinstance : X.mg "isinstance" = none) : JSs X W (defBody s_law_int) b_law_int :=
  (jss_one (js_ret (je_and (je_not (je_isi (T := "bool") V g_law_int_isinstance g_law_int_bool z_isinstance z_bool (by decide +kernel) (je_var V v_law_int_0))) (je_one (je_isi (T := "int") V g_law_int_isinstance g_law_int_int z_isinstance z_int (by decide +kernel) (je_var V v_law_int_0))))))
theorem ok_law_int {P : Program} {w : World} {K : PySem.W.Frag} {mg : MG} {base : Heap} {f : Addr} {fd : FuncData} (TR : P.given.tree = none) (SR0 : base.NoSeer) (F : Fun K "_law_int" "_law_int" s_law_int f fd) (gm : mg "_law_int" = some (.ref f)) (z_bool : mg "bool" = none) (z_int : mg "int" = none) (z_isinstance : mg "isinstance" = none) :
    FnOk P w K mg base (L2N.CX P w) 41 f fd ["_law_thing"] (spP K mg 1 F_law_int) ∧ Callee P w K mg base "_law_int" 41 1 F_law_int := by
  have G : FnOk P w K mg base (L2N.CX P w) 41 f fd ["_law_thing"] (spP K mg 1 F_law_int) := by
    have G0 := fn_ok (P := P) (w := w) (K := K) (mg := mg) (base := base) (N := N_law_int) (ps := ["_law_thing"]) (k := 40) (g := b_law_int) F ⟨TR, SR0, by decide⟩ sc_law_int (fun X W hP hw hK hmg hb hr C V Y => by subst hP hw hK hmg hb; exact j_law_int C V Y z_bool z_int z_isinstance)
    exact G0
  exact ⟨G, callee_of G gm F.kp (F.binds (ps := ["_law_thing"]) fun _ _ _ _ _ _ us hl => match us, hl with | [_], _ => rfl)⟩

abbrev s_law_is_rows : Stmt := topS 16
theorem sc_law_is_rows : FnScope ["_law_found", "_law_n", "_law_m", "_law_row", "_law_number_here"] ["_law_found", "_law_n", "_law_m"] (defScope s_law_is_rows) := ⟨rfl, rfl, rfl, by decide +kernel, rfl, by decide +kernel, by decide +kernel⟩
noncomputable def b_law_is_rows : M Fl :=
  (sq (mIf (bOr (bNot (bnd (bnd (mVar 0) fun d => cIsi "list" [d]) mTru)) (bnd (m2 (has 0 (onSl 0 fun d => cLen [d])) (mVar 1) mNe) mB)) (mRet (ret (.bl false))) nx)
  (sq (bnd (mSeq (mVar 0)) (forL (gN 3) (sq (mIf (bOr (bNot (bnd (bnd (mVar 3) fun d => cIsi "list" [d]) mTru)) (bnd (m2 (has 3 (onSl 3 fun d => cLen [d])) (mVar 2) mNe) mB)) (mRet (ret (.bl false))) nx)
  (bnd (mSeq (mVar 3)) (forL (gN 4) (mIf (bNot (bnd (mCall (aCons (mVar 4) aNil) F_law_int) mTru)) (mRet (ret (.bl false))) nx))))))
  (mRet (ret (.bl true)))))
noncomputable def F_law_is_rows : List D → Rs := runF 5 b_law_is_rows
abbrev N_law_is_rows : List Str := ["_law_found", "_law_n", "_law_m", "_law_row", "_law_number_here"]
abbrev sk_law_is_rows : Scope := defScope s_law_is_rows
theorem v_law_is_rows_0 : okV N_law_is_rows sk_law_is_rows 0 "_law_found" = true := by decide +kernel
theorem v_law_is_rows_1 : okV N_law_is_rows sk_law_is_rows 1 "_law_n" = true := by decide +kernel
theorem v_law_is_rows_2 : okV N_law_is_rows sk_law_is_rows 2 "_law_m" = true := by decide +kernel
theorem v_law_is_rows_3 : okV N_law_is_rows sk_law_is_rows 3 "_law_row" = true := by decide +kernel
theorem v_law_is_rows_4 : okV N_law_is_rows sk_law_is_rows 4 "_law_number_here" = true := by decide +kernel
theorem w_law_is_rows_3 : okS N_law_is_rows sk_law_is_rows sk_law_is_rows 3 "_law_row" = true := by decide +kernel
theorem w_law_is_rows_4 : okS N_law_is_rows sk_law_is_rows sk_law_is_rows 4 "_law_number_here" = true := by decide +kernel
theorem g_law_is_rows_law_int : okG sk_law_is_rows "_law_int" = true := by decide +kernel
theorem g_law_is_rows_isinstance : okG sk_law_is_rows "isinstance" = true := by decide +kernel
theorem g_law_is_rows_len : okG sk_law_is_rows "len" = true := by decide +kernel
theorem g_law_is_rows_list : okG sk_law_is_rows "list" = true := by decide +kernel
set_option maxHeartbeats 4000000 in
theorem j_law_is_rows {X : Cx} {W : WX} (C : CtxOk X W) (V : Nm X N_law_is_rows sk_law_is_rows sk_law_is_rows) (Y : Df X) (c_law_int : Cal X "_law_int" 1 F_law_int) (z_isinstance : X.mg "isinstance" = none) (z_len : X.mg "len" = none) (z_list : X.mg "list" = none) : JSs X W (defBody s_law_is_rows) b_law_is_rows :=
  (jss_cons (js_if (JW.jt (jw_or (jt_not (jt_tru (je_isi (T := "list") V g_law_is_rows_isinstance g_law_is_rows_list z_isinstance z_list (by decide +kernel) (je_var V v_law_is_rows_0)))) (jw_or1 (jt_ne C (je_lenN V v_law_is_rows_0 g_law_is_rows_len z_len) (je_var V v_law_is_rows_1))))) (jss_one (js_ret je_bl)) jss_nil)
    (jss_cons (js_for C (ji_seq (je_var V v_law_is_rows_0)) (jg_name V w_law_is_rows_3) (jss_cons (js_if (JW.jt (jw_or (jt_not (jt_tru (je_isi (T := "list") V g_law_is_rows_isinstance g_law_is_rows_list z_isinstance z_list (by decide +kernel) (je_var V v_law_is_rows_3)))) (jw_or1 (jt_ne C (je_lenN V v_law_is_rows_3 g_law_is_rows_len z_len) (je_var V v_law_is_rows_2))))) (jss_one (js_ret je_bl)) jss_nil)
    (jss_one (js_for C (ji_seq (je_var V v_law_is_rows_3)) (jg_name V w_law_is_rows_4) (jss_one (js_if (jt_not (jt_tru (je_call C V g_law_is_rows_law_int c_law_int (ja_cons (je_var V v_law_is_rows_4) ja_nil) (alen_cons alen_nil)))) (jss_one (js_ret je_bl)) jss_nil))))))
    (jss_one (js_ret je_bl))))
theorem ok_law_is_rows {P : Program} {w : World} {K : PySem.W.Frag} {mg : MG} {base : Heap} {f : Addr} {fd : FuncData} (TR : P.given.tree = none) (SR0 : base.NoSeer) (F : Fun K "_law_is_rows" "_law_is_rows" s_law_is_rows f fd) (gm : mg "_law_is_rows" = some (.ref f)) (c_law_int : Callee P w K mg base "_law_int" 41 1 F_law_int) (z_isinstance : mg "isinstance" = none) (z_len : mg "len" = none) (z_list : mg "list" = none) :
    FnOk P w K mg base (L2N.CX P w) 42 f fd ["_law_found", "_law_n", "_law_m"] (spP K mg 3 F_law_is_rows) ∧ Callee P w K mg base "_law_is_rows" 42 3 F_law_is_rows := by
  have G : FnOk P w K mg base (L2N.CX P w) 42 f fd ["_law_found", "_law_n", "_law_m"] (spP K mg 3 F_law_is_rows) := by
    have G0 := fn_ok (P := P) (w := w) (K := K) (mg := mg) (base := base) (N := N_law_is_rows) (ps := ["_law_found", "_law_n", "_law_m"]) (k := 41) (g := b_law_is_rows) F ⟨TR, SR0, by decide⟩ sc_law_is_rows (fun X W hP hw hK hmg hb hr C V Y => by subst hP hw hK hmg hb; exact j_law_is_rows C V Y (c_law_int.cal hr) z_isinstance z_len z_list)
    exact G0
  exact ⟨G, callee_of G gm F.kp (F.binds (ps := ["_law_found", "_law_n", "_law_m"]) fun _ _ _ _ _ _ us hl => match us, hl with | [_, _, _], _ => rfl)⟩

abbrev s_law_times : Stmt := topS 17
theorem sc_law_times : FnScope ["_law_one", "_law_other", "_law_found", "_law_row", "_law_made", "_law_number_here", "_law_j", "_law_more"] ["_law_one", "_law_other"] (defScope s_law_times) := ⟨rfl, rfl, rfl, by decide +kernel, rfl, by decide +kernel, by decide +kernel⟩
noncomputable def b_law_times : M Fl :=
  (sq (mOwn 2 (mFl aNil))
  (sq (bnd (mSeq (mVar 0)) (forL (gN 3) (sq (mAsg 4 (mLc [5] (mSeq (mIxN 1 (ret (.int 0)))) (gN 5) (ret true) (ret (.int 0))))
  (sq (bnd (mRng1 (aCons (has 3 (onSl 3 fun d => cLen [d])) aNil)) (forL (gN 6) (mIf (bnd (m2 (mIxN 3 (mVar 6)) (ret (.int 0)) mNe) mB) (mAsg 4 (mLc [5, 7] (mZipM (aCons (mVar 4) (aCons (mIxN 1 (mVar 6)) aNil))) (gTp 2 (gsCons (gN 5) (gsCons (gN 7) gsNil))) (ret true) (m2 (mVar 5) (m2 (mIxN 3 (mVar 6)) (mVar 7) (g2i iMul)) mAdd))) nx)))
  (mApp 2 (mVar 4))))))
  (mRet (mVar 2))))
noncomputable def F_law_times : List D → Rs := runF 8 b_law_times
abbrev N_law_times : List Str := ["_law_one", "_law_other", "_law_found", "_law_row", "_law_made", "_law_number_here", "_law_j", "_law_more"]
abbrev sk_law_times : Scope := defScope s_law_times
theorem v_law_times_0 : okV N_law_times sk_law_times 0 "_law_one" = true := by decide +kernel
theorem v_law_times_1 : okV N_law_times sk_law_times 1 "_law_other" = true := by decide +kernel
theorem v_law_times_2 : okV N_law_times sk_law_times 2 "_law_found" = true := by decide +kernel
theorem v_law_times_3 : okV N_law_times sk_law_times 3 "_law_row" = true := by decide +kernel
theorem v_law_times_4 : okV N_law_times sk_law_times 4 "_law_made" = true := by decide +kernel
theorem v_law_times_6 : okV N_law_times sk_law_times 6 "_law_j" = true := by decide +kernel
theorem w_law_times_2 : okS N_law_times sk_law_times sk_law_times 2 "_law_found" = true := by decide +kernel
theorem w_law_times_3 : okS N_law_times sk_law_times sk_law_times 3 "_law_row" = true := by decide +kernel
theorem w_law_times_4 : okS N_law_times sk_law_times sk_law_times 4 "_law_made" = true := by decide +kernel
theorem w_law_times_6 : okS N_law_times sk_law_times sk_law_times 6 "_law_j" = true := by decide +kernel
theorem g_law_times_len : okG sk_law_times "len" = true := by decide +kernel
theorem g_law_times_range : okG sk_law_times "range" = true := by decide +kernel
theorem g_law_times_zip : okG sk_law_times "zip" = true := by decide +kernel
set_option maxHeartbeats 4000000 in
theorem j_law_times {X : Cx} {W : WX} (C : CtxOk X W) (V : Nm X N_law_times sk_law_times sk_law_times) (Y : Df X) (z_len : X.mg "len" = none) (z_range : X.mg "range" = none) (z_zip : X.mg "zip" = none) : JSs X W (defBody s_law_times) b_law_times :=
  (jss_cons (js_own V w_law_times_2 (jf_lst ja_nil))
    (jss_cons (js_for C (ji_seq (je_var V v_law_times_0)) (jg_name V w_law_times_3) (jss_cons (js_setLc (own := [("_law_number_here", 5)]) C V w_law_times_4 (by decide +kernel) (by decide +kernel) rfl (by decide) (by decide) (ji_seq (je_ixN V v_law_times_1 je_int)) (fun X1 V1 C1 B1 => (jgv_name V1 (by decide +kernel) (by decide))) (fun X1 V1 C1 B1 => jts_nil) (fun X1 V1 C1 B1 => je_int))
    (jss_cons (js_for C (ji_range1 V g_law_times_range z_range (ja_cons (je_lenN V v_law_times_3 g_law_times_len z_len) ja_nil)) (jg_name V w_law_times_6) (jss_one (js_if (jt_ne C (je_ixN V v_law_times_3 (je_var V v_law_times_6)) je_int) (jss_one (js_setLc (own := [("_law_number_here", 5), ("_law_more", 7)]) C V w_law_times_4 (by decide +kernel) (by decide +kernel) rfl (by decide) (by decide) (ji_zipM V g_law_times_zip z_zip (ja_cons (je_var V v_law_times_4) (ja_cons (je_ixN V v_law_times_1 (je_var V v_law_times_6)) ja_nil))) (fun X2 V2 C2 B2 => (jgv_tup (n := 2) C2.calm (jgvs_cons (jgv_name V2 (by decide +kernel) (by decide)) (jgvs_cons (jgv_name V2 (by decide +kernel) (by decide)) jgvs_nil)))) (fun X2 V2 C2 B2 => jts_nil) (fun X2 V2 C2 B2 => (je_add (je_var V2 (by decide +kernel)) (je_mul (je_ixN V2 (by decide +kernel) (je_var V2 (by decide +kernel))) (je_var V2 (by decide +kernel))))))) jss_nil)))
    (jss_one (js_app V v_law_times_2 (je_var V v_law_times_4))))))
    (jss_one (js_ret (je_var V v_law_times_2)))))
theorem ok_law_times {P : Program} {w : World} {K : PySem.W.Frag} {mg : MG} {base : Heap} {f : Addr} {fd : FuncData} (TR : P.given.tree = none) (SR0 : base.NoSeer) (F : Fun K "_law_times" "_law_times" s_law_times f fd) (gm : mg "_law_times" = some (.ref f)) (z_len : mg "len" = none) (z_range : mg "range" = none) (z_zip : mg "zip" = none) :
    FnOk P w K mg base (L2N.CX P w) 41 f fd ["_law_one", "_law_other"] (spP K mg 2 F_law_times) ∧ Callee P w K mg base "_law_times" 41 2 F_law_times := by
  have G : FnOk P w K mg base (L2N.CX P w) 41 f fd ["_law_one", "_law_other"] (spP K mg 2 F_law_times) := by
    have G0 := fn_ok (P := P) (w := w) (K := K) (mg := mg) (base := base) (N := N_law_times) (ps := ["_law_one", "_law_other"]) (k := 40) (g := b_law_times) F ⟨TR, SR0, by decide⟩ sc_law_times (fun X W hP hw hK hmg hb hr C V Y => by subst hP hw hK hmg hb; exact j_law_times C V Y z_len z_range z_zip)
    exact G0
  exact ⟨G, callee_of G gm F.kp (F.binds (ps := ["_law_one", "_law_other"]) fun _ _ _ _ _ _ us hl => match us, hl with | [_, _], _ => rfl)⟩

abbrev s_law_lead : Stmt := topS 18
theorem sc_law_lead : FnScope ["_law_row", "_law_k"] ["_law_row"] (defScope s_law_lead) := ⟨rfl, rfl, rfl, by decide +kernel, rfl, by decide +kernel, by decide +kernel⟩
noncomputable def b_law_lead : M Fl :=
  (sq (bnd (mRng1 (aCons (has 0 (onSl 0 fun d => cLen [d])) aNil)) (forL (gN 1) (mIf (bnd (m2 (mIxN 0 (mVar 1)) (ret (.int 0)) mNe) mB) (mRet (mVar 1)) nx)))
  (mRet (has 0 (onSl 0 fun d => cLen [d]))))
noncomputable def F_law_lead : List D → Rs := runF 2 b_law_lead
abbrev N_law_lead : List Str := ["_law_row", "_law_k"]
abbrev sk_law_lead : Scope := defScope s_law_lead
theorem v_law_lead_0 : okV N_law_lead sk_law_lead 0 "_law_row" = true := by decide +kernel
theorem v_law_lead_1 : okV N_law_lead sk_law_lead 1 "_law_k" = true := by decide +kernel
theorem w_law_lead_1 : okS N_law_lead sk_law_lead sk_law_lead 1 "_law_k" = true := by decide +kernel
theorem g_law_lead_len : okG sk_law_lead "len" = true := by decide +kernel
theorem g_law_lead_range : okG sk_law_lead "range" = true := by decide +kernel
set_option maxHeartbeats 4000000 in
theorem j_law_lead {X : Cx} {W : WX} (C : CtxOk X W) (V : Nm X N_law_lead sk_law_lead sk_law_lead) (Y : Df X) (z_len : X.mg "len" = none) (z_range : X.mg "range" = none) : JSs X W (defBody s_law_lead) b_law_lead :=
  (jss_cons (js_for C (ji_range1 V g_law_lead_range z_range (ja_cons (je_lenN V v_law_lead_0 g_law_lead_len z_len) ja_nil)) (jg_name V w_law_lead_1) (jss_one (js_if (jt_ne C (je_ixN V v_law_lead_0 (je_var V v_law_lead_1)) je_int) (jss_one (js_ret (je_var V v_law_lead_1))) jss_nil)))
    (jss_one (js_ret (je_lenN V v_law_lead_0 g_law_lead_len z_len))))
theorem ok_law_lead {P : Program} {w : World} {K : PySem.W.Frag} {mg : MG} {base : Heap} {f : Addr} {fd : FuncData} (TR : P.given.tree = none) (SR0 : base.NoSeer) (F : Fun K "_law_lead" "_law_lead" s_law_lead f fd) (gm : mg "_law_lead" = some (.ref f)) (z_len : mg "len" = none) (z_range : mg "range" = none) :
    FnOk P w K mg base (L2N.CX P w) 41 f fd ["_law_row"] (spP K mg 1 F_law_lead) ∧ Callee P w K mg base "_law_lead" 41 1 F_law_lead := by
  have G : FnOk P w K mg base (L2N.CX P w) 41 f fd ["_law_row"] (spP K mg 1 F_law_lead) := by
    have G0 := fn_ok (P := P) (w := w) (K := K) (mg := mg) (base := base) (N := N_law_lead) (ps := ["_law_row"]) (k := 40) (g := b_law_lead) F ⟨TR, SR0, by decide⟩ sc_law_lead (fun X W hP hw hK hmg hb hr C V Y => by subst hP hw hK hmg hb; exact j_law_lead C V Y z_len z_range)
    exact G0
  exact ⟨G, callee_of G gm F.kp (F.binds (ps := ["_law_row"]) fun _ _ _ _ _ _ us hl => match us, hl with | [_], _ => rfl)⟩

abbrev s_law_stairs : Stmt := topS 19
theorem sc_law_stairs : FnScope ["_law_form", "_law_past", "_law_i", "_law_at", "_law_j", "_law_row"] ["_law_form"] (defScope s_law_stairs) := ⟨rfl, rfl, rfl, by decide +kernel, rfl, by decide +kernel, by decide +kernel⟩
noncomputable def b_law_stairs : M Fl :=
  (sq (mAsg 1 (bnd (ret (.int 1)) (u1i fun i => ret (.int (-i)))))
  (sq (bnd (mRng1 (aCons (has 0 (onSl 0 fun d => cLen [d])) aNil)) (forL (gN 2) (sq (mAsg 3 (mCall (aCons (mIxN 0 (mVar 2)) aNil) F_law_lead))
  (sq (mIf (bnd (m2 (mVar 3) (bnd (aCons (mIxN 0 (mVar 2)) aNil) cLen) (g2i (iCmp fun i j => decide (i < j)))) mB) (sq (mIf (bOr (bnd (m2 (mVar 3) (mVar 1) (g2i (iCmp fun i j => decide (i ≤ j)))) mB) (bnd (m2 (m2 (mIxN 0 (mVar 2)) (mVar 3) mIx) (ret (.int 1)) (g2i (iCmp fun i j => decide (i < j)))) mB)) (mRet (ret (.bl false))) nx)
  (bnd (mRng1 (aCons (mVar 2) aNil)) (forL (gN 4) (mIf (bOr (bnd (m2 (m2 (mIxN 0 (mVar 4)) (mVar 3) mIx) (ret (.int 0)) (g2i (iCmp fun i j => decide (i < j)))) mB) (bnd (m2 (m2 (mIxN 0 (mVar 4)) (mVar 3) mIx) (m2 (mIxN 0 (mVar 2)) (mVar 3) mIx) (g2i (iCmp fun i j => decide (j ≤ i)))) mB)) (mRet (ret (.bl false))) nx)))) nx)
  (sq (mAsg 1 (mVar 3))
  (mIf (bAnd (bnd (m2 (mVar 3) (bnd (aCons (mIxN 0 (mVar 2)) aNil) cLen) mEq) mB) (bnd (m2 (mLc [5] (mSeq (mSlice (mVar 0) (oSome (mVar 2)) oNone)) (gN 5) (bnd (m2 (mCall (aCons (mVar 5) aNil) F_law_lead) (mVar 3) (g2i (iCmp fun i j => decide (i < j)))) mB) (mVar 5)) (mLst aNil) mNe) mB)) (mRet (ret (.bl false))) nx))))))
  (mRet (ret (.bl true)))))
noncomputable def F_law_stairs : List D → Rs := runF 6 b_law_stairs
abbrev N_law_stairs : List Str := ["_law_form", "_law_past", "_law_i", "_law_at", "_law_j", "_law_row"]
abbrev sk_law_stairs : Scope := defScope s_law_stairs
theorem v_law_stairs_0 : okV N_law_stairs sk_law_stairs 0 "_law_form" = true := by decide +kernel
theorem v_law_stairs_1 : okV N_law_stairs sk_law_stairs 1 "_law_past" = true := by decide +kernel
theorem v_law_stairs_2 : okV N_law_stairs sk_law_stairs 2 "_law_i" = true := by decide +kernel
theorem v_law_stairs_3 : okV N_law_stairs sk_law_stairs 3 "_law_at" = true := by decide +kernel
theorem v_law_stairs_4 : okV N_law_stairs sk_law_stairs 4 "_law_j" = true := by decide +kernel
theorem w_law_stairs_1 : okS N_law_stairs sk_law_stairs sk_law_stairs 1 "_law_past" = true := by decide +kernel
theorem w_law_stairs_2 : okS N_law_stairs sk_law_stairs sk_law_stairs 2 "_law_i" = true := by decide +kernel
theorem w_law_stairs_3 : okS N_law_stairs sk_law_stairs sk_law_stairs 3 "_law_at" = true := by decide +kernel
theorem w_law_stairs_4 : okS N_law_stairs sk_law_stairs sk_law_stairs 4 "_law_j" = true := by decide +kernel
theorem g_law_stairs_law_lead : okG sk_law_stairs "_law_lead" = true := by decide +kernel
theorem g_law_stairs_len : okG sk_law_stairs "len" = true := by decide +kernel
theorem g_law_stairs_range : okG sk_law_stairs "range" = true := by decide +kernel
set_option maxHeartbeats 4000000 in
theorem j_law_stairs {X : Cx} {W : WX} (C : CtxOk X W) (V : Nm X N_law_stairs sk_law_stairs sk_law_stairs) (Y : Df X) (c_law_lead : Cal X "_law_lead" 1 F_law_lead) (z_len : X.mg "len" = none) (z_range : X.mg "range" = none) : JSs X W (defBody s_law_stairs) b_law_stairs :=
  (jss_cons (js_asg V w_law_stairs_1 (je_neg je_int))
    (jss_cons (js_for C (ji_range1 V g_law_stairs_range z_range (ja_cons (je_lenN V v_law_stairs_0 g_law_stairs_len z_len) ja_nil)) (jg_name V w_law_stairs_2) (jss_cons (js_asg V w_law_stairs_3 (je_call C V g_law_stairs_law_lead c_law_lead (ja_cons (je_ixN V v_law_stairs_0 (je_var V v_law_stairs_2)) ja_nil) (alen_cons alen_nil)))
    (jss_cons (js_if (jt_lt (je_var V v_law_stairs_3) (je_len V g_law_stairs_len z_len (ja_cons (je_ixN V v_law_stairs_0 (je_var V v_law_stairs_2)) ja_nil))) (jss_cons (js_if (JW.jt (jw_or (jt_le (je_var V v_law_stairs_3) (je_var V v_law_stairs_1)) (jw_or1 (jt_lt (je_ix (je_ixN V v_law_stairs_0 (je_var V v_law_stairs_2)) (je_var V v_law_stairs_3)) je_int)))) (jss_one (js_ret je_bl)) jss_nil)
    (jss_one (js_for C (ji_range1 V g_law_stairs_range z_range (ja_cons (je_var V v_law_stairs_2) ja_nil)) (jg_name V w_law_stairs_4) (jss_one (js_if (JW.jt (jw_or (jt_lt (je_ix (je_ixN V v_law_stairs_0 (je_var V v_law_stairs_4)) (je_var V v_law_stairs_3)) je_int) (jw_or1 (jt_ge (je_ix (je_ixN V v_law_stairs_0 (je_var V v_law_stairs_4)) (je_var V v_law_stairs_3)) (je_ix (je_ixN V v_law_stairs_0 (je_var V v_law_stairs_2)) (je_var V v_law_stairs_3)))))) (jss_one (js_ret je_bl)) jss_nil))))) jss_nil)
    (jss_cons (js_asg V w_law_stairs_1 (je_var V v_law_stairs_3))
    (jss_one (js_if (JW.jt (jw_and (jt_eq C (je_var V v_law_stairs_3) (je_len V g_law_stairs_len z_len (ja_cons (je_ixN V v_law_stairs_0 (je_var V v_law_stairs_2)) ja_nil))) (jw_and1 (jt_ne C (je_lc (own := [("_law_row", 5)]) C V (by decide +kernel) rfl (ji_seq (je_slice (je_var V v_law_stairs_0) (jo_some (je_var V v_law_stairs_2)) jo_none)) (fun X1 V1 C1 B1 => (jgv_name V1 (by decide +kernel) (by decide))) (fun X1 V1 C1 B1 => (jts_one (jt_lt (je_call C1 V1 (by decide +kernel) (B1.cal c_law_lead) (ja_cons (je_var V1 (by decide +kernel)) ja_nil) (alen_cons alen_nil)) (je_var V1 (by decide +kernel))))) (fun X1 V1 C1 B1 => (je_var V1 (by decide +kernel)))) (je_lst ja_nil))))) (jss_one (js_ret je_bl)) jss_nil))))))
    (jss_one (js_ret je_bl))))
theorem ok_law_stairs {P : Program} {w : World} {K : PySem.W.Frag} {mg : MG} {base : Heap} {f : Addr} {fd : FuncData} (TR : P.given.tree = none) (SR0 : base.NoSeer) (F : Fun K "_law_stairs" "_law_stairs" s_law_stairs f fd) (gm : mg "_law_stairs" = some (.ref f)) (c_law_lead : Callee P w K mg base "_law_lead" 41 1 F_law_lead) (z_len : mg "len" = none) (z_range : mg "range" = none) :
    FnOk P w K mg base (L2N.CX P w) 42 f fd ["_law_form"] (spP K mg 1 F_law_stairs) ∧ Callee P w K mg base "_law_stairs" 42 1 F_law_stairs := by
  have G : FnOk P w K mg base (L2N.CX P w) 42 f fd ["_law_form"] (spP K mg 1 F_law_stairs) := by
    have G0 := fn_ok (P := P) (w := w) (K := K) (mg := mg) (base := base) (N := N_law_stairs) (ps := ["_law_form"]) (k := 41) (g := b_law_stairs) F ⟨TR, SR0, by decide⟩ sc_law_stairs (fun X W hP hw hK hmg hb hr C V Y => by subst hP hw hK hmg hb; exact j_law_stairs C V Y (c_law_lead.cal hr) z_len z_range)
    exact G0
  exact ⟨G, callee_of G gm F.kp (F.binds (ps := ["_law_form"]) fun _ _ _ _ _ _ us hl => match us, hl with | [_], _ => rfl)⟩

abbrev s_law_handed : Stmt := topS 20
theorem sc_law_handed : FnScope ["_law_rows_here", "_law_way", "_law_found", "_law_row"] ["_law_rows_here", "_law_way"] (defScope s_law_handed) := ⟨rfl, rfl, rfl, by decide +kernel, rfl, by decide +kernel, by decide +kernel⟩
noncomputable def b_law_handed : M Fl :=
  (sq (mAsg 2 (mLc [3] (mSeq (mVar 0)) (gN 3) (ret true) (bnd (aCons (mVar 3) aNil) cList)))
  (sq (mIf (bOr (bnd (m2 (m2 (mVar 1) (ret (.int 4)) (g2i iMod)) (ret (.int 1)) mEq) mB) (bnd (m2 (m2 (mVar 1) (ret (.int 4)) (g2i iMod)) (ret (.int 2)) mEq) mB)) (mAsg 2 (mLc [3] (mSeq (mVar 0)) (gN 3) (ret true) (bnd (aCons (mVar 3) aNil) cTuple))) nx)
  (sq (mIf (bOr (bnd (m2 (m2 (mVar 1) (ret (.int 4)) (g2i iMod)) (ret (.int 1)) mEq) mB) (bnd (m2 (m2 (mVar 1) (ret (.int 4)) (g2i iMod)) (ret (.int 3)) mEq) mB)) (mAsg 2 (bnd (aCons (mVar 2) aNil) cTuple)) nx)
  (mRet (mVar 2)))))
noncomputable def F_law_handed : List D → Rs := runF 4 b_law_handed
abbrev N_law_handed : List Str := ["_law_rows_here", "_law_way", "_law_found", "_law_row"]
abbrev sk_law_handed : Scope := defScope s_law_handed
theorem v_law_handed_0 : okV N_law_handed sk_law_handed 0 "_law_rows_here" = true := by decide +kernel
theorem v_law_handed_1 : okV N_law_handed sk_law_handed 1 "_law_way" = true := by decide +kernel
theorem v_law_handed_2 : okV N_law_handed sk_law_handed 2 "_law_found" = true := by decide +kernel
theorem w_law_handed_2 : okS N_law_handed sk_law_handed sk_law_handed 2 "_law_found" = true := by decide +kernel
theorem g_law_handed_tuple : okG sk_law_handed "tuple" = true := by decide +kernel
set_option maxHeartbeats 4000000 in
theorem j_law_handed {X : Cx} {W : WX} (C : CtxOk X W) (V : Nm X N_law_handed sk_law_handed sk_law_handed) (Y : Df X) (z_list : X.mg "list" = none) (z_tuple : X.mg "tuple" = none) : JSs X W (defBody s_law_handed) b_law_handed :=
  (jss_cons (js_setLc (own := [("_law_row", 3)]) C V w_law_handed_2 (by decide +kernel) (by decide +kernel) rfl (by decide) (by decide) (ji_seq (je_var V v_law_handed_0)) (fun X1 V1 C1 B1 => (jgv_name V1 (by decide +kernel) (by decide))) (fun X1 V1 C1 B1 => jts_nil) (fun X1 V1 C1 B1 => (je_list V1 (by decide +kernel) (B1.z z_list) (ja_cons (je_var V1 (by decide +kernel)) ja_nil))))
    (jss_cons (js_if (JW.jt (jw_or (jt_eq C (je_mod (je_var V v_law_handed_1) je_int) je_int) (jw_or1 (jt_eq C (je_mod (je_var V v_law_handed_1) je_int) je_int)))) (jss_one (js_setLc (own := [("_law_row", 3)]) C V w_law_handed_2 (by decide +kernel) (by decide +kernel) rfl (by decide) (by decide) (ji_seq (je_var V v_law_handed_0)) (fun X2 V2 C2 B2 => (jgv_name V2 (by decide +kernel) (by decide))) (fun X2 V2 C2 B2 => jts_nil) (fun X2 V2 C2 B2 => (je_tuple V2 (by decide +kernel) (B2.z z_tuple) (ja_cons (je_var V2 (by decide +kernel)) ja_nil))))) jss_nil)
    (jss_cons (js_if (JW.jt (jw_or (jt_eq C (je_mod (je_var V v_law_handed_1) je_int) je_int) (jw_or1 (jt_eq C (je_mod (je_var V v_law_handed_1) je_int) je_int)))) (jss_one (js_asg V w_law_handed_2 (je_tuple V g_law_handed_tuple z_tuple (ja_cons (je_var V v_law_handed_2) ja_nil)))) jss_nil)
    (jss_one (js_ret (je_var V v_law_handed_2))))))
theorem ok_law_handed {P : Program} {w : World} {K : PySem.W.Frag} {mg : MG} {base : Heap} {f : Addr} {fd : FuncData} (TR : P.given.tree = none) (SR0 : base.NoSeer) (F : Fun K "_law_handed" "_law_handed" s_law_handed f fd) (gm : mg "_law_handed" = some (.ref f)) (z_list : mg "list" = none) (z_tuple : mg "tuple" = none) :
    FnOk P w K mg base (L2N.CX P w) 41 f fd ["_law_rows_here", "_law_way"] (spP K mg 2 F_law_handed) ∧ Callee P w K mg base "_law_handed" 41 2 F_law_handed := by
  have G : FnOk P w K mg base (L2N.CX P w) 41 f fd ["_law_rows_here", "_law_way"] (spP K mg 2 F_law_handed) := by
    have G0 := fn_ok (P := P) (w := w) (K := K) (mg := mg) (base := base) (N := N_law_handed) (ps := ["_law_rows_here", "_law_way"]) (k := 40) (g := b_law_handed) F ⟨TR, SR0, by decide⟩ sc_law_handed (fun X W hP hw hK hmg hb hr C V Y => by subst hP hw hK hmg hb; exact j_law_handed C V Y z_list z_tuple)
    exact G0
  exact ⟨G, callee_of G gm F.kp (F.binds (ps := ["_law_rows_here", "_law_way"]) fun _ _ _ _ _ _ us hl => match us, hl with | [_, _], _ => rfl)⟩

abbrev s_law_cell : Stmt := topS 11
theorem sc_law_cell : FnScope ["_law_script", "_law_k"] ["_law_script", "_law_k"] (defScope s_law_cell) := ⟨rfl, rfl, rfl, by decide +kernel, rfl, by decide +kernel, by decide +kernel⟩
noncomputable def b_law_cell : M Fl :=
  (mRet (mIf (bnd (m2 (mVar 1) (has 0 (onSl 0 fun d => cLen [d])) (g2i (iCmp fun i j => decide (i < j)))) mB) (mIxN 0 (mVar 1)) (ret (.int 0))))
noncomputable def F_law_cell : List D → Rs := runF 2 b_law_cell
abbrev N_law_cell : List Str := ["_law_script", "_law_k"]
abbrev sk_law_cell : Scope := defScope s_law_cell
theorem v_law_cell_0 : okV N_law_cell sk_law_cell 0 "_law_script" = true := by decide +kernel
theorem v_law_cell_1 : okV N_law_cell sk_law_cell 1 "_law_k" = true := by decide +kernel
theorem g_law_cell_len : okG sk_law_cell "len" = true := by decide +kernel
set_option maxHeartbeats 4000000 in
theorem j_law_cell {X : Cx} {W : WX} (C : CtxOk X W) (V : Nm X N_law_cell sk_law_cell sk_law_cell) (Y : Df X) (z_len : X.mg "len" = none) : JSs X W (defBody s_law_cell) b_law_cell :=
  (jss_one (js_ret (je_if (jt_lt (je_var V v_law_cell_1) (je_lenN V v_law_cell_0 g_law_cell_len z_len)) (je_ixN V v_law_cell_0 (je_var V v_law_cell_1)) je_int)))
theorem ok_law_cell {P : Program} {w : World} {K : PySem.W.Frag} {mg : MG} {base : Heap} {f : Addr} {fd : FuncData} (TR : P.given.tree = none) (SR0 : base.NoSeer) (F : Fun K "_law_cell" "_law_cell" s_law_cell f fd) (gm : mg "_law_cell" = some (.ref f)) (z_len : mg "len" = none) :
    FnOk P w K mg base (L2N.CX P w) 41 f fd ["_law_script", "_law_k"] (spP K mg 2 F_law_cell) ∧ Callee P w K mg base "_law_cell" 41 2 F_law_cell := by
  have G : FnOk P w K mg base (L2N.CX P w) 41 f fd ["_law_script", "_law_k"] (spP K mg 2 F_law_cell) := by
    have G0 := fn_ok (P := P) (w := w) (K := K) (mg := mg) (base := base) (N := N_law_cell) (ps := ["_law_script", "_law_k"]) (k := 40) (g := b_law_cell) F ⟨TR, SR0, by decide⟩ sc_law_cell (fun X W hP hw hK hmg hb hr C V Y => by subst hP hw hK hmg hb; exact j_law_cell C V Y z_len)
    exact G0
  exact ⟨G, callee_of G gm F.kp (F.binds (ps := ["_law_script", "_law_k"]) fun _ _ _ _ _ _ us hl => match us, hl with | [_, _], _ => rfl)⟩

abbrev s_law_told_rows : Stmt := topS 14
theorem sc_law_told_rows : FnScope ["_law_left", "_law_many", "_law_n", "_law_most", "_law_rows_here", "_law_i", "_law_row", "_law_k"] ["_law_left"] (defScope s_law_told_rows) := ⟨rfl, rfl, rfl, by decide +kernel, rfl, by decide +kernel, by decide +kernel⟩
noncomputable def b_law_told_rows : M Fl :=
  (sq (mAsg 1 (m2 (ret (.int 1)) (m2 (mVar 0) (ret (.int 5)) (g2i iMod)) mAdd))
  (sq (mAsg 2 (m2 (ret (.int 1)) (m2 (m2 (mVar 0) (ret (.int 5)) (g2i iDiv)) (ret (.int 8)) (g2i iMod)) mAdd))
  (sq (mAsg 3 (m2 (mLst (aCons (ret (.int 9)) (aCons (m2 (ret (.int 10)) (ret (.int 9)) (g2i iPow)) aNil))) (m2 (m2 (mVar 0) (ret (.int 40)) (g2i iDiv)) (ret (.int 2)) (g2i iMod)) mIx))
  (sq (mAsg 0 (m2 (mVar 0) (ret (.int 80)) (g2i iDiv)))
  (sq (mOwn 4 (mFl aNil))
  (sq (bnd (mRng1 (aCons (mVar 2) aNil)) (forL (gN 5) (sq (mOwn 6 (mFl aNil))
  (sq (bnd (mRng1 (aCons (mVar 1) aNil)) (forL (gN 7) (sq (mApp 6 (m2 (m2 (mVar 0) (m2 (m2 (ret (.int 2)) (mVar 3) (g2i iMul)) (ret (.int 1)) mAdd) (g2i iMod)) (mVar 3) (g2i iSub)))
  (mAsg 0 (m2 (mVar 0) (m2 (m2 (ret (.int 2)) (mVar 3) (g2i iMul)) (ret (.int 1)) mAdd) (g2i iDiv))))))
  (mApp 4 (mVar 6))))))
  (mRet (mVar 4))))))))
noncomputable def F_law_told_rows : List D → Rs := runF 8 b_law_told_rows
abbrev N_law_told_rows : List Str := ["_law_left", "_law_many", "_law_n", "_law_most", "_law_rows_here", "_law_i", "_law_row", "_law_k"]
abbrev sk_law_told_rows : Scope := defScope s_law_told_rows
theorem v_law_told_rows_0 : okV N_law_told_rows sk_law_told_rows 0 "_law_left" = true := by decide +kernel
theorem v_law_told_rows_1 : okV N_law_told_rows sk_law_told_rows 1 "_law_many" = true := by decide +kernel
theorem v_law_told_rows_2 : okV N_law_told_rows sk_law_told_rows 2 "_law_n" = true := by decide +kernel
theorem v_law_told_rows_3 : okV N_law_told_rows sk_law_told_rows 3 "_law_most" = true := by decide +kernel
theorem v_law_told_rows_4 : okV N_law_told_rows sk_law_told_rows 4 "_law_rows_here" = true := by decide +kernel
theorem v_law_told_rows_6 : okV N_law_told_rows sk_law_told_rows 6 "_law_row" = true := by decide +kernel
theorem w_law_told_rows_0 : okS N_law_told_rows sk_law_told_rows sk_law_told_rows 0 "_law_left" = true := by decide +kernel
theorem w_law_told_rows_1 : okS N_law_told_rows sk_law_told_rows sk_law_told_rows 1 "_law_many" = true := by decide +kernel
theorem w_law_told_rows_2 : okS N_law_told_rows sk_law_told_rows sk_law_told_rows 2 "_law_n" = true := by decide +kernel
theorem w_law_told_rows_3 : okS N_law_told_rows sk_law_told_rows sk_law_told_rows 3 "_law_most" = true := by decide +kernel
theorem w_law_told_rows_4 : okS N_law_told_rows sk_law_told_rows sk_law_told_rows 4 "_law_rows_here" = true := by decide +kernel
theorem w_law_told_rows_5 : okS N_law_told_rows sk_law_told_rows sk_law_told_rows 5 "_law_i" = true := by decide +kernel
theorem w_law_told_rows_6 : okS N_law_told_rows sk_law_told_rows sk_law_told_rows 6 "_law_row" = true := by decide +kernel
theorem w_law_told_rows_7 : okS N_law_told_rows sk_law_told_rows sk_law_told_rows 7 "_law_k" = true := by decide +kernel
theorem g_law_told_rows_range : okG sk_law_told_rows "range" = true := by decide +kernel
set_option maxHeartbeats 4000000 in
theorem j_law_told_rows {X : Cx} {W : WX} (C : CtxOk X W) (V : Nm X N_law_told_rows sk_law_told_rows sk_law_told_rows) (Y : Df X) (z_range : X.mg "range" = none) : JSs X W (defBody s_law_told_rows) b_law_told_rows :=
  (jss_cons (js_asg V w_law_told_rows_1 (je_add je_int (je_mod (je_var V v_law_told_rows_0) je_int)))
    (jss_cons (js_asg V w_law_told_rows_2 (je_add je_int (je_mod (je_fdiv C (je_var V v_law_told_rows_0) je_int) je_int)))
    (jss_cons (js_asg V w_law_told_rows_3 (je_ix (je_lst (ja_cons je_int (ja_cons (je_pow je_int je_int) ja_nil))) (je_mod (je_fdiv C (je_var V v_law_told_rows_0) je_int) je_int)))
    (jss_cons (js_asg V w_law_told_rows_0 (je_fdiv C (je_var V v_law_told_rows_0) je_int))
    (jss_cons (js_own V w_law_told_rows_4 (jf_lst ja_nil))
    (jss_cons (js_for C (ji_range1 V g_law_told_rows_range z_range (ja_cons (je_var V v_law_told_rows_2) ja_nil)) (jg_name V w_law_told_rows_5) (jss_cons (js_own V w_law_told_rows_6 (jf_lst ja_nil))
    (jss_cons (js_for C (ji_range1 V g_law_told_rows_range z_range (ja_cons (je_var V v_law_told_rows_1) ja_nil)) (jg_name V w_law_told_rows_7) (jss_cons (js_app V v_law_told_rows_6 (je_sub (je_mod (je_var V v_law_told_rows_0) (je_add (je_mul je_int (je_var V v_law_told_rows_3)) je_int)) (je_var V v_law_told_rows_3)))
    (jss_one (js_asg V w_law_told_rows_0 (je_fdiv C (je_var V v_law_told_rows_0) (je_add (je_mul je_int (je_var V v_law_told_rows_3)) je_int))))))
    (jss_one (js_app V v_law_told_rows_4 (je_var V v_law_told_rows_6))))))
    (jss_one (js_ret (je_var V v_law_told_rows_4)))))))))
theorem ok_law_told_rows {P : Program} {w : World} {K : PySem.W.Frag} {mg : MG} {base : Heap} {f : Addr} {fd : FuncData} (TR : P.given.tree = none) (SR0 : base.NoSeer) (F : Fun K "_law_told_rows" "_law_told_rows" s_law_told_rows f fd) (gm : mg "_law_told_rows" = some (.ref f)) (z_range : mg "range" = none) :
    FnOk P w K mg base (L2N.CX P w) 41 f fd ["_law_left"] (spP K mg 1 F_law_told_rows) ∧ Callee P w K mg base "_law_told_rows" 41 1 F_law_told_rows := by
  have G : FnOk P w K mg base (L2N.CX P w) 41 f fd ["_law_left"] (spP K mg 1 F_law_told_rows) := by
    have G0 := fn_ok (P := P) (w := w) (K := K) (mg := mg) (base := base) (N := N_law_told_rows) (ps := ["_law_left"]) (k := 40) (g := b_law_told_rows) F ⟨TR, SR0, by decide⟩ sc_law_told_rows (fun X W hP hw hK hmg hb hr C V Y => by subst hP hw hK hmg hb; exact j_law_told_rows C V Y z_range)
    exact G0
  exact ⟨G, callee_of G gm F.kp (F.binds (ps := ["_law_left"]) fun _ _ _ _ _ _ us hl => match us, hl with | [_], _ => rfl)⟩

abbrev s_law_number : Stmt := topS 13
theorem sc_law_number : FnScope ["_law_cell_here", "_law_way", "_law_most", "_law_number_here"] ["_law_cell_here", "_law_way"] (defScope s_law_number) := ⟨rfl, rfl, rfl, by decide +kernel, rfl, by decide +kernel, by decide +kernel⟩
noncomputable def b_law_number : M Fl :=
  (sq (mAsg 2 (m2 (mLst (aCons (ret (.int 2)) (aCons (ret (.int 9)) (aCons (m2 (ret (.int 10)) (ret (.int 9)) (g2i iPow)) (aCons (m2 (ret (.int 10)) (ret (.int 60)) (g2i iPow)) (aCons (ret (.int 2)) aNil)))))) (mVar 1) mIx))
  (sq (mAsg 3 (m2 (m2 (m2 (mVar 0) (mVar 2) mAdd) (m2 (m2 (ret (.int 2)) (mVar 2) (g2i iMul)) (ret (.int 1)) mAdd) (g2i iMod)) (mVar 2) (g2i iSub)))
  (mRet (m2 (mVar 3) (m2 (mLst (aCons (ret (.int 1)) (aCons (ret (.int 1)) (aCons (ret (.int 1)) (aCons (ret (.int 1)) (aCons (ret (.int 6)) aNil)))))) (mVar 1) mIx) (g2i iMul)))))
noncomputable def F_law_number : List D → Rs := runF 4 b_law_number
abbrev N_law_number : List Str := ["_law_cell_here", "_law_way", "_law_most", "_law_number_here"]
abbrev sk_law_number : Scope := defScope s_law_number
theorem v_law_number_0 : okV N_law_number sk_law_number 0 "_law_cell_here" = true := by decide +kernel
theorem v_law_number_1 : okV N_law_number sk_law_number 1 "_law_way" = true := by decide +kernel
theorem v_law_number_2 : okV N_law_number sk_law_number 2 "_law_most" = true := by decide +kernel
theorem v_law_number_3 : okV N_law_number sk_law_number 3 "_law_number_here" = true := by decide +kernel
theorem w_law_number_2 : okS N_law_number sk_law_number sk_law_number 2 "_law_most" = true := by decide +kernel
theorem w_law_number_3 : okS N_law_number sk_law_number sk_law_number 3 "_law_number_here" = true := by decide +kernel
set_option maxHeartbeats 4000000 in
theorem j_law_number {X : Cx} {W : WX} (C : CtxOk X W) (V : Nm X N_law_number sk_law_number sk_law_number) (Y : Df X) : JSs X W (defBody s_law_number) b_law_number :=
  (jss_cons (js_asg V w_law_number_2 (je_ix (je_lst (ja_cons je_int (ja_cons je_int (ja_cons (je_pow je_int je_int) (ja_cons (je_pow je_int je_int) (ja_cons je_int ja_nil)))))) (je_var V v_law_number_1)))
    (jss_cons (js_asg V w_law_number_3 (je_sub (je_mod (je_add (je_var V v_law_number_0) (je_var V v_law_number_2)) (je_add (je_mul je_int (je_var V v_law_number_2)) je_int)) (je_var V v_law_number_2)))
    (jss_one (js_ret (je_mul (je_var V v_law_number_3) (je_ix (je_lst (ja_cons je_int (ja_cons je_int (ja_cons je_int (ja_cons je_int (ja_cons je_int ja_nil)))))) (je_var V v_law_number_1)))))))
theorem ok_law_number {P : Program} {w : World} {K : PySem.W.Frag} {mg : MG} {base : Heap} {f : Addr} {fd : FuncData} (TR : P.given.tree = none) (SR0 : base.NoSeer) (F : Fun K "_law_number" "_law_number" s_law_number f fd) (gm : mg "_law_number" = some (.ref f)) :
    FnOk P w K mg base (L2N.CX P w) 41 f fd ["_law_cell_here", "_law_way"] (spP K mg 2 F_law_number) ∧ Callee P w K mg base "_law_number" 41 2 F_law_number := by
  have G : FnOk P w K mg base (L2N.CX P w) 41 f fd ["_law_cell_here", "_law_way"] (spP K mg 2 F_law_number) := by
    have G0 := fn_ok (P := P) (w := w) (K := K) (mg := mg) (base := base) (N := N_law_number) (ps := ["_law_cell_here", "_law_way"]) (k := 40) (g := b_law_number) F ⟨TR, SR0, by decide⟩ sc_law_number (fun X W hP hw hK hmg hb hr C V Y => by subst hP hw hK hmg hb; exact j_law_number C V Y )
    exact G0
  exact ⟨G, callee_of G gm F.kp (F.binds (ps := ["_law_cell_here", "_law_way"]) fun _ _ _ _ _ _ us hl => match us, hl with | [_, _], _ => rfl)⟩

abbrev s_law_rows : Stmt := topS 15
theorem sc_law_rows : FnScope ["_law_script", "_law_start", "_law_many", "_law_way", "_law_most", "_law_cells", "_law_rows_here", "_law_i", "_law_row", "_law_k", "_law_by", "_law_one", "_law_other"] ["_law_script"] (defScope s_law_rows) := ⟨rfl, rfl, rfl, by decide +kernel, rfl, by decide +kernel, by decide +kernel⟩
noncomputable def b_law_rows : M Fl :=
  (sq (mAsg 1 (mCall (aCons (mVar 0) (aCons (ret (.int 0)) aNil)) F_law_cell))
  (sq (mIf (bnd (m2 (mVar 1) (m2 (ret (.int 10)) (ret (.int 18)) (g2i iPow)) (g2i (iCmp fun i j => decide (j ≤ i)))) mB) (mRet (mCall (aCons (m2 (mVar 1) (m2 (ret (.int 10)) (ret (.int 18)) (g2i iPow)) (g2i iSub)) aNil) F_law_told_rows)) nx)
  (sq (mAsg 2 (m2 (ret (.int 1)) (m2 (mVar 1) (ret (.int 5)) (g2i iMod)) mAdd))
  (sq (mIf (bnd (m2 (m2 (m2 (mVar 1) (ret (.int 5)) (g2i iDiv)) (ret (.int 8)) (g2i iMod)) (ret (.int 3)) mEq) mB) (mAsg 2 (m2 (ret (.int 6)) (m2 (m2 (mVar 1) (ret (.int 40)) (g2i iDiv)) (ret (.int 7)) (g2i iMod)) mAdd)) nx)
  (sq (mAsg 3 (m2 (m2 (mVar 1) (ret (.int 280)) (g2i iDiv)) (ret (.int 5)) (g2i iMod)))
  (sq (mAsg 4 (m2 (mLst (aCons (ret (.int 14)) (aCons (ret (.int 10)) (aCons (ret (.int 4)) (aCons (ret (.int 3)) (aCons (ret (.int 8)) aNil)))))) (mVar 3) mIx))
  (sq (mIf (bAnd (bnd (m2 (m2 (m2 (mVar 1) (ret (.int 1400)) (g2i iDiv)) (ret (.int 16)) (g2i iMod)) (ret (.int 5)) mEq) mB) (bnd (m2 (m2 (mVar 3) (ret (.int 4)) (g2i iMod)) (ret (.int 2)) (g2i (iCmp fun i j => decide (i < j)))) mB)) (mAsg 4 (ret (.int 40))) nx)
  (sq (mAsg 5 (mSlice (mVar 0) (oSome (ret (.int 1))) (oSome (m2 (ret (.int 1)) (m2 (mVar 2) (mVar 4) (g2i iMul)) mAdd))))
  (sq (mOwn 6 (mFl aNil))
  (sq (bnd (mRng1 (aCons (bnd (aCons (ret (.int 1)) (aCons (m2 (has 5 (onSl 5 fun d => cLen [d])) (mVar 2) (g2i iDiv)) aNil)) (c2i fun i j => ret (.int (if j > i then j else i)))) aNil)) (forL (gN 7) (sq (mAsg 8 (mLc [9] (mRng1 (aCons (mVar 2) aNil)) (gN 9) (ret true) (mCall (aCons (mCall (aCons (mVar 5) (aCons (m2 (m2 (mVar 7) (mVar 2) (g2i iMul)) (mVar 9) mAdd) aNil)) F_law_cell) (aCons (mVar 3) aNil)) F_law_number)))
  (sq (mIf (bAnd (bnd (m2 (mVar 7) (ret (.int 1)) (g2i (iCmp fun i j => decide (j < i)))) mB) (bnd (m2 (m2 (mIxN 8 (ret (.int 0))) (ret (.int 4)) (g2i iMod)) (ret (.int 1)) mEq) mB)) (sq (mAsg 10 (m2 (m2 (mIxN 8 (bnd (ret (.int 1)) (u1i fun i => ret (.int (-i))))) (ret (.int 7)) (g2i iMod)) (ret (.int 3)) (g2i iSub)))
  (mAsg 8 (mLc [11, 12] (mZipM (aCons (mIxN 6 (m2 (mVar 7) (ret (.int 1)) (g2i iSub))) (aCons (mIxN 6 (m2 (mVar 7) (ret (.int 2)) (g2i iSub))) aNil))) (gTp 2 (gsCons (gN 11) (gsCons (gN 12) gsNil))) (ret true) (m2 (m2 (ret (.int 2)) (mVar 11) (g2i iMul)) (m2 (mVar 10) (mVar 12) (g2i iMul)) mAdd)))) nx)
  (mApp 6 (mVar 8))))))
  (mRet (mVar 6))))))))))))
noncomputable def F_law_rows : List D → Rs := runF 13 b_law_rows
abbrev N_law_rows : List Str := ["_law_script", "_law_start", "_law_many", "_law_way", "_law_most", "_law_cells", "_law_rows_here", "_law_i", "_law_row", "_law_k", "_law_by", "_law_one", "_law_other"]
abbrev sk_law_rows : Scope := defScope s_law_rows
theorem v_law_rows_0 : okV N_law_rows sk_law_rows 0 "_law_script" = true := by decide +kernel
theorem v_law_rows_1 : okV N_law_rows sk_law_rows 1 "_law_start" = true := by decide +kernel
theorem v_law_rows_2 : okV N_law_rows sk_law_rows 2 "_law_many" = true := by decide +kernel
theorem v_law_rows_3 : okV N_law_rows sk_law_rows 3 "_law_way" = true := by decide +kernel
theorem v_law_rows_4 : okV N_law_rows sk_law_rows 4 "_law_most" = true := by decide +kernel
theorem v_law_rows_5 : okV N_law_rows sk_law_rows 5 "_law_cells" = true := by decide +kernel
theorem v_law_rows_6 : okV N_law_rows sk_law_rows 6 "_law_rows_here" = true := by decide +kernel
theorem v_law_rows_7 : okV N_law_rows sk_law_rows 7 "_law_i" = true := by decide +kernel
theorem v_law_rows_8 : okV N_law_rows sk_law_rows 8 "_law_row" = true := by decide +kernel
theorem w_law_rows_1 : okS N_law_rows sk_law_rows sk_law_rows 1 "_law_start" = true := by decide +kernel
theorem w_law_rows_2 : okS N_law_rows sk_law_rows sk_law_rows 2 "_law_many" = true := by decide +kernel
theorem w_law_rows_3 : okS N_law_rows sk_law_rows sk_law_rows 3 "_law_way" = true := by decide +kernel
theorem w_law_rows_4 : okS N_law_rows sk_law_rows sk_law_rows 4 "_law_most" = true := by decide +kernel
theorem w_law_rows_5 : okS N_law_rows sk_law_rows sk_law_rows 5 "_law_cells" = true := by decide +kernel
theorem w_law_rows_6 : okS N_law_rows sk_law_rows sk_law_rows 6 "_law_rows_here" = true := by decide +kernel
theorem w_law_rows_7 : okS N_law_rows sk_law_rows sk_law_rows 7 "_law_i" = true := by decide +kernel
theorem w_law_rows_8 : okS N_law_rows sk_law_rows sk_law_rows 8 "_law_row" = true := by decide +kernel
theorem w_law_rows_10 : okS N_law_rows sk_law_rows sk_law_rows 10 "_law_by" = true := by decide +kernel
theorem g_law_rows_law_cell : okG sk_law_rows "_law_cell" = true := by decide +kernel
theorem g_law_rows_law_told_rows : okG sk_law_rows "_law_told_rows" = true := by decide +kernel
theorem g_law_rows_len : okG sk_law_rows "len" = true := by decide +kernel
theorem g_law_rows_max : okG sk_law_rows "max" = true := by decide +kernel
theorem g_law_rows_range : okG sk_law_rows "range" = true := by decide +kernel
theorem g_law_rows_zip : okG sk_law_rows "zip" = true := by decide +kernel
set_option maxHeartbeats 4000000 in
theorem j_law_rows {X : Cx} {W : WX} (C : CtxOk X W) (V : Nm X N_law_rows sk_law_rows sk_law_rows) (Y : Df X) (c_law_cell : Cal X "_law_cell" 2 F_law_cell) (c_law_told_rows : Cal X "_law_told_rows" 1 F_law_told_rows) (c_law_number : Cal X "_law_number" 2 F_law_number) (z_len : X.mg "len" = none) (z_max : X.mg "max" = none) (z_range : X.mg "range" = none) (z_zip : X.mg "zip" = none) : JSs X W (defBody s_law_rows) b_law_rows :=
  (jss_cons (js_asg V w_law_rows_1 (je_call C V g_law_rows_law_cell c_law_cell (ja_cons (je_var V v_law_rows_0) (ja_cons je_int ja_nil)) (alen_cons (alen_cons alen_nil))))
    (jss_cons (js_if (jt_ge (je_var V v_law_rows_1) (je_pow je_int je_int)) (jss_one (js_ret (je_call C V g_law_rows_law_told_rows c_law_told_rows (ja_cons (je_sub (je_var V v_law_rows_1) (je_pow je_int je_int)) ja_nil) (alen_cons alen_nil)))) jss_nil)
    (jss_cons (js_asg V w_law_rows_2 (je_add je_int (je_mod (je_var V v_law_rows_1) je_int)))
    (jss_cons (js_if (jt_eq C (je_mod (je_fdiv C (je_var V v_law_rows_1) je_int) je_int) je_int) (jss_one (js_asg V w_law_rows_2 (je_add je_int (je_mod (je_fdiv C (je_var V v_law_rows_1) je_int) je_int)))) jss_nil)
    (jss_cons (js_asg V w_law_rows_3 (je_mod (je_fdiv C (je_var V v_law_rows_1) je_int) je_int))
    (jss_cons (js_asg V w_law_rows_4 (je_ix (je_lst (ja_cons je_int (ja_cons je_int (ja_cons je_int (ja_cons je_int (ja_cons je_int ja_nil)))))) (je_var V v_law_rows_3)))
    (jss_cons (js_if (JW.jt (jw_and (jt_eq C (je_mod (je_fdiv C (je_var V v_law_rows_1) je_int) je_int) je_int) (jw_and1 (jt_lt (je_mod (je_var V v_law_rows_3) je_int) je_int)))) (jss_one (js_asg V w_law_rows_4 je_int)) jss_nil)
    (jss_cons (js_asg V w_law_rows_5 (je_slice (je_var V v_law_rows_0) (jo_some je_int) (jo_some (je_add je_int (je_mul (je_var V v_law_rows_2) (je_var V v_law_rows_4))))))
    (jss_cons (js_own V w_law_rows_6 (jf_lst ja_nil))
    (jss_cons (js_for C (ji_range1 V g_law_rows_range z_range (ja_cons (je_max2 C V g_law_rows_max z_max (ja_cons je_int (ja_cons (je_fdiv C (je_lenN V v_law_rows_5 g_law_rows_len z_len) (je_var V v_law_rows_2)) ja_nil))) ja_nil)) (jg_name V w_law_rows_7) (jss_cons (js_setLc (own := [("_law_k", 9)]) C V w_law_rows_8 (by decide +kernel) (by decide +kernel) rfl (by decide) (by decide) (ji_range1 V g_law_rows_range z_range (ja_cons (je_var V v_law_rows_2) ja_nil)) (fun X1 V1 C1 B1 => (jgv_name V1 (by decide +kernel) (by decide))) (fun X1 V1 C1 B1 => jts_nil) (fun X1 V1 C1 B1 => (je_call C1 V1 (by decide +kernel) (B1.cal c_law_number) (ja_cons (je_call C1 V1 (by decide +kernel) (B1.cal c_law_cell) (ja_cons (je_var V1 (by decide +kernel)) (ja_cons (je_add (je_mul (je_var V1 (by decide +kernel)) (je_var V1 (by decide +kernel))) (je_var V1 (by decide +kernel))) ja_nil)) (alen_cons (alen_cons alen_nil))) (ja_cons (je_var V1 (by decide +kernel)) ja_nil)) (alen_cons (alen_cons alen_nil)))))
    (jss_cons (js_if (JW.jt (jw_and (jt_gt (je_var V v_law_rows_7) je_int) (jw_and1 (jt_eq C (je_mod (je_ixN V v_law_rows_8 je_int) je_int) je_int)))) (jss_cons (js_asg V w_law_rows_10 (je_sub (je_mod (je_ixN V v_law_rows_8 (je_neg je_int)) je_int) je_int))
    (jss_one (js_setLc (own := [("_law_one", 11), ("_law_other", 12)]) C V w_law_rows_8 (by decide +kernel) (by decide +kernel) rfl (by decide) (by decide) (ji_zipM V g_law_rows_zip z_zip (ja_cons (je_ixN V v_law_rows_6 (je_sub (je_var V v_law_rows_7) je_int)) (ja_cons (je_ixN V v_law_rows_6 (je_sub (je_var V v_law_rows_7) je_int)) ja_nil))) (fun X2 V2 C2 B2 => (jgv_tup (n := 2) C2.calm (jgvs_cons (jgv_name V2 (by decide +kernel) (by decide)) (jgvs_cons (jgv_name V2 (by decide +kernel) (by decide)) jgvs_nil)))) (fun X2 V2 C2 B2 => jts_nil) (fun X2 V2 C2 B2 => (je_add (je_mul je_int (je_var V2 (by decide +kernel))) (je_mul (je_var V2 (by decide +kernel)) (je_var V2 (by decide +kernel)))))))) jss_nil)
    (jss_one (js_app V v_law_rows_6 (je_var V v_law_rows_8))))))
    (jss_one (js_ret (je_var V v_law_rows_6)))))))))))))
theorem ok_law_rows {P : Program} {w : World} {K : PySem.W.Frag} {mg : MG} {base : Heap} {f : Addr} {fd : FuncData} (TR : P.given.tree = none) (SR0 : base.NoSeer) (F : Fun K "_law_rows" "_law_rows" s_law_rows f fd) (gm : mg "_law_rows" = some (.ref f)) (c_law_cell : Callee P w K mg base "_law_cell" 41 2 F_law_cell) (c_law_told_rows : Callee P w K mg base "_law_told_rows" 41 1 F_law_told_rows) (c_law_number : Callee P w K mg base "_law_number" 41 2 F_law_number) (z_len : mg "len" = none) (z_max : mg "max" = none) (z_range : mg "range" = none) (z_zip : mg "zip" = none) :
    FnOk P w K mg base (L2N.CX P w) 42 f fd ["_law_script"] (spP K mg 1 F_law_rows) ∧ Callee P w K mg base "_law_rows" 42 1 F_law_rows := by
  have G : FnOk P w K mg base (L2N.CX P w) 42 f fd ["_law_script"] (spP K mg 1 F_law_rows) := by
    have G0 := fn_ok (P := P) (w := w) (K := K) (mg := mg) (base := base) (N := N_law_rows) (ps := ["_law_script"]) (k := 41) (g := b_law_rows) F ⟨TR, SR0, by decide⟩ sc_law_rows (fun X W hP hw hK hmg hb hr C V Y => by subst hP hw hK hmg hb; exact j_law_rows C V Y (c_law_cell.cal hr) (c_law_told_rows.cal hr) (c_law_number.cal hr) z_len z_max z_range z_zip)
    exact G0
  exact ⟨G, callee_of G gm F.kp (F.binds (ps := ["_law_script"]) fun _ _ _ _ _ _ us hl => match us, hl with | [_], _ => rfl)⟩

abbrev s_still_rows : Stmt := topS 1
theorem sc_still_rows : FnScope ["d", "j", "i"] ["d"] (defScope s_still_rows) := ⟨rfl, rfl, rfl, by decide +kernel, rfl, by decide +kernel, by decide +kernel⟩
noncomputable def b_still_rows : M Fl :=
  (mRet (mLc [2] (mRng1 (aCons (mVar 0) aNil)) (gN 2) (ret true) (mLc [1] (mRng1 (aCons (mVar 0) aNil)) (gN 1) (ret true) (bnd (aCons (m2 (mVar 2) (mVar 1) mEq) aNil) cInt))))
noncomputable def F_still_rows : List D → Rs := runF 3 b_still_rows
abbrev N_still_rows : List Str := ["d", "j", "i"]
abbrev sk_still_rows : Scope := defScope s_still_rows
theorem v_still_rows_0 : okV N_still_rows sk_still_rows 0 "d" = true := by decide +kernel
theorem g_still_rows_range : okG sk_still_rows "range" = true := by decide +kernel
set_option maxHeartbeats 4000000 in
theorem j_still_rows {X : Cx} {W : WX} (C : CtxOk X W) (V : Nm X N_still_rows sk_still_rows sk_still_rows) (Y : Df X) (z_int : X.mg "int" = none) (z_range : X.mg "range" = none) : JSs X W (defBody s_still_rows) b_still_rows :=
  (jss_one (js_ret (je_lc (own := [("i", 2)]) C V (by decide +kernel) rfl (ji_range1 V g_still_rows_range z_range (ja_cons (je_var V v_still_rows_0) ja_nil)) (fun X1 V1 C1 B1 => (jgv_name V1 (by decide +kernel) (by decide))) (fun X1 V1 C1 B1 => jts_nil) (fun X1 V1 C1 B1 => (je_lc (own := [("j", 1)]) C1 V1 (by decide +kernel) rfl (ji_range1 V1 (by decide +kernel) (B1.z z_range) (ja_cons (je_var V1 (by decide +kernel)) ja_nil)) (fun X2 V2 C2 B2 => (jgv_name V2 (by decide +kernel) (by decide))) (fun X2 V2 C2 B2 => jts_nil) (fun X2 V2 C2 B2 => (je_intC V2 (by decide +kernel) (B2.z (B1.z z_int)) (ja_cons (je_eq C2 (je_var V2 (by decide +kernel)) (je_var V2 (by decide +kernel))) ja_nil))))))))
theorem ok_still_rows {P : Program} {w : World} {K : PySem.W.Frag} {mg : MG} {base : Heap} {f : Addr} {fd : FuncData} (TR : P.given.tree = none) (SR0 : base.NoSeer) (F : Fun K "still_rows" "still_rows" s_still_rows f fd) (gm : mg "still_rows" = some (.ref f)) (z_int : mg "int" = none) (z_range : mg "range" = none) :
    FnOk P w K mg base (L2N.CX P w) 41 f fd ["d"] (spP K mg 1 F_still_rows) ∧ Callee P w K mg base "still_rows" 41 1 F_still_rows := by
  have G : FnOk P w K mg base (L2N.CX P w) 41 f fd ["d"] (spP K mg 1 F_still_rows) := by
    have G0 := fn_ok (P := P) (w := w) (K := K) (mg := mg) (base := base) (N := N_still_rows) (ps := ["d"]) (k := 40) (g := b_still_rows) F ⟨TR, SR0, by decide⟩ sc_still_rows (fun X W hP hw hK hmg hb hr C V Y => by subst hP hw hK hmg hb; exact j_still_rows C V Y z_int z_range)
    exact G0
  exact ⟨G, callee_of G gm F.kp (F.binds (ps := ["d"]) fun _ _ _ _ _ _ us hl => match us, hl with | [_], _ => rfl)⟩
noncomputable def bR_still_rows : M (List (List D)) :=
  (mLcR [2] (mRng1 (aCons (mVar 0) aNil)) (gN 2) (unL (mLc [1] (mRng1 (aCons (mVar 0) aNil)) (gN 1) (ret true) (bnd (aCons (m2 (mVar 2) (mVar 1) mEq) aNil) cInt))))
noncomputable def RR_still_rows : List D → Res (List (List D)) := runRR 3 bR_still_rows
theorem okRR_still_rows {P : Program} {w : World} {K : PySem.W.Frag} {mg : MG} {base : Heap} {f : Addr} {fd : FuncData} (TR : P.given.tree = none) (SR0 : base.NoSeer) (F : Fun K "still_rows" "still_rows" s_still_rows f fd) (gm : mg "still_rows" = some (.ref f)) (z_int : mg "int" = none) (z_range : mg "range" = none) : CalleeM P w K mg base "still_rows" 41 (spRR K mg 1 RR_still_rows) := by
  have G0 := fn_okRR (P := P) (w := w) (K := K) (mg := mg) (base := base) (N := N_still_rows) (ps := ["d"]) (k := 40) (g := bR_still_rows) F ⟨TR, SR0, by decide⟩ sc_still_rows rfl (fun X W hP hw hK hmg hb hr C V Y => by subst hP hw hK hmg hb; exact (jr_lc (own := [("i", 2)]) C V (by decide +kernel) rfl (ji_range1 V g_still_rows_range z_range (ja_cons (je_var V v_still_rows_0) ja_nil)) (fun X3 V3 C3 B3 => (jgv_name V3 (by decide +kernel) (by decide))) (fun X3 V3 C3 B3 => (jf_lc (own := [("j", 1)]) C3 V3 (by decide +kernel) rfl (ji_range1 V3 (by decide +kernel) (B3.z z_range) (ja_cons (je_var V3 (by decide +kernel)) ja_nil)) (fun X4 V4 C4 B4 => (jgv_name V4 (by decide +kernel) (by decide))) (fun X4 V4 C4 B4 => jts_nil) (fun X4 V4 C4 B4 => (je_intC V4 (by decide +kernel) (B4.z (B3.z z_int)) (ja_cons (je_eq C4 (je_var V4 (by decide +kernel)) (je_var V4 (by decide +kernel))) ja_nil)))))))
  exact calleeM_of G0 gm F.kp (F.binds (ps := ["d"]) fun _ _ _ _ _ _ us hl => match us, hl with | [_], _ => rfl)

abbrev s_least_at : Stmt := topS 7
theorem sc_least_at : FnScope ["form", "top", "k", "found", "i"] ["form", "top", "k"] (defScope s_least_at) := ⟨rfl, rfl, rfl, by decide +kernel, rfl, by decide +kernel, by decide +kernel⟩
noncomputable def b_least_at : M Fl :=
  (sq (mAsg 3 (ret .non))
  (sq (bnd (mRng2 (aCons (mVar 1) (aCons (has 0 (onSl 0 fun d => cLen [d])) aNil))) (forL (gN 4) (mIf (bAnd (bnd (m2 (m2 (mIxN 0 (mVar 4)) (mVar 2) mIx) (ret (.int 0)) mNe) mB) (bOr (bnd (mVar 3) fun x => ret (isNon x)) (bnd (m2 (bnd (aCons (m2 (mIxN 0 (mVar 4)) (mVar 2) mIx) aNil) (c1i fun i => ret (.int (iAbs i)))) (bnd (aCons (m2 (mIxN 0 (mVar 3)) (mVar 2) mIx) aNil) (c1i fun i => ret (.int (iAbs i)))) (g2i (iCmp fun i j => decide (i < j)))) mB))) (mAsg 3 (mVar 4)) nx)))
  (mRet (mVar 3))))
noncomputable def F_least_at : List D → Rs := runF 5 b_least_at
abbrev N_least_at : List Str := ["form", "top", "k", "found", "i"]
abbrev sk_least_at : Scope := defScope s_least_at
theorem v_least_at_0 : okV N_least_at sk_least_at 0 "form" = true := by decide +kernel
theorem v_least_at_1 : okV N_least_at sk_least_at 1 "top" = true := by decide +kernel
theorem v_least_at_2 : okV N_least_at sk_least_at 2 "k" = true := by decide +kernel
theorem v_least_at_3 : okV N_least_at sk_least_at 3 "found" = true := by decide +kernel
theorem v_least_at_4 : okV N_least_at sk_least_at 4 "i" = true := by decide +kernel
theorem w_least_at_3 : okS N_least_at sk_least_at sk_least_at 3 "found" = true := by decide +kernel
theorem w_least_at_4 : okS N_least_at sk_least_at sk_least_at 4 "i" = true := by decide +kernel
theorem g_least_at_abs : okG sk_least_at "abs" = true := by decide +kernel
theorem g_least_at_len : okG sk_least_at "len" = true := by decide +kernel
theorem g_least_at_range : okG sk_least_at "range" = true := by decide +kernel
set_option maxHeartbeats 4000000 in
theorem j_least_at {X : Cx} {W : WX} (C : CtxOk X W) (V : Nm X N_least_at sk_least_at sk_least_at) (Y : Df X) (z_abs : X.mg "abs" = none) (z_len : X.mg "len" = none) (z_range : X.mg "range" = none) : JSs X W (defBody s_least_at) b_least_at :=
  (jss_cons (js_asg V w_least_at_3 je_non)
    (jss_cons (js_for C (ji_range2 V g_least_at_range z_range (ja_cons (je_var V v_least_at_1) (ja_cons (je_lenN V v_least_at_0 g_least_at_len z_len) ja_nil))) (jg_name V w_least_at_4) (jss_one (js_if (JW.jt (jw_and (jt_ne C (je_ix (je_ixN V v_least_at_0 (je_var V v_least_at_4)) (je_var V v_least_at_2)) je_int) (jw_and1 (JW.jt (jw_or (jt_isN (je_var V v_least_at_3)) (jw_or1 (jt_lt (je_abs V g_least_at_abs z_abs (ja_cons (je_ix (je_ixN V v_least_at_0 (je_var V v_least_at_4)) (je_var V v_least_at_2)) ja_nil)) (je_abs V g_least_at_abs z_abs (ja_cons (je_ix (je_ixN V v_least_at_0 (je_var V v_least_at_3)) (je_var V v_least_at_2)) ja_nil))))))))) (jss_one (js_asg V w_least_at_3 (je_var V v_least_at_4))) jss_nil)))
    (jss_one (js_ret (je_var V v_least_at_3)))))
theorem ok_least_at {P : Program} {w : World} {K : PySem.W.Frag} {mg : MG} {base : Heap} {f : Addr} {fd : FuncData} (TR : P.given.tree = none) (SR0 : base.NoSeer) (F : Fun K "least_at" "least_at" s_least_at f fd) (gm : mg "least_at" = some (.ref f)) (z_abs : mg "abs" = none) (z_len : mg "len" = none) (z_range : mg "range" = none) :
    FnOk P w K mg base (L2N.CX P w) 41 f fd ["form", "top", "k"] (spP K mg 3 F_least_at) ∧ Callee P w K mg base "least_at" 41 3 F_least_at := by
  have G : FnOk P w K mg base (L2N.CX P w) 41 f fd ["form", "top", "k"] (spP K mg 3 F_least_at) := by
    have G0 := fn_ok (P := P) (w := w) (K := K) (mg := mg) (base := base) (N := N_least_at) (ps := ["form", "top", "k"]) (k := 40) (g := b_least_at) F ⟨TR, SR0, by decide⟩ sc_least_at (fun X W hP hw hK hmg hb hr C V Y => by subst hP hw hK hmg hb; exact j_least_at C V Y z_abs z_len z_range)
    exact G0
  exact ⟨G, callee_of G gm F.kp (F.binds (ps := ["form", "top", "k"]) fun _ _ _ _ _ _ us hl => match us, hl with | [_, _, _], _ => rfl)⟩

abbrev s_exchange_rows : Stmt := topS 5
theorem sc_exchange_rows : FnScope ["state", "i", "j", "some", "kept"] ["state", "i", "j"] (defScope s_exchange_rows) := ⟨rfl, rfl, rfl, by decide +kernel, rfl, by decide +kernel, by decide +kernel⟩
noncomputable def b_exchange_rows : M Fl :=
  (bnd (mSeq (mVar 0)) (forL (gN 3) (sq (mAsg 4 (mIxN 3 (mVar 1)))
  (sq (mSetI 3 (mVar 1) (mIxN 3 (mVar 2)))
  (mSetI 3 (mVar 2) (mVar 4))))))
noncomputable def F_exchange_rows : List D → Rs := runF 5 b_exchange_rows
abbrev N_exchange_rows : List Str := ["state", "i", "j", "some", "kept"]
abbrev sk_exchange_rows : Scope := defScope s_exchange_rows
theorem v_exchange_rows_0 : okV N_exchange_rows sk_exchange_rows 0 "state" = true := by decide +kernel
theorem v_exchange_rows_1 : okV N_exchange_rows sk_exchange_rows 1 "i" = true := by decide +kernel
theorem v_exchange_rows_2 : okV N_exchange_rows sk_exchange_rows 2 "j" = true := by decide +kernel
theorem v_exchange_rows_3 : okV N_exchange_rows sk_exchange_rows 3 "some" = true := by decide +kernel
theorem v_exchange_rows_4 : okV N_exchange_rows sk_exchange_rows 4 "kept" = true := by decide +kernel
theorem w_exchange_rows_3 : okS N_exchange_rows sk_exchange_rows sk_exchange_rows 3 "some" = true := by decide +kernel
theorem w_exchange_rows_4 : okS N_exchange_rows sk_exchange_rows sk_exchange_rows 4 "kept" = true := by decide +kernel
set_option maxHeartbeats 4000000 in
theorem j_exchange_rows {X : Cx} {W : WX} (C : CtxOk X W) (V : Nm X N_exchange_rows sk_exchange_rows sk_exchange_rows) (Y : Df X) : ∃ t, PSs X (defBody s_exchange_rows) t ∧ ∀ (s p q r : Addr) (Hf H : Hp) (S : Tri) (ns : List Int) (d : D) (S' : Tri) (Q : VK), Evl.Ex Hf H → SqT X.K Hf s [.ref p, .ref q, .ref r] → OwT X.K X.mg Hf H p q r S → rExch S ns d S' → (∀ v Hf' H', ChT Hf H Hf' H' p q r S S' → OwT X.K X.mg Hf' H' p q r S' → Rp X.K X.mg Hf' v d → Q v H') → t { nx := fun _ H' => Q .non H', rt := Q } (L2.start N_exchange_rows (.ref s :: ns.map L2.V.int)) H :=
  ⟨_, pss_one (ps_for C.po C.calm (pi_tup (pvV V v_exchange_rows_0)) (pgV V w_exchange_rows_3) (pss_cons (psV V w_exchange_rows_4 (pe_ix ix_seq (pvV V v_exchange_rows_3) (pvV V v_exchange_rows_1) (fun _ _ => rfl))) (pss_cons (ps_asg (pe_ix ix_seq (pvV V v_exchange_rows_3) (pvV V v_exchange_rows_2) (fun _ _ => rfl)) (pg_sub (pvV V v_exchange_rows_3) (pvV V v_exchange_rows_1) set_list)) (pss_one (ps_asg (pvV V v_exchange_rows_4) (pg_sub (pvV V v_exchange_rows_3) (pvV V v_exchange_rows_2) set_list)))))), fun s p q r Hf H S ns d S' Q x hs ow hR hQ => vc_exchange x hs ow hR hQ⟩
theorem ok_exchange_rows {P : Program} {w : World} {K : PySem.W.Frag} {mg : MG} {base : Heap} {f : Addr} {fd : FuncData} (TR : P.given.tree = none) (SR0 : base.NoSeer) (F : Fun K "exchange_rows" "exchange_rows" s_exchange_rows f fd) (gm : mg "exchange_rows" = some (.ref f)) : FnOk P w K mg base (L2N.CX P w) 41 f fd ["state", "i", "j"] (spT K mg rExch) ∧ CalleeM P w K mg base "exchange_rows" 41 (spT K mg rExch) := by
  have G0 := fn_okT (P := P) (w := w) (K := K) (mg := mg) (base := base) (N := N_exchange_rows) (ps := ["state", "i", "j"]) (k := 40) (n := 2) (R := rExch) F ⟨TR, SR0, by decide⟩ sc_exchange_rows rfl (fun S ns d S' h => by obtain ⟨i, j, h, _⟩ := h; rw [h]; rfl) (fun X W hP hw hK hmg hb hr C V Y => by subst hP hw hK hmg hb; exact j_exchange_rows C V Y )
  exact ⟨G0, calleeM_of G0 gm F.kp (F.binds (ps := ["state", "i", "j"]) fun _ _ _ _ _ _ us hl => match us, hl with | [_, _, _], _ => rfl)⟩

abbrev s_take_row : Stmt := topS 3
theorem sc_take_row : FnScope ["some", "i", "j", "many", "number", "other"] ["some", "i", "j", "many"] (defScope s_take_row) := ⟨rfl, rfl, rfl, by decide +kernel, rfl, by decide +kernel, by decide +kernel⟩
noncomputable def b_take_row : M Fl :=
  (mRSet 0 (mVar 1) (mLendF (unL (mLc [4, 5] (mZipM (aCons (mIxN 0 (mVar 1)) (aCons (mIxN 0 (mVar 2)) aNil))) (gTp 2 (gsCons (gN 4) (gsCons (gN 5) gsNil))) (ret true) (m2 (mVar 4) (m2 (mVar 3) (mVar 5) (g2i iMul)) (g2i iSub))))))
noncomputable def F_take_row : List D → Rs := runF 6 b_take_row
abbrev N_take_row : List Str := ["some", "i", "j", "many", "number", "other"]
abbrev sk_take_row : Scope := defScope s_take_row
theorem v_take_row_0 : okV N_take_row sk_take_row 0 "some" = true := by decide +kernel
theorem v_take_row_1 : okV N_take_row sk_take_row 1 "i" = true := by decide +kernel
theorem v_take_row_2 : okV N_take_row sk_take_row 2 "j" = true := by decide +kernel
theorem g_take_row_zip : okG sk_take_row "zip" = true := by decide +kernel
theorem v_take_row_3 : okV N_take_row sk_take_row 3 "many" = true := by decide +kernel
set_option maxHeartbeats 4000000 in
theorem eqb_take_row : b_take_row = bTakeRow := rfl
noncomputable def R_take_row : OD → List D → RsM := runM 6 b_take_row
theorem j_take_row {X : Cx} {W : WX} (C : CtxOk X W) (V : Nm X N_take_row sk_take_row sk_take_row) (Y : Df X) (z_zip : X.mg "zip" = none) : JSs X W (defBody s_take_row) b_take_row :=
  (jss_one (js_rset V v_take_row_0 (jf_lend (jf_lc (own := [("number", 4), ("other", 5)]) C V (by decide +kernel) rfl (ji_zipM V g_take_row_zip z_zip (ja_cons (je_ixN V v_take_row_0 (je_var V v_take_row_1)) (ja_cons (je_ixN V v_take_row_0 (je_var V v_take_row_2)) ja_nil))) (fun X1 V1 C1 B1 => (jgv_tup (n := 2) C1.calm (jgvs_cons (jgv_name V1 (by decide +kernel) (by decide)) (jgvs_cons (jgv_name V1 (by decide +kernel) (by decide)) jgvs_nil)))) (fun X1 V1 C1 B1 => jts_nil) (fun X1 V1 C1 B1 => (je_sub (je_var V1 (by decide +kernel)) (je_mul (je_var V1 (by decide +kernel)) (je_var V1 (by decide +kernel))))))) (je_var V v_take_row_1)))
theorem ok_take_row {P : Program} {w : World} {K : PySem.W.Frag} {mg : MG} {base : Heap} {f : Addr} {fd : FuncData} (TR : P.given.tree = none) (SR0 : base.NoSeer) (F : Fun K "take_row" "take_row" s_take_row f fd) (gm : mg "take_row" = some (.ref f)) (z_zip : mg "zip" = none) : FnOk P w K mg base (L2N.CX P w) 41 f fd ["some", "i", "j", "many"] (spM K mg 4 R_take_row) ∧ CalleeM P w K mg base "take_row" 41 (spM K mg 4 R_take_row) := by
  have G0 := fn_okM (P := P) (w := w) (K := K) (mg := mg) (base := base) (N := N_take_row) (ps := ["some", "i", "j", "many"]) (k := 40) (g := b_take_row) F ⟨TR, SR0, by decide⟩ sc_take_row (fun X W hP hw hK hmg hb hr C V Y => by subst hP hw hK hmg hb; exact j_take_row C V Y z_zip)
  exact ⟨G0, calleeM_of G0 gm F.kp (F.binds (ps := ["some", "i", "j", "many"]) fun _ _ _ _ _ _ us hl => match us, hl with | [_, _, _, _], _ => rfl)⟩

abbrev s_take_all : Stmt := topS 4
theorem sc_take_all : FnScope ["state", "i", "j", "many", "form", "record", "columns"] ["state", "i", "j", "many"] (defScope s_take_all) := ⟨rfl, rfl, rfl, by decide +kernel, rfl, by decide +kernel, by decide +kernel⟩
noncomputable def b_take_all : M Fl :=
  (sq (mAsgT (mVar 0) (gTp 3 (gsCons (gN 4) (gsCons (gN 5) (gsCons (gN 6) gsNil)))))
  (mIf (bnd (m2 (mVar 3) (ret (.int 0)) mNe) mB) (sq (mDrop (mCall (aCons (mVar 4) (aCons (mVar 1) (aCons (mVar 2) (aCons (mVar 3) aNil)))) F_take_row))
  (sq (mDrop (mCall (aCons (mVar 5) (aCons (mVar 1) (aCons (mVar 2) (aCons (mVar 3) aNil)))) F_take_row))
  (mDrop (mCall (aCons (mVar 6) (aCons (mVar 2) (aCons (mVar 1) (aCons (bnd (mVar 3) (u1i fun i => ret (.int (-i)))) aNil)))) F_take_row)))) nx))
noncomputable def F_take_all : List D → Rs := runF 7 b_take_all
abbrev N_take_all : List Str := ["state", "i", "j", "many", "form", "record", "columns"]
abbrev sk_take_all : Scope := defScope s_take_all
theorem v_take_all_0 : okV N_take_all sk_take_all 0 "state" = true := by decide +kernel
theorem v_take_all_1 : okV N_take_all sk_take_all 1 "i" = true := by decide +kernel
theorem v_take_all_2 : okV N_take_all sk_take_all 2 "j" = true := by decide +kernel
theorem v_take_all_3 : okV N_take_all sk_take_all 3 "many" = true := by decide +kernel
theorem v_take_all_4 : okV N_take_all sk_take_all 4 "form" = true := by decide +kernel
theorem v_take_all_5 : okV N_take_all sk_take_all 5 "record" = true := by decide +kernel
theorem v_take_all_6 : okV N_take_all sk_take_all 6 "columns" = true := by decide +kernel
theorem w_take_all_4 : okS N_take_all sk_take_all sk_take_all 4 "form" = true := by decide +kernel
theorem w_take_all_5 : okS N_take_all sk_take_all sk_take_all 5 "record" = true := by decide +kernel
theorem w_take_all_6 : okS N_take_all sk_take_all sk_take_all 6 "columns" = true := by decide +kernel
theorem g_take_all_take_row : okG sk_take_all "take_row" = true := by decide +kernel
set_option maxHeartbeats 4000000 in
theorem j_take_all {X : Cx} {W : WX} (C : CtxOk X W) (V : Nm X N_take_all sk_take_all sk_take_all) (Y : Df X) (x_take_row : CalM X "take_row" (spM X.K X.mg 4 R_take_row)) : ∃ t, PSs X (defBody s_take_all) t ∧ ∀ (s p q r : Addr) (Hf H : Hp) (S : Tri) (ns : List Int) (d : D) (S' : Tri) (Q : VK), Evl.Ex Hf H → SqT X.K Hf s [.ref p, .ref q, .ref r] → OwT X.K X.mg Hf H p q r S → rTake S ns d S' → (∀ v Hf' H', ChT Hf H Hf' H' p q r S S' → OwT X.K X.mg Hf' H' p q r S' → Rp X.K X.mg Hf' v d → Q v H') → t { nx := fun _ H' => Q .non H', rt := Q } (L2.start N_take_all (.ref s :: ns.map L2.V.int)) H :=
  ⟨_, pss_cons (ps_asg (pvV V v_take_all_0) (pg_tup C.calm (pgs_cons (pgV V w_take_all_4) (pgs_cons (pgV V w_take_all_5) (pgs_cons (pgV V w_take_all_6) pgs_nil))))) (pss_one (ps_if (pt_cmpR op_ne (pvV V v_take_all_3) pe_int (nomark _)) (pss_cons (ps_expr (pe_callM C V g_take_all_take_row x_take_row (pa_cons (pvV V v_take_all_4) (pa_cons (pvV V v_take_all_1) (pa_cons (pvV V v_take_all_2) (pa_cons (pvV V v_take_all_3) pa_nil)))))) (pss_cons (ps_expr (pe_callM C V g_take_all_take_row x_take_row (pa_cons (pvV V v_take_all_5) (pa_cons (pvV V v_take_all_1) (pa_cons (pvV V v_take_all_2) (pa_cons (pvV V v_take_all_3) pa_nil)))))) (pss_one (ps_expr (pe_callM C V g_take_all_take_row x_take_row (pa_cons (pvV V v_take_all_6) (pa_cons (pvV V v_take_all_2) (pa_cons (pvV V v_take_all_1) (pa_cons (pe_un un_neg (pvV V v_take_all_3)) pa_nil))))))))) pss_nil)), fun s p q r Hf H S ns d S' Q x hs ow hR hQ => vc_take_all (E := fun σ cls d H => W cls d σ H) (fun L i j q h => by unfold R_take_row; rw [eqb_take_row]; exact takeRow_eq h) x hs ow hR hQ⟩
theorem ok_take_all {P : Program} {w : World} {K : PySem.W.Frag} {mg : MG} {base : Heap} {f : Addr} {fd : FuncData} (TR : P.given.tree = none) (SR0 : base.NoSeer) (F : Fun K "take_all" "take_all" s_take_all f fd) (gm : mg "take_all" = some (.ref f)) (x_take_row : CalleeM P w K mg base "take_row" 41 (spM K mg 4 R_take_row)) : FnOk P w K mg base (L2N.CX P w) 42 f fd ["state", "i", "j", "many"] (spT K mg rTake) ∧ CalleeM P w K mg base "take_all" 42 (spT K mg rTake) := by
  have G0 := fn_okT (P := P) (w := w) (K := K) (mg := mg) (base := base) (N := N_take_all) (ps := ["state", "i", "j", "many"]) (k := 41) (n := 3) (R := rTake) F ⟨TR, SR0, by decide⟩ sc_take_all rfl (fun S ns d S' h => by obtain ⟨i, j, q, h, _⟩ := h; rw [h]; rfl) (fun X W hP hw hK hmg hb hr C V Y => by subst hP hw hK hmg hb; exact j_take_all C V Y (x_take_row.calM hr))
  exact ⟨G0, calleeM_of G0 gm F.kp (F.binds (ps := ["state", "i", "j", "many"]) fun _ _ _ _ _ _ us hl => match us, hl with | [_, _, _, _], _ => rfl)⟩

abbrev s_turn_signs : Stmt := topS 6
theorem sc_turn_signs : FnScope ["state", "i", "some", "number"] ["state", "i"] (defScope s_turn_signs) := ⟨rfl, rfl, rfl, by decide +kernel, rfl, by decide +kernel, by decide +kernel⟩
noncomputable def b_turn_signs : M Fl :=
  (bnd (mSeq (mVar 0)) (forL (gN 2) (mRSet 2 (mVar 1) (mLendF (unL (mLc [3] (mSeq (mIxN 2 (mVar 1))) (gN 3) (ret true) (bnd (mVar 3) (u1i fun i => ret (.int (-i))))))))))
noncomputable def F_turn_signs : List D → Rs := runF 4 b_turn_signs
abbrev N_turn_signs : List Str := ["state", "i", "some", "number"]
abbrev sk_turn_signs : Scope := defScope s_turn_signs
theorem v_turn_signs_0 : okV N_turn_signs sk_turn_signs 0 "state" = true := by decide +kernel
theorem v_turn_signs_1 : okV N_turn_signs sk_turn_signs 1 "i" = true := by decide +kernel
theorem v_turn_signs_2 : okV N_turn_signs sk_turn_signs 2 "some" = true := by decide +kernel
theorem w_turn_signs_2 : okS N_turn_signs sk_turn_signs sk_turn_signs 2 "some" = true := by decide +kernel
set_option maxHeartbeats 4000000 in
theorem eqb_turn : (mRSet 2 (mVar 1) (mLendF (unL (mLc [3] (mSeq (mIxN 2 (mVar 1))) (gN 3) (ret true) (bnd (mVar 3) (u1i fun i => ret (.int (-i)))))))) = bTurn := rfl
def turnBody : List Stmt := match defBody s_turn_signs with
  | [.For _ _ b _ _] => b
  | _ => []
theorem jb_turn_signs {X : Cx} {W : WX} (C : CtxOk X W) (V : Nm X N_turn_signs sk_turn_signs sk_turn_signs) (Y : Df X) : JSs X W turnBody (mRSet 2 (mVar 1) (mLendF (unL (mLc [3] (mSeq (mIxN 2 (mVar 1))) (gN 3) (ret true) (bnd (mVar 3) (u1i fun i => ret (.int (-i)))))))) :=
  jss_one (js_rset V v_turn_signs_2 (jf_lend (jf_lc (own := [("number", 3)]) C V (by decide +kernel) rfl (ji_seq (je_ixN V v_turn_signs_2 (je_var V v_turn_signs_1))) (fun X2 V2 C2 B2 => (jgv_name V2 (by decide +kernel) (by decide))) (fun X2 V2 C2 B2 => jts_nil) (fun X2 V2 C2 B2 => (je_neg (je_var V2 (by decide +kernel)))))) (je_var V v_turn_signs_1))
set_option maxHeartbeats 4000000 in
theorem j_turn_signs {X : Cx} {W : WX} (C : CtxOk X W) (V : Nm X N_turn_signs sk_turn_signs sk_turn_signs) (Y : Df X) : ∃ t, PSs X (defBody s_turn_signs) t ∧ ∀ (s p q r : Addr) (Hf H : Hp) (S : Tri) (ns : List Int) (d : D) (S' : Tri) (Q : VK), Evl.Ex Hf H → SqT X.K Hf s [.ref p, .ref q, .ref r] → OwT X.K X.mg Hf H p q r S → rTurn S ns d S' → (∀ v Hf' H', ChT Hf H Hf' H' p q r S S' → OwT X.K X.mg Hf' H' p q r S' → Rp X.K X.mg Hf' v d → Q v H') → t { nx := fun _ H' => Q .non H', rt := Q } (L2.start N_turn_signs (.ref s :: ns.map L2.V.int)) H := by
  obtain ⟨tb, pb, hb⟩ := (jb_turn_signs C V Y).ex
  exact ⟨_, pss_one (ps_for C.po C.calm (pi_tup (pvV V v_turn_signs_0)) (pgV V w_turn_signs_2) pb), fun s p q r Hf H S ns d S' Q x hs ow hR hQ => vc_turn hb (fun L i h1 h2 => by rw [eqb_turn]; exact turn_eq h1 h2) x hs ow hR hQ⟩
theorem ok_turn_signs {P : Program} {w : World} {K : PySem.W.Frag} {mg : MG} {base : Heap} {f : Addr} {fd : FuncData} (TR : P.given.tree = none) (SR0 : base.NoSeer) (F : Fun K "turn_signs" "turn_signs" s_turn_signs f fd) (gm : mg "turn_signs" = some (.ref f)) : FnOk P w K mg base (L2N.CX P w) 41 f fd ["state", "i"] (spT K mg rTurn) ∧ CalleeM P w K mg base "turn_signs" 41 (spT K mg rTurn) := by
  have G0 := fn_okT (P := P) (w := w) (K := K) (mg := mg) (base := base) (N := N_turn_signs) (ps := ["state", "i"]) (k := 40) (n := 1) (R := rTurn) F ⟨TR, SR0, by decide⟩ sc_turn_signs rfl (fun S ns d S' h => by obtain ⟨i, h, _⟩ := h; rw [h]; rfl) (fun X W hP hw hK hmg hb hr C V Y => by subst hP hw hK hmg hb; exact j_turn_signs C V Y )
  exact ⟨G0, calleeM_of G0 gm F.kp (F.binds (ps := ["state", "i"]) fun _ _ _ _ _ _ us hl => match us, hl with | [_, _], _ => rfl)⟩

abbrev s_bring_lead : Stmt := topS 8
theorem sc_bring_lead : FnScope ["state", "top", "k", "form", "at", "again", "i"] ["state", "top", "k"] (defScope s_bring_lead) := ⟨rfl, rfl, rfl, by decide +kernel, rfl, by decide +kernel, by decide +kernel⟩
noncomputable def b_bring_lead : M Fl :=
  (sq (mAsg 3 (mIxN 0 (ret (.int 0))))
  (sq (mAsg 4 (mCall (aCons (mVar 3) (aCons (mVar 1) (aCons (mVar 2) aNil))) F_least_at))
  (sq (mIf (bnd (mVar 4) fun x => ret (isNon x)) (mRet (ret (.bl false))) nx)
  (sq (mAsg 5 (ret (.bl true)))
  (sq (mWh (bnd (mVar 5) mTru) (sq (mDrop (mCall (aCons (mVar 0) (aCons (mVar 1) (aCons (mVar 4) aNil))) F_exchange_rows))
  (sq (mAsg 5 (ret (.bl false)))
  (sq (bnd (mRng2 (aCons (m2 (mVar 1) (ret (.int 1)) mAdd) (aCons (has 3 (onSl 3 fun d => cLen [d])) aNil))) (forL (gN 6) (sq (mDrop (mCall (aCons (mVar 0) (aCons (mVar 6) (aCons (mVar 1) (aCons (m2 (m2 (mIxN 3 (mVar 6)) (mVar 2) mIx) (m2 (mIxN 3 (mVar 1)) (mVar 2) mIx) (g2i iDiv)) aNil)))) F_take_all))
  (mIf (bnd (m2 (m2 (mIxN 3 (mVar 6)) (mVar 2) mIx) (ret (.int 0)) mNe) mB) (mAsg 5 (ret (.bl true))) nx))))
  (mAsg 4 (mCall (aCons (mVar 3) (aCons (mVar 1) (aCons (mVar 2) aNil))) F_least_at))))))
  (sq (mIf (bnd (m2 (m2 (mIxN 3 (mVar 1)) (mVar 2) mIx) (ret (.int 0)) (g2i (iCmp fun i j => decide (i < j)))) mB) (mDrop (mCall (aCons (mVar 0) (aCons (mVar 1) aNil)) F_turn_signs)) nx)
  (sq (bnd (mRng1 (aCons (mVar 1) aNil)) (forL (gN 6) (mDrop (mCall (aCons (mVar 0) (aCons (mVar 6) (aCons (mVar 1) (aCons (m2 (m2 (mIxN 3 (mVar 6)) (mVar 2) mIx) (m2 (mIxN 3 (mVar 1)) (mVar 2) mIx) (g2i iDiv)) aNil)))) F_take_all))))
  (mRet (ret (.bl true))))))))))
noncomputable def F_bring_lead : List D → Rs := runF 7 b_bring_lead
abbrev N_bring_lead : List Str := ["state", "top", "k", "form", "at", "again", "i"]
abbrev sk_bring_lead : Scope := defScope s_bring_lead
theorem v_bring_lead_0 : okV N_bring_lead sk_bring_lead 0 "state" = true := by decide +kernel
theorem v_bring_lead_1 : okV N_bring_lead sk_bring_lead 1 "top" = true := by decide +kernel
theorem v_bring_lead_2 : okV N_bring_lead sk_bring_lead 2 "k" = true := by decide +kernel
theorem v_bring_lead_3 : okV N_bring_lead sk_bring_lead 3 "form" = true := by decide +kernel
theorem v_bring_lead_4 : okV N_bring_lead sk_bring_lead 4 "at" = true := by decide +kernel
theorem v_bring_lead_5 : okV N_bring_lead sk_bring_lead 5 "again" = true := by decide +kernel
theorem v_bring_lead_6 : okV N_bring_lead sk_bring_lead 6 "i" = true := by decide +kernel
theorem w_bring_lead_3 : okS N_bring_lead sk_bring_lead sk_bring_lead 3 "form" = true := by decide +kernel
theorem w_bring_lead_4 : okS N_bring_lead sk_bring_lead sk_bring_lead 4 "at" = true := by decide +kernel
theorem w_bring_lead_5 : okS N_bring_lead sk_bring_lead sk_bring_lead 5 "again" = true := by decide +kernel
theorem w_bring_lead_6 : okS N_bring_lead sk_bring_lead sk_bring_lead 6 "i" = true := by decide +kernel
theorem g_bring_lead_exchange_rows : okG sk_bring_lead "exchange_rows" = true := by decide +kernel
theorem g_bring_lead_least_at : okG sk_bring_lead "least_at" = true := by decide +kernel
theorem g_bring_lead_len : okG sk_bring_lead "len" = true := by decide +kernel
theorem g_bring_lead_range : okG sk_bring_lead "range" = true := by decide +kernel
theorem g_bring_lead_take_all : okG sk_bring_lead "take_all" = true := by decide +kernel
theorem g_bring_lead_turn_signs : okG sk_bring_lead "turn_signs" = true := by decide +kernel
set_option maxHeartbeats 4000000 in
theorem eqb_least_at : b_least_at = bLeast := rfl
theorem j_bring_lead {X : Cx} {W : WX} (C : CtxOk X W) (V : Nm X N_bring_lead sk_bring_lead sk_bring_lead) (Y : Df X) (x_take_all : CalM X "take_all" (spT X.K X.mg rTake)) (x_exchange_rows : CalM X "exchange_rows" (spT X.K X.mg rExch)) (x_turn_signs : CalM X "turn_signs" (spT X.K X.mg rTurn)) (x_least_at : CalM X "least_at" (spP X.K X.mg 3 F_least_at)) (z_len : X.mg "len" = none) (z_range : X.mg "range" = none) : ∃ t, PSs X (defBody s_bring_lead) t ∧ ∀ (s p q r : Addr) (Hf H : Hp) (S : Tri) (ns : List Int) (d : D) (S' : Tri) (Q : VK), Evl.Ex Hf H → SqT X.K Hf s [.ref p, .ref q, .ref r] → OwT X.K X.mg Hf H p q r S → rBring S ns d S' → (∀ v Hf' H', ChT Hf H Hf' H' p q r S S' → OwT X.K X.mg Hf' H' p q r S' → Rp X.K X.mg Hf' v d → Q v H') → t { nx := fun _ H' => Q .non H', rt := Q } (L2.start N_bring_lead (.ref s :: ns.map L2.V.int)) H :=
  ⟨_, pss_cons (psV V w_bring_lead_3 (pe_ix ix_seq (pvV V v_bring_lead_0) pe_int (fun _ _ => rfl))) (pss_cons (psV V w_bring_lead_4 (pe_callM C V g_bring_lead_least_at x_least_at (pa_cons (pvV V v_bring_lead_3) (pa_cons (pvV V v_bring_lead_1) (pa_cons (pvV V v_bring_lead_2) pa_nil))))) (pss_cons (ps_if (pt_cmpR op_isN (pvV V v_bring_lead_4) pe_non (nomark _)) (pss_one (ps_ret pe_bl)) pss_nil) (pss_cons (psV V w_bring_lead_5 pe_bl) (pss_cons (ps_while C.po (pt_truth (pvV V v_bring_lead_5) (by intro _; rfl)) (pss_cons (ps_expr (pe_callM C V g_bring_lead_exchange_rows x_exchange_rows (pa_cons (pvV V v_bring_lead_0) (pa_cons (pvV V v_bring_lead_1) (pa_cons (pvV V v_bring_lead_4) pa_nil))))) (pss_cons (psV V w_bring_lead_5 pe_bl) (pss_cons (ps_for C.po C.calm (pi_range2 (V.g g_bring_lead_range).1 z_range (pa_cons (pe_op op_add (pvV V v_bring_lead_1) pe_int) (pa_cons (plenV V v_bring_lead_3 g_bring_lead_len z_len) pa_nil))) (pgV V w_bring_lead_6) (pss_cons (ps_expr (pe_callM C V g_bring_lead_take_all x_take_all (pa_cons (pvV V v_bring_lead_0) (pa_cons (pvV V v_bring_lead_6) (pa_cons (pvV V v_bring_lead_1) (pa_cons (pe_op (op_fdivX C.py) (pe_ix ix_seq (pe_ix ix_seq (pvV V v_bring_lead_3) (pvV V v_bring_lead_6) (fun _ _ => rfl)) (pvV V v_bring_lead_2) (fun _ _ => rfl)) (pe_ix ix_seq (pe_ix ix_seq (pvV V v_bring_lead_3) (pvV V v_bring_lead_1) (fun _ _ => rfl)) (pvV V v_bring_lead_2) (fun _ _ => rfl))) pa_nil)))))) (pss_one (ps_if (pt_cmpR op_ne (pe_ix ix_seq (pe_ix ix_seq (pvV V v_bring_lead_3) (pvV V v_bring_lead_6) (fun _ _ => rfl)) (pvV V v_bring_lead_2) (fun _ _ => rfl)) pe_int (nomark _)) (pss_one (psV V w_bring_lead_5 pe_bl)) pss_nil)))) (pss_one (psV V w_bring_lead_4 (pe_callM C V g_bring_lead_least_at x_least_at (pa_cons (pvV V v_bring_lead_3) (pa_cons (pvV V v_bring_lead_1) (pa_cons (pvV V v_bring_lead_2) pa_nil)))))))))) (pss_cons (ps_if (pt_cmpR op_lt (pe_ix ix_seq (pe_ix ix_seq (pvV V v_bring_lead_3) (pvV V v_bring_lead_1) (fun _ _ => rfl)) (pvV V v_bring_lead_2) (fun _ _ => rfl)) pe_int (nomark _)) (pss_one (ps_expr (pe_callM C V g_bring_lead_turn_signs x_turn_signs (pa_cons (pvV V v_bring_lead_0) (pa_cons (pvV V v_bring_lead_1) pa_nil))))) pss_nil) (pss_cons (ps_for C.po C.calm (pi_range1 (V.g g_bring_lead_range).1 z_range (pa_cons (pvV V v_bring_lead_1) pa_nil)) (pgV V w_bring_lead_6) (pss_one (ps_expr (pe_callM C V g_bring_lead_take_all x_take_all (pa_cons (pvV V v_bring_lead_0) (pa_cons (pvV V v_bring_lead_6) (pa_cons (pvV V v_bring_lead_1) (pa_cons (pe_op (op_fdivX C.py) (pe_ix ix_seq (pe_ix ix_seq (pvV V v_bring_lead_3) (pvV V v_bring_lead_6) (fun _ _ => rfl)) (pvV V v_bring_lead_2) (fun _ _ => rfl)) (pe_ix ix_seq (pe_ix ix_seq (pvV V v_bring_lead_3) (pvV V v_bring_lead_1) (fun _ _ => rfl)) (pvV V v_bring_lead_2) (fun _ _ => rfl))) pa_nil)))))))) (pss_one (ps_ret pe_bl)))))))), fun s p q r Hf H S ns d S' Q x hs ow hR hQ => vc_bring (E := fun σ cls d H => W cls d σ H) (fun F top k h => by unfold F_least_at; rw [eqb_least_at]; exact least_eq h) x hs ow hR hQ⟩
theorem ok_bring_lead {P : Program} {w : World} {K : PySem.W.Frag} {mg : MG} {base : Heap} {f : Addr} {fd : FuncData} (TR : P.given.tree = none) (SR0 : base.NoSeer) (F : Fun K "bring_lead" "bring_lead" s_bring_lead f fd) (gm : mg "bring_lead" = some (.ref f)) (c_least_at : Callee P w K mg base "least_at" 41 3 F_least_at) (x_take_all : CalleeM P w K mg base "take_all" 42 (spT K mg rTake)) (x_exchange_rows : CalleeM P w K mg base "exchange_rows" 41 (spT K mg rExch)) (x_turn_signs : CalleeM P w K mg base "turn_signs" 41 (spT K mg rTurn)) (z_len : mg "len" = none) (z_range : mg "range" = none) : FnOk P w K mg base (L2N.CX P w) 43 f fd ["state", "top", "k"] (spT K mg rBring) ∧ CalleeM P w K mg base "bring_lead" 43 (spT K mg rBring) := by
  have G0 := fn_okT (P := P) (w := w) (K := K) (mg := mg) (base := base) (N := N_bring_lead) (ps := ["state", "top", "k"]) (k := 42) (n := 2) (R := rBring) F ⟨TR, SR0, by decide⟩ sc_bring_lead rfl (fun S ns d S' h => by obtain ⟨i, k, h, _⟩ := h; rw [h]; rfl) (fun X W hP hw hK hmg hb hr C V Y => by subst hP hw hK hmg hb; exact j_bring_lead C V Y (x_take_all.calM hr) (x_exchange_rows.calM hr) (x_turn_signs.calM hr) ⟨by obtain ⟨f, fd, ps, G, hm, hk, hb⟩ := c_least_at.ex; exact ⟨_, f, fd, ps, G, hr.mono (by decide), hm, hk, hb⟩⟩ z_len z_range)
  exact ⟨G0, calleeM_of G0 gm F.kp (F.binds (ps := ["state", "top", "k"]) fun _ _ _ _ _ _ us hl => match us, hl with | [_, _, _], _ => rfl)⟩

abbrev s_stairs : Stmt := topS 9
theorem sc_stairs : FnScope ["rows", "form", "row", "record", "columns", "top", "k", "back", "column", "i"] ["rows"] (defScope s_stairs) := ⟨rfl, rfl, rfl, by decide +kernel, rfl, by decide +kernel, by decide +kernel⟩
noncomputable def b_stairs : M R3 :=
  (sq3 (mOwnR 1 (mLcR [2] (mSeq (mVar 0)) (gN 2) (bnd (aCons (mVar 2) aNil) cListF)))
  (sq3 (mOwnR 3 (mCallRR (aCons (mLend (has 1 (onSl 1 fun d => cLen [d]))) aNil) RR_still_rows))
  (sq3 (mOwnR 4 (mCallRR (aCons (mLend (has 1 (onSl 1 fun d => cLen [d]))) aNil) RR_still_rows))
  (sq3 (mAsg 5 (ret (.int 0)))
  (sq3 (bnd (mRng1 (aCons (bnd (aCons (mIxN 0 (ret (.int 0))) aNil) cLen) aNil)) (forL (gN 6) (mIf (bAnd (bnd (m2 (mVar 5) (mLend (has 1 (onSl 1 fun d => cLen [d]))) (g2i (iCmp fun i j => decide (i < j)))) mB) (bnd (mBr rBring 1 3 4 5 6) mTru)) (mAug 5 (ret (.int 1)) fun a b => .int (a + b)) nx)))
  (sq3 (mOwnR 7 (mLcR [9] (mRng1 (aCons (mLend (has 4 (onSl 4 fun d => cLen [d]))) aNil)) (gN 9) (unL (mLc [8] (mSeq (mVar 4)) (gN 8) (ret true) (mIxN 8 (mVar 9))))))
  (ret3 1 3 7)))))))
noncomputable def F3_stairs : List D → Res R3 := runR3 10 b_stairs
abbrev N_stairs : List Str := ["rows", "form", "row", "record", "columns", "top", "k", "back", "column", "i"]
abbrev sk_stairs : Scope := defScope s_stairs
theorem v_stairs_0 : okV N_stairs sk_stairs 0 "rows" = true := by decide +kernel
theorem v_stairs_1 : okV N_stairs sk_stairs 1 "form" = true := by decide +kernel
theorem v_stairs_3 : okV N_stairs sk_stairs 3 "record" = true := by decide +kernel
theorem v_stairs_4 : okV N_stairs sk_stairs 4 "columns" = true := by decide +kernel
theorem v_stairs_5 : okV N_stairs sk_stairs 5 "top" = true := by decide +kernel
theorem v_stairs_6 : okV N_stairs sk_stairs 6 "k" = true := by decide +kernel
theorem v_stairs_7 : okV N_stairs sk_stairs 7 "back" = true := by decide +kernel
theorem w_stairs_1 : okS N_stairs sk_stairs sk_stairs 1 "form" = true := by decide +kernel
theorem w_stairs_3 : okS N_stairs sk_stairs sk_stairs 3 "record" = true := by decide +kernel
theorem w_stairs_4 : okS N_stairs sk_stairs sk_stairs 4 "columns" = true := by decide +kernel
theorem w_stairs_5 : okS N_stairs sk_stairs sk_stairs 5 "top" = true := by decide +kernel
theorem w_stairs_6 : okS N_stairs sk_stairs sk_stairs 6 "k" = true := by decide +kernel
theorem w_stairs_7 : okS N_stairs sk_stairs sk_stairs 7 "back" = true := by decide +kernel
theorem g_stairs_bring_lead : okG sk_stairs "bring_lead" = true := by decide +kernel
theorem g_stairs_len : okG sk_stairs "len" = true := by decide +kernel
theorem g_stairs_range : okG sk_stairs "range" = true := by decide +kernel
theorem g_stairs_still_rows : okG sk_stairs "still_rows" = true := by decide +kernel
set_option maxHeartbeats 4000000 in
theorem j_stairs {X : Cx} {W : WX} (C : CtxOk X W) (V : Nm X N_stairs sk_stairs sk_stairs) (Y : Df X) (x_still_rows : CalM X "still_rows" (spRR X.K X.mg 1 RR_still_rows)) (x_bring_lead : CalM X "bring_lead" (spT X.K X.mg rBring)) (z_len : X.mg "len" = none) (z_list : X.mg "list" = none) (z_range : X.mg "range" = none) : J3s X W (defBody s_stairs) b_stairs :=
  (j3_cons (js_ownRLc (own := [("row", 2)]) C V w_stairs_1 (by decide +kernel) (by decide +kernel) rfl (by decide) (by decide) (ji_seq (je_var V v_stairs_0)) (fun X1 V1 C1 B1 => (jgv_name V1 (by decide +kernel) (by decide))) (fun X1 V1 C1 B1 => (jf_listC V1 (by decide +kernel) (B1.z z_list) (ja_cons (je_var V1 (by decide +kernel)) ja_nil))))
    (j3_cons (js_ownR V w_stairs_3 (jr_call C V g_stairs_still_rows x_still_rows (ja_cons (je_lend (je_lenN V v_stairs_1 g_stairs_len z_len)) ja_nil) (alen_cons alen_nil)))
    (j3_cons (js_ownR V w_stairs_4 (jr_call C V g_stairs_still_rows x_still_rows (ja_cons (je_lend (je_lenN V v_stairs_1 g_stairs_len z_len)) ja_nil) (alen_cons alen_nil)))
    (j3_cons (js_asg V w_stairs_5 je_int)
    (j3_cons (js_for C (ji_range1 V g_stairs_range z_range (ja_cons (je_len V g_stairs_len z_len (ja_cons (je_ixN V v_stairs_0 je_int) ja_nil)) ja_nil)) (jg_name V w_stairs_6) (jss_one (js_if (JW.jt (jw_and (jt_lt (je_var V v_stairs_5) (je_lend (je_lenN V v_stairs_1 g_stairs_len z_len))) (jw_and1 (jt_tru (je_br C V g_stairs_bring_lead x_bring_lead v_stairs_1 v_stairs_3 v_stairs_4 v_stairs_5 v_stairs_6))))) (jss_one (js_add V w_stairs_5 je_int)) jss_nil)))
    (j3_cons (js_ownRLc (own := [("i", 9)]) C V w_stairs_7 (by decide +kernel) (by decide +kernel) rfl (by decide) (by decide) (ji_range1 V g_stairs_range z_range (ja_cons (je_lend (je_lenN V v_stairs_4 g_stairs_len z_len)) ja_nil)) (fun X2 V2 C2 B2 => (jgv_name V2 (by decide +kernel) (by decide))) (fun X2 V2 C2 B2 => (jf_lc (own := [("column", 8)]) C2 V2 (by decide +kernel) rfl (ji_seq (je_var V2 (by decide +kernel))) (fun X3 V3 C3 B3 => (jgv_name V3 (by decide +kernel) (by decide))) (fun X3 V3 C3 B3 => jts_nil) (fun X3 V3 C3 B3 => (je_ixN V3 (by decide +kernel) (je_var V3 (by decide +kernel)))))))
    (j3_ret V v_stairs_1 v_stairs_3 v_stairs_7)))))))
theorem ok_stairs {P : Program} {w : World} {K : PySem.W.Frag} {mg : MG} {base : Heap} {f : Addr} {fd : FuncData} (TR : P.given.tree = none) (SR0 : base.NoSeer) (F : Fun K "stairs" "stairs" s_stairs f fd) (gm : mg "stairs" = some (.ref f)) (x_still_rows : CalleeM P w K mg base "still_rows" 41 (spRR K mg 1 RR_still_rows)) (x_bring_lead : CalleeM P w K mg base "bring_lead" 43 (spT K mg rBring)) (z_len : mg "len" = none) (z_list : mg "list" = none) (z_range : mg "range" = none) :
    FnOk P w K mg base (L2N.CX P w) 44 f fd ["rows"] (spR3 K mg 1 F3_stairs) ∧ CalleeM P w K mg base "stairs" 44 (spR3 K mg 1 F3_stairs) := by
  have G : FnOk P w K mg base (L2N.CX P w) 44 f fd ["rows"] (spR3 K mg 1 F3_stairs) := by
    have G0 := fn_okR3 (P := P) (w := w) (K := K) (mg := mg) (base := base) (N := N_stairs) (ps := ["rows"]) (k := 43) (g := b_stairs) F ⟨TR, SR0, by decide⟩ sc_stairs (fun X W hP hw hK hmg hb hr C V Y => by subst hP hw hK hmg hb; exact j_stairs C V Y (x_still_rows.calM hr) (x_bring_lead.calM hr) z_len z_list z_range)
    exact G0
  exact ⟨G, calleeM_of G gm F.kp (F.binds (ps := ["rows"]) fun _ _ _ _ _ _ us hl => match us, hl with | [_], _ => rfl)⟩

abbrev s_law_apart : Stmt := topS 21
theorem sc_law_apart : FnScope ["_law_form", "_law_record", "_law_undo", "_law_due", "_law_row"] ["_law_form", "_law_record", "_law_undo"] (defScope s_law_apart) := ⟨rfl, rfl, rfl, by decide +kernel, rfl, by decide +kernel, by decide +kernel⟩
noncomputable def b_law_apart : M Fl :=
  (sq (mAsg 3 (mTup (aCons (mFrzR (mLendR (mLcR [4] (mSeq (mVar 0)) (gN 4) (bnd (aCons (mVar 4) aNil) cListF)))) (aCons (mFrzR (mLendR (mLcR [4] (mSeq (mVar 2)) (gN 4) (bnd (aCons (mVar 4) aNil) cListF)))) aNil))))
  (sq (mForR 1 4 (ret (.int 0)) (m2 (mIxN 4 (ret (.int 0))) (ret (.int 1)) mAdd))
  (sq (mRApp 1 (mFl aNil))
  (sq (mIf (mLendB (bnd (m2 (mVar 3) (mTup (aCons (mVar 0) (aCons (mVar 2) aNil))) mNe) mB)) (mRet (ret (.bl false))) nx)
  (sq (mForR 2 4 (ret (.int 0)) (m2 (mIxN 4 (ret (.int 0))) (ret (.int 1)) mAdd))
  (sq (mRClr 2)
  (mRet (mLend (m2 (mIxN 3 (ret (.int 0))) (mVar 0) mEq)))))))))
noncomputable def A_law_apart : R3 → Option Bool := runA3 5 b_law_apart
abbrev N_law_apart : List Str := ["_law_form", "_law_record", "_law_undo", "_law_due", "_law_row"]
abbrev sk_law_apart : Scope := defScope s_law_apart
theorem v_law_apart_0 : okV N_law_apart sk_law_apart 0 "_law_form" = true := by decide +kernel
theorem v_law_apart_1 : okV N_law_apart sk_law_apart 1 "_law_record" = true := by decide +kernel
theorem v_law_apart_2 : okV N_law_apart sk_law_apart 2 "_law_undo" = true := by decide +kernel
theorem v_law_apart_3 : okV N_law_apart sk_law_apart 3 "_law_due" = true := by decide +kernel
theorem v_law_apart_4 : okV N_law_apart sk_law_apart 4 "_law_row" = true := by decide +kernel
theorem w_law_apart_3 : okS N_law_apart sk_law_apart sk_law_apart 3 "_law_due" = true := by decide +kernel
theorem w_law_apart_4 : okS N_law_apart sk_law_apart sk_law_apart 4 "_law_row" = true := by decide +kernel
set_option maxHeartbeats 4000000 in
theorem j_law_apart {X : Cx} {W : WX} (C : CtxOk X W) (V : Nm X N_law_apart sk_law_apart sk_law_apart) (Y : Df X) (z_list : X.mg "list" = none) : JSs X W (defBody s_law_apart) b_law_apart :=
  (jss_cons (js_asg V w_law_apart_3 (je_tup (ja_cons (je_frzR (jr_lend (jr_lc (own := [("_law_row", 4)]) C V (by decide +kernel) rfl (ji_seq (je_var V v_law_apart_0)) (fun X2 V2 C2 B2 => (jgv_name V2 (by decide +kernel) (by decide))) (fun X2 V2 C2 B2 => (jf_listC V2 (by decide +kernel) (B2.z z_list) (ja_cons (je_var V2 (by decide +kernel)) ja_nil)))))) (ja_cons (je_frzR (jr_lend (jr_lc (own := [("_law_row", 4)]) C V (by decide +kernel) rfl (ji_seq (je_var V v_law_apart_2)) (fun X1 V1 C1 B1 => (jgv_name V1 (by decide +kernel) (by decide))) (fun X1 V1 C1 B1 => (jf_listC V1 (by decide +kernel) (B1.z z_list) (ja_cons (je_var V1 (by decide +kernel)) ja_nil)))))) ja_nil))))
    (jss_cons (js_forR C V v_law_apart_1 w_law_apart_4 v_law_apart_4 (by decide) (je_add (je_ixN V v_law_apart_4 je_int) je_int) je_int)
    (jss_cons (js_rapp V v_law_apart_1 (jf_lst ja_nil))
    (jss_cons (js_if (jt_lend (jt_ne C (je_var V v_law_apart_3) (je_tup (ja_cons (je_var V v_law_apart_0) (ja_cons (je_var V v_law_apart_2) ja_nil))))) (jss_one (js_ret je_bl)) jss_nil)
    (jss_cons (js_forR C V v_law_apart_2 w_law_apart_4 v_law_apart_4 (by decide) (je_add (je_ixN V v_law_apart_4 je_int) je_int) je_int)
    (jss_cons (js_rclear V v_law_apart_2)
    (jss_one (js_ret (je_lend (je_eq C (je_ixN V v_law_apart_3 je_int) (je_var V v_law_apart_0)))))))))))
theorem ok_law_apart {P : Program} {w : World} {K : PySem.W.Frag} {mg : MG} {base : Heap} {f : Addr} {fd : FuncData} (TR : P.given.tree = none) (SR0 : base.NoSeer) (F : Fun K "_law_apart" "_law_apart" s_law_apart f fd) (gm : mg "_law_apart" = some (.ref f)) (z_list : mg "list" = none) :
    FnOk P w K mg base (L2N.CX P w) 41 f fd ["_law_form", "_law_record", "_law_undo"] (spA3 K mg A_law_apart) ∧ CalleeM P w K mg base "_law_apart" 41 (spA3 K mg A_law_apart) := by
  have G : FnOk P w K mg base (L2N.CX P w) 41 f fd ["_law_form", "_law_record", "_law_undo"] (spA3 K mg A_law_apart) := by
    have G0 := fn_okA3 (P := P) (w := w) (K := K) (mg := mg) (base := base) (N := N_law_apart) (ps := ["_law_form", "_law_record", "_law_undo"]) (k := 40) (g := b_law_apart) F ⟨TR, SR0, by decide⟩ sc_law_apart rfl (fun X W hP hw hK hmg hb hr C V Y => by subst hP hw hK hmg hb; exact j_law_apart C V Y z_list)
    exact G0
  exact ⟨G, calleeM_of G gm F.kp (F.binds (ps := ["_law_form", "_law_record", "_law_undo"]) fun _ _ _ _ _ _ us hl => match us, hl with | [_, _, _], _ => rfl)⟩

abbrev s_law : Stmt := topS 22
theorem sc_law : FnScope ["_law_script", "_law_rows_here", "_law_n", "_law_m", "_law_handed_here", "_law_found", "_law_row", "_law_form", "_law_record", "_law_undo", "_law_k", "_law_i"] ["_law_script"] (defScope s_law) := ⟨rfl, rfl, rfl, by decide +kernel, rfl, by decide +kernel, by decide +kernel⟩
noncomputable def b_law : M Fl :=
  (sq (mAsg 1 (mCall (aCons (mVar 0) aNil) F_law_rows))
  (sq (mAsg 2 (has 1 (onSl 1 fun d => cLen [d])))
  (sq (mAsg 3 (bnd (aCons (mIxN 1 (ret (.int 0))) aNil) cLen))
  (sq (mAsg 4 (mCall (aCons (mVar 1) (aCons (m2 (mCall (aCons (mVar 0) (aCons (ret (.int 0)) aNil)) F_law_cell) (ret (.int 22400)) (g2i iDiv)) aNil)) F_law_handed))
  (mTri 5 7 8 9 (mCall3 (aCons (mVar 4) aNil) F3_stairs) (bOr (bnd (m2 (mLc [6] (mSeq (mVar 4)) (gN 6) (ret true) (bnd (aCons (mVar 6) aNil) cList)) (mVar 1) mNe) mB) (bOr (bNot (bnd (bnd (mVar 5) fun d => cIsi "tuple" [d]) mTru)) (bnd (m2 (has 5 (onSl 5 fun d => cLen [d])) (ret (.int 3)) mNe) mB)))
  (sq (mIf (mLendB (bOr (bNot (bnd (mCall (aCons (mVar 7) (aCons (mVar 2) (aCons (mVar 3) aNil))) F_law_is_rows) mTru)) (bOr (bNot (bnd (mCall (aCons (mVar 8) (aCons (mVar 2) (aCons (mVar 2) aNil))) F_law_is_rows) mTru)) (bNot (bnd (mCall (aCons (mVar 9) (aCons (mVar 2) (aCons (mVar 2) aNil))) F_law_is_rows) mTru))))) (mRet (ret (.bl false))) nx)
  (sq (mIf (mLendB (bOr (bnd (m2 (mCall (aCons (mVar 8) (aCons (mVar 1) aNil)) F_law_times) (mVar 7) mNe) mB) (bNot (bnd (mCall (aCons (mVar 7) aNil) F_law_stairs) mTru)))) (mRet (ret (.bl false))) nx)
  (sq (mIf (mLendB (bnd (m2 (mCall (aCons (mVar 8) (aCons (mVar 9) aNil)) F_law_times) (mLc [11] (mRng1 (aCons (mVar 2) aNil)) (gN 11) (ret true) (mLc [10] (mRng1 (aCons (mVar 2) aNil)) (gN 10) (ret true) (bnd (aCons (m2 (mVar 11) (mVar 10) mEq) aNil) cInt))) mNe) mB)) (mRet (ret (.bl false))) nx)
  (mRetA A_law_apart 7 8 9)))))))))
noncomputable def F_law : List D → Rs := runF 12 b_law
abbrev N_law : List Str := ["_law_script", "_law_rows_here", "_law_n", "_law_m", "_law_handed_here", "_law_found", "_law_row", "_law_form", "_law_record", "_law_undo", "_law_k", "_law_i"]
abbrev sk_law : Scope := defScope s_law
theorem v_law_0 : okV N_law sk_law 0 "_law_script" = true := by decide +kernel
theorem v_law_1 : okV N_law sk_law 1 "_law_rows_here" = true := by decide +kernel
theorem v_law_2 : okV N_law sk_law 2 "_law_n" = true := by decide +kernel
theorem v_law_3 : okV N_law sk_law 3 "_law_m" = true := by decide +kernel
theorem v_law_4 : okV N_law sk_law 4 "_law_handed_here" = true := by decide +kernel
theorem v_law_5 : okV N_law sk_law 5 "_law_found" = true := by decide +kernel
theorem v_law_7 : okV N_law sk_law 7 "_law_form" = true := by decide +kernel
theorem v_law_8 : okV N_law sk_law 8 "_law_record" = true := by decide +kernel
theorem v_law_9 : okV N_law sk_law 9 "_law_undo" = true := by decide +kernel
theorem w_law_1 : okS N_law sk_law sk_law 1 "_law_rows_here" = true := by decide +kernel
theorem w_law_2 : okS N_law sk_law sk_law 2 "_law_n" = true := by decide +kernel
theorem w_law_3 : okS N_law sk_law sk_law 3 "_law_m" = true := by decide +kernel
theorem w_law_4 : okS N_law sk_law sk_law 4 "_law_handed_here" = true := by decide +kernel
theorem w_law_5 : okS N_law sk_law sk_law 5 "_law_found" = true := by decide +kernel
theorem w_law_7 : okS N_law sk_law sk_law 7 "_law_form" = true := by decide +kernel
theorem w_law_8 : okS N_law sk_law sk_law 8 "_law_record" = true := by decide +kernel
theorem w_law_9 : okS N_law sk_law sk_law 9 "_law_undo" = true := by decide +kernel
theorem g_law_law_apart : okG sk_law "_law_apart" = true := by decide +kernel
theorem g_law_law_cell : okG sk_law "_law_cell" = true := by decide +kernel
theorem g_law_law_handed : okG sk_law "_law_handed" = true := by decide +kernel
theorem g_law_law_is_rows : okG sk_law "_law_is_rows" = true := by decide +kernel
theorem g_law_law_rows : okG sk_law "_law_rows" = true := by decide +kernel
theorem g_law_law_stairs : okG sk_law "_law_stairs" = true := by decide +kernel
theorem g_law_law_times : okG sk_law "_law_times" = true := by decide +kernel
theorem g_law_isinstance : okG sk_law "isinstance" = true := by decide +kernel
theorem g_law_len : okG sk_law "len" = true := by decide +kernel
theorem g_law_range : okG sk_law "range" = true := by decide +kernel
theorem g_law_stairs : okG sk_law "stairs" = true := by decide +kernel
theorem g_law_tuple : okG sk_law "tuple" = true := by decide +kernel
set_option maxHeartbeats 4000000 in
theorem j_law {X : Cx} {W : WX} (C : CtxOk X W) (V : Nm X N_law sk_law sk_law) (Y : Df X) (c_law_is_rows : Cal X "_law_is_rows" 3 F_law_is_rows) (c_law_times : Cal X "_law_times" 2 F_law_times) (c_law_stairs : Cal X "_law_stairs" 1 F_law_stairs) (c_law_handed : Cal X "_law_handed" 2 F_law_handed) (c_law_cell : Cal X "_law_cell" 2 F_law_cell) (c_law_rows : Cal X "_law_rows" 1 F_law_rows) (x_stairs : CalM X "stairs" (spR3 X.K X.mg 1 F3_stairs)) (x_law_apart : CalM X "_law_apart" (spA3 X.K X.mg A_law_apart)) (z_int : X.mg "int" = none) (z_isinstance : X.mg "isinstance" = none) (z_len : X.mg "len" = none) (z_list : X.mg "list" = none) (z_range : X.mg "range" = none) (z_tuple : X.mg "tuple" = none) : JSs X W (defBody s_law) b_law :=
  (jss_cons (js_asg V w_law_1 (je_call C V g_law_law_rows c_law_rows (ja_cons (je_var V v_law_0) ja_nil) (alen_cons alen_nil)))
    (jss_cons (js_asg V w_law_2 (je_lenN V v_law_1 g_law_len z_len))
    (jss_cons (js_asg V w_law_3 (je_len V g_law_len z_len (ja_cons (je_ixN V v_law_1 je_int) ja_nil)))
    (jss_cons (js_asg V w_law_4 (je_call C V g_law_law_handed c_law_handed (ja_cons (je_var V v_law_1) (ja_cons (je_fdiv C (je_call C V g_law_law_cell c_law_cell (ja_cons (je_var V v_law_0) (ja_cons je_int ja_nil)) (alen_cons (alen_cons alen_nil))) je_int) ja_nil)) (alen_cons (alen_cons alen_nil))))
    (jss_tri C V w_law_5 v_law_5 w_law_7 w_law_8 w_law_9 (jr3_call C V g_law_stairs x_stairs (ja_cons (je_var V v_law_4) ja_nil) (alen_cons alen_nil)) (JW.jt (jw_or (jt_ne C (je_lc (own := [("_law_row", 6)]) C V (by decide +kernel) rfl (ji_seq (je_var V v_law_4)) (fun X1 V1 C1 B1 => (jgv_name V1 (by decide +kernel) (by decide))) (fun X1 V1 C1 B1 => jts_nil) (fun X1 V1 C1 B1 => (je_list V1 (by decide +kernel) (B1.z z_list) (ja_cons (je_var V1 (by decide +kernel)) ja_nil)))) (je_var V v_law_1)) (jw_or (jt_not (jt_tru (je_isi (T := "tuple") V g_law_isinstance g_law_tuple z_isinstance z_tuple (by decide +kernel) (je_var V v_law_5)))) (jw_or1 (jt_ne C (je_lenN V v_law_5 g_law_len z_len) je_int))))) (jss_one (js_ret je_bl))
    (jss_cons (js_if (jt_lend (JW.jt (jw_or (jt_not (jt_tru (je_call C V g_law_law_is_rows c_law_is_rows (ja_cons (je_var V v_law_7) (ja_cons (je_var V v_law_2) (ja_cons (je_var V v_law_3) ja_nil))) (alen_cons (alen_cons (alen_cons alen_nil)))))) (jw_or (jt_not (jt_tru (je_call C V g_law_law_is_rows c_law_is_rows (ja_cons (je_var V v_law_8) (ja_cons (je_var V v_law_2) (ja_cons (je_var V v_law_2) ja_nil))) (alen_cons (alen_cons (alen_cons alen_nil)))))) (jw_or1 (jt_not (jt_tru (je_call C V g_law_law_is_rows c_law_is_rows (ja_cons (je_var V v_law_9) (ja_cons (je_var V v_law_2) (ja_cons (je_var V v_law_2) ja_nil))) (alen_cons (alen_cons (alen_cons alen_nil))))))))))) (jss_one (js_ret je_bl)) jss_nil)
    (jss_cons (js_if (jt_lend (JW.jt (jw_or (jt_ne C (je_call C V g_law_law_times c_law_times (ja_cons (je_var V v_law_8) (ja_cons (je_var V v_law_1) ja_nil)) (alen_cons (alen_cons alen_nil))) (je_var V v_law_7)) (jw_or1 (jt_not (jt_tru (je_call C V g_law_law_stairs c_law_stairs (ja_cons (je_var V v_law_7) ja_nil) (alen_cons alen_nil)))))))) (jss_one (js_ret je_bl)) jss_nil)
    (jss_cons (js_if (jt_lend (jt_ne C (je_call C V g_law_law_times c_law_times (ja_cons (je_var V v_law_8) (ja_cons (je_var V v_law_9) ja_nil)) (alen_cons (alen_cons alen_nil))) (je_lc (own := [("_law_i", 11)]) C V (by decide +kernel) rfl (ji_range1 V g_law_range z_range (ja_cons (je_var V v_law_2) ja_nil)) (fun X2 V2 C2 B2 => (jgv_name V2 (by decide +kernel) (by decide))) (fun X2 V2 C2 B2 => jts_nil) (fun X2 V2 C2 B2 => (je_lc (own := [("_law_k", 10)]) C2 V2 (by decide +kernel) rfl (ji_range1 V2 (by decide +kernel) (B2.z z_range) (ja_cons (je_var V2 (by decide +kernel)) ja_nil)) (fun X3 V3 C3 B3 => (jgv_name V3 (by decide +kernel) (by decide))) (fun X3 V3 C3 B3 => jts_nil) (fun X3 V3 C3 B3 => (je_intC V3 (by decide +kernel) (B3.z (B2.z z_int)) (ja_cons (je_eq C3 (je_var V3 (by decide +kernel)) (je_var V3 (by decide +kernel))) ja_nil)))))))) (jss_one (js_ret je_bl)) jss_nil)
    (jss_one (js_retA C V g_law_law_apart x_law_apart v_law_7 v_law_8 v_law_9))))))))))
theorem ok_law {P : Program} {w : World} {K : PySem.W.Frag} {mg : MG} {base : Heap} {f : Addr} {fd : FuncData} (TR : P.given.tree = none) (SR0 : base.NoSeer) (F : Fun K "law" "law" s_law f fd) (gm : mg "law" = some (.ref f)) (c_law_is_rows : Callee P w K mg base "_law_is_rows" 42 3 F_law_is_rows) (c_law_times : Callee P w K mg base "_law_times" 41 2 F_law_times) (c_law_stairs : Callee P w K mg base "_law_stairs" 42 1 F_law_stairs) (c_law_handed : Callee P w K mg base "_law_handed" 41 2 F_law_handed) (c_law_cell : Callee P w K mg base "_law_cell" 41 2 F_law_cell) (c_law_rows : Callee P w K mg base "_law_rows" 42 1 F_law_rows) (x_stairs : CalleeM P w K mg base "stairs" 44 (spR3 K mg 1 F3_stairs)) (x_law_apart : CalleeM P w K mg base "_law_apart" 41 (spA3 K mg A_law_apart)) (z_int : mg "int" = none) (z_isinstance : mg "isinstance" = none) (z_len : mg "len" = none) (z_list : mg "list" = none) (z_range : mg "range" = none) (z_tuple : mg "tuple" = none) :
    FnOk P w K mg base (L2N.CX P w) 45 f fd ["_law_script"] (spP K mg 1 F_law) ∧ Callee P w K mg base "law" 45 1 F_law := by
  have G : FnOk P w K mg base (L2N.CX P w) 45 f fd ["_law_script"] (spP K mg 1 F_law) := by
    have G0 := fn_ok (P := P) (w := w) (K := K) (mg := mg) (base := base) (N := N_law) (ps := ["_law_script"]) (k := 44) (g := b_law) F ⟨TR, SR0, by decide⟩ sc_law (fun X W hP hw hK hmg hb hr C V Y => by subst hP hw hK hmg hb; exact j_law C V Y (c_law_is_rows.cal hr) (c_law_times.cal hr) (c_law_stairs.cal hr) (c_law_handed.cal hr) (c_law_cell.cal hr) (c_law_rows.cal hr) (x_stairs.calM hr) (x_law_apart.calM hr) z_int z_isinstance z_len z_list z_range z_tuple)
    exact G0
  exact ⟨G, callee_of G gm F.kp (F.binds (ps := ["_law_script"]) fun _ _ _ _ _ _ us hl => match us, hl with | [_], _ => rfl)⟩

set_option maxHeartbeats 4000000 in
theorem all_mk {P : Program} {w : World} {K : PySem.W.Frag} {h : Heap} {mg : MG} {fa : Addr} (hlaw : ∀ ns : List Int, ns.length ≤ 63 → (∀ z ∈ ns, Builtin.Int.intBits z ≤ 1048576) → F_law [.lst (ns.map .int)] = .ok (.bl true)) (TR : P.given.tree = none) (X : K.In h) (G : h.Ns mainGlobals mg) (hfa : mg "law" = some (.ref fa))
    {f1 : Addr} {od1 an1 : Option Addr} {sl1 : Array (Option Value)} {oc1 kV1 dc1 pm1 cd1 ct1 : Value}
    (a1 : PySem.W.nsIn K mainGlobals "_law_int" = some (some (.ref f1))) (l1 : K.lookup f1 = some ⟨oc1, od1, .func (PySem.W.fnOf "_law_int" "_law_int" (defArgs s_law_int) (defBody s_law_int) (defScope s_law_int) .none kV1 dc1 pm1 an1 cd1 ct1), sl1⟩) (c1 : PySem.W.codeIn K cd1 "_law_int" = true) (k1 : PySem.W.keepIn K (.ref f1) = true)
    {f2 : Addr} {od2 an2 : Option Addr} {sl2 : Array (Option Value)} {oc2 kV2 dc2 pm2 cd2 ct2 : Value}
    (a2 : PySem.W.nsIn K mainGlobals "_law_is_rows" = some (some (.ref f2))) (l2 : K.lookup f2 = some ⟨oc2, od2, .func (PySem.W.fnOf "_law_is_rows" "_law_is_rows" (defArgs s_law_is_rows) (defBody s_law_is_rows) (defScope s_law_is_rows) .none kV2 dc2 pm2 an2 cd2 ct2), sl2⟩) (c2 : PySem.W.codeIn K cd2 "_law_is_rows" = true) (k2 : PySem.W.keepIn K (.ref f2) = true)
    {f3 : Addr} {od3 an3 : Option Addr} {sl3 : Array (Option Value)} {oc3 kV3 dc3 pm3 cd3 ct3 : Value}
    (a3 : PySem.W.nsIn K mainGlobals "_law_times" = some (some (.ref f3))) (l3 : K.lookup f3 = some ⟨oc3, od3, .func (PySem.W.fnOf "_law_times" "_law_times" (defArgs s_law_times) (defBody s_law_times) (defScope s_law_times) .none kV3 dc3 pm3 an3 cd3 ct3), sl3⟩) (c3 : PySem.W.codeIn K cd3 "_law_times" = true) (k3 : PySem.W.keepIn K (.ref f3) = true)
    {f4 : Addr} {od4 an4 : Option Addr} {sl4 : Array (Option Value)} {oc4 kV4 dc4 pm4 cd4 ct4 : Value}
    (a4 : PySem.W.nsIn K mainGlobals "_law_lead" = some (some (.ref f4))) (l4 : K.lookup f4 = some ⟨oc4, od4, .func (PySem.W.fnOf "_law_lead" "_law_lead" (defArgs s_law_lead) (defBody s_law_lead) (defScope s_law_lead) .none kV4 dc4 pm4 an4 cd4 ct4), sl4⟩) (c4 : PySem.W.codeIn K cd4 "_law_lead" = true) (k4 : PySem.W.keepIn K (.ref f4) = true)
    {f5 : Addr} {od5 an5 : Option Addr} {sl5 : Array (Option Value)} {oc5 kV5 dc5 pm5 cd5 ct5 : Value}
    (a5 : PySem.W.nsIn K mainGlobals "_law_stairs" = some (some (.ref f5))) (l5 : K.lookup f5 = some ⟨oc5, od5, .func (PySem.W.fnOf "_law_stairs" "_law_stairs" (defArgs s_law_stairs) (defBody s_law_stairs) (defScope s_law_stairs) .none kV5 dc5 pm5 an5 cd5 ct5), sl5⟩) (c5 : PySem.W.codeIn K cd5 "_law_stairs" = true) (k5 : PySem.W.keepIn K (.ref f5) = true)
    {f6 : Addr} {od6 an6 : Option Addr} {sl6 : Array (Option Value)} {oc6 kV6 dc6 pm6 cd6 ct6 : Value}
    (a6 : PySem.W.nsIn K mainGlobals "_law_handed" = some (some (.ref f6))) (l6 : K.lookup f6 = some ⟨oc6, od6, .func (PySem.W.fnOf "_law_handed" "_law_handed" (defArgs s_law_handed) (defBody s_law_handed) (defScope s_law_handed) .none kV6 dc6 pm6 an6 cd6 ct6), sl6⟩) (c6 : PySem.W.codeIn K cd6 "_law_handed" = true) (k6 : PySem.W.keepIn K (.ref f6) = true)
    {f7 : Addr} {od7 an7 : Option Addr} {sl7 : Array (Option Value)} {oc7 kV7 dc7 pm7 cd7 ct7 : Value}
    (a7 : PySem.W.nsIn K mainGlobals "_law_cell" = some (some (.ref f7))) (l7 : K.lookup f7 = some ⟨oc7, od7, .func (PySem.W.fnOf "_law_cell" "_law_cell" (defArgs s_law_cell) (defBody s_law_cell) (defScope s_law_cell) .none kV7 dc7 pm7 an7 cd7 ct7), sl7⟩) (c7 : PySem.W.codeIn K cd7 "_law_cell" = true) (k7 : PySem.W.keepIn K (.ref f7) = true)
    {f8 : Addr} {od8 an8 : Option Addr} {sl8 : Array (Option Value)} {oc8 kV8 dc8 pm8 cd8 ct8 : Value}
    (a8 : PySem.W.nsIn K mainGlobals "_law_told_rows" = some (some (.ref f8))) (l8 : K.lookup f8 = some ⟨oc8, od8, .func (PySem.W.fnOf "_law_told_rows" "_law_told_rows" (defArgs s_law_told_rows) (defBody s_law_told_rows) (defScope s_law_told_rows) .none kV8 dc8 pm8 an8 cd8 ct8), sl8⟩) (c8 : PySem.W.codeIn K cd8 "_law_told_rows" = true) (k8 : PySem.W.keepIn K (.ref f8) = true)
    {f9 : Addr} {od9 an9 : Option Addr} {sl9 : Array (Option Value)} {oc9 kV9 dc9 pm9 cd9 ct9 : Value}
    (a9 : PySem.W.nsIn K mainGlobals "_law_number" = some (some (.ref f9))) (l9 : K.lookup f9 = some ⟨oc9, od9, .func (PySem.W.fnOf "_law_number" "_law_number" (defArgs s_law_number) (defBody s_law_number) (defScope s_law_number) .none kV9 dc9 pm9 an9 cd9 ct9), sl9⟩) (c9 : PySem.W.codeIn K cd9 "_law_number" = true) (k9 : PySem.W.keepIn K (.ref f9) = true)
    {f10 : Addr} {od10 an10 : Option Addr} {sl10 : Array (Option Value)} {oc10 kV10 dc10 pm10 cd10 ct10 : Value}
    (a10 : PySem.W.nsIn K mainGlobals "_law_rows" = some (some (.ref f10))) (l10 : K.lookup f10 = some ⟨oc10, od10, .func (PySem.W.fnOf "_law_rows" "_law_rows" (defArgs s_law_rows) (defBody s_law_rows) (defScope s_law_rows) .none kV10 dc10 pm10 an10 cd10 ct10), sl10⟩) (c10 : PySem.W.codeIn K cd10 "_law_rows" = true) (k10 : PySem.W.keepIn K (.ref f10) = true)
    {f11 : Addr} {od11 an11 : Option Addr} {sl11 : Array (Option Value)} {oc11 kV11 dc11 pm11 cd11 ct11 : Value}
    (a11 : PySem.W.nsIn K mainGlobals "still_rows" = some (some (.ref f11))) (l11 : K.lookup f11 = some ⟨oc11, od11, .func (PySem.W.fnOf "still_rows" "still_rows" (defArgs s_still_rows) (defBody s_still_rows) (defScope s_still_rows) .none kV11 dc11 pm11 an11 cd11 ct11), sl11⟩) (c11 : PySem.W.codeIn K cd11 "still_rows" = true) (k11 : PySem.W.keepIn K (.ref f11) = true)
    {f12 : Addr} {od12 an12 : Option Addr} {sl12 : Array (Option Value)} {oc12 kV12 dc12 pm12 cd12 ct12 : Value}
    (a12 : PySem.W.nsIn K mainGlobals "least_at" = some (some (.ref f12))) (l12 : K.lookup f12 = some ⟨oc12, od12, .func (PySem.W.fnOf "least_at" "least_at" (defArgs s_least_at) (defBody s_least_at) (defScope s_least_at) .none kV12 dc12 pm12 an12 cd12 ct12), sl12⟩) (c12 : PySem.W.codeIn K cd12 "least_at" = true) (k12 : PySem.W.keepIn K (.ref f12) = true)
    {f13 : Addr} {od13 an13 : Option Addr} {sl13 : Array (Option Value)} {oc13 kV13 dc13 pm13 cd13 ct13 : Value}
    (a13 : PySem.W.nsIn K mainGlobals "exchange_rows" = some (some (.ref f13))) (l13 : K.lookup f13 = some ⟨oc13, od13, .func (PySem.W.fnOf "exchange_rows" "exchange_rows" (defArgs s_exchange_rows) (defBody s_exchange_rows) (defScope s_exchange_rows) .none kV13 dc13 pm13 an13 cd13 ct13), sl13⟩) (c13 : PySem.W.codeIn K cd13 "exchange_rows" = true) (k13 : PySem.W.keepIn K (.ref f13) = true)
    {f14 : Addr} {od14 an14 : Option Addr} {sl14 : Array (Option Value)} {oc14 kV14 dc14 pm14 cd14 ct14 : Value}
    (a14 : PySem.W.nsIn K mainGlobals "take_row" = some (some (.ref f14))) (l14 : K.lookup f14 = some ⟨oc14, od14, .func (PySem.W.fnOf "take_row" "take_row" (defArgs s_take_row) (defBody s_take_row) (defScope s_take_row) .none kV14 dc14 pm14 an14 cd14 ct14), sl14⟩) (c14 : PySem.W.codeIn K cd14 "take_row" = true) (k14 : PySem.W.keepIn K (.ref f14) = true)
    {f15 : Addr} {od15 an15 : Option Addr} {sl15 : Array (Option Value)} {oc15 kV15 dc15 pm15 cd15 ct15 : Value}
    (a15 : PySem.W.nsIn K mainGlobals "take_all" = some (some (.ref f15))) (l15 : K.lookup f15 = some ⟨oc15, od15, .func (PySem.W.fnOf "take_all" "take_all" (defArgs s_take_all) (defBody s_take_all) (defScope s_take_all) .none kV15 dc15 pm15 an15 cd15 ct15), sl15⟩) (c15 : PySem.W.codeIn K cd15 "take_all" = true) (k15 : PySem.W.keepIn K (.ref f15) = true)
    {f16 : Addr} {od16 an16 : Option Addr} {sl16 : Array (Option Value)} {oc16 kV16 dc16 pm16 cd16 ct16 : Value}
    (a16 : PySem.W.nsIn K mainGlobals "turn_signs" = some (some (.ref f16))) (l16 : K.lookup f16 = some ⟨oc16, od16, .func (PySem.W.fnOf "turn_signs" "turn_signs" (defArgs s_turn_signs) (defBody s_turn_signs) (defScope s_turn_signs) .none kV16 dc16 pm16 an16 cd16 ct16), sl16⟩) (c16 : PySem.W.codeIn K cd16 "turn_signs" = true) (k16 : PySem.W.keepIn K (.ref f16) = true)
    {f17 : Addr} {od17 an17 : Option Addr} {sl17 : Array (Option Value)} {oc17 kV17 dc17 pm17 cd17 ct17 : Value}
    (a17 : PySem.W.nsIn K mainGlobals "bring_lead" = some (some (.ref f17))) (l17 : K.lookup f17 = some ⟨oc17, od17, .func (PySem.W.fnOf "bring_lead" "bring_lead" (defArgs s_bring_lead) (defBody s_bring_lead) (defScope s_bring_lead) .none kV17 dc17 pm17 an17 cd17 ct17), sl17⟩) (c17 : PySem.W.codeIn K cd17 "bring_lead" = true) (k17 : PySem.W.keepIn K (.ref f17) = true)
    {f18 : Addr} {od18 an18 : Option Addr} {sl18 : Array (Option Value)} {oc18 kV18 dc18 pm18 cd18 ct18 : Value}
    (a18 : PySem.W.nsIn K mainGlobals "stairs" = some (some (.ref f18))) (l18 : K.lookup f18 = some ⟨oc18, od18, .func (PySem.W.fnOf "stairs" "stairs" (defArgs s_stairs) (defBody s_stairs) (defScope s_stairs) .none kV18 dc18 pm18 an18 cd18 ct18), sl18⟩) (c18 : PySem.W.codeIn K cd18 "stairs" = true) (k18 : PySem.W.keepIn K (.ref f18) = true)
    {f19 : Addr} {od19 an19 : Option Addr} {sl19 : Array (Option Value)} {oc19 kV19 dc19 pm19 cd19 ct19 : Value}
    (a19 : PySem.W.nsIn K mainGlobals "_law_apart" = some (some (.ref f19))) (l19 : K.lookup f19 = some ⟨oc19, od19, .func (PySem.W.fnOf "_law_apart" "_law_apart" (defArgs s_law_apart) (defBody s_law_apart) (defScope s_law_apart) .none kV19 dc19 pm19 an19 cd19 ct19), sl19⟩) (c19 : PySem.W.codeIn K cd19 "_law_apart" = true) (k19 : PySem.W.keepIn K (.ref f19) = true)
    {f20 : Addr} {od20 an20 : Option Addr} {sl20 : Array (Option Value)} {oc20 kV20 dc20 pm20 cd20 ct20 : Value}
    (a20 : PySem.W.nsIn K mainGlobals "law" = some (some (.ref f20))) (l20 : K.lookup f20 = some ⟨oc20, od20, .func (PySem.W.fnOf "law" "law" (defArgs s_law) (defBody s_law) (defScope s_law) .none kV20 dc20 pm20 an20 cd20 ct20), sl20⟩) (c20 : PySem.W.codeIn K cd20 "law" = true) (k20 : PySem.W.keepIn K (.ref f20) = true)
    (n_abs : PySem.W.nsIn K mainGlobals "abs" = some none)
    (n_bool : PySem.W.nsIn K mainGlobals "bool" = some none)
    (n_int : PySem.W.nsIn K mainGlobals "int" = some none)
    (n_isinstance : PySem.W.nsIn K mainGlobals "isinstance" = some none)
    (n_len : PySem.W.nsIn K mainGlobals "len" = some none)
    (n_list : PySem.W.nsIn K mainGlobals "list" = some none)
    (n_max : PySem.W.nsIn K mainGlobals "max" = some none)
    (n_range : PySem.W.nsIn K mainGlobals "range" = some none)
    (n_tuple : PySem.W.nsIn K mainGlobals "tuple" = some none)
    (n_zip : PySem.W.nsIn K mainGlobals "zip" = some none)
    : ∃ fd : FuncData, (∀ (s : Shared) (v : Value), BindsTo s fd ⟨[v], []⟩ [("_law_script", v)]) ∧ ∀ base : Heap, K.In base → base.Ns mainGlobals mg → base.NoSeer → FnOk P w K mg base (L2N.CX P w) 45 fa fd ["_law_script"] (spL K) := by
  have e := hfa.symm.trans (PySem.W.mg_of X G a20)
  cases e
  have z_abs : mg "abs" = none := PySem.W.mg_none_of X G n_abs
  have z_bool : mg "bool" = none := PySem.W.mg_none_of X G n_bool
  have z_int : mg "int" = none := PySem.W.mg_none_of X G n_int
  have z_isinstance : mg "isinstance" = none := PySem.W.mg_none_of X G n_isinstance
  have z_len : mg "len" = none := PySem.W.mg_none_of X G n_len
  have z_list : mg "list" = none := PySem.W.mg_none_of X G n_list
  have z_max : mg "max" = none := PySem.W.mg_none_of X G n_max
  have z_range : mg "range" = none := PySem.W.mg_none_of X G n_range
  have z_tuple : mg "tuple" = none := PySem.W.mg_none_of X G n_tuple
  have z_zip : mg "zip" = none := PySem.W.mg_none_of X G n_zip
  refine ⟨PySem.W.fnOf "law" "law" (defArgs s_law) (defBody s_law) (defScope s_law) .none kV20 dc20 pm20 an20 cd20 ct20, fun s v => .of_eq rfl, fun base hB hG hS => ?_⟩
  all_goals skip
  have c_law_int := (ok_law_int (P := P) (w := w) (base := base) TR hS (fun_mk (st := s_law_int) l1 c1 k1) (PySem.W.mg_of X G a1) z_bool z_int z_isinstance).2
  have c_law_is_rows := (ok_law_is_rows (P := P) (w := w) (base := base) TR hS (fun_mk (st := s_law_is_rows) l2 c2 k2) (PySem.W.mg_of X G a2) c_law_int z_isinstance z_len z_list).2
  have c_law_times := (ok_law_times (P := P) (w := w) (base := base) TR hS (fun_mk (st := s_law_times) l3 c3 k3) (PySem.W.mg_of X G a3) z_len z_range z_zip).2
  have c_law_lead := (ok_law_lead (P := P) (w := w) (base := base) TR hS (fun_mk (st := s_law_lead) l4 c4 k4) (PySem.W.mg_of X G a4) z_len z_range).2
  have c_law_stairs := (ok_law_stairs (P := P) (w := w) (base := base) TR hS (fun_mk (st := s_law_stairs) l5 c5 k5) (PySem.W.mg_of X G a5) c_law_lead z_len z_range).2
  have c_law_handed := (ok_law_handed (P := P) (w := w) (base := base) TR hS (fun_mk (st := s_law_handed) l6 c6 k6) (PySem.W.mg_of X G a6) z_list z_tuple).2
  have c_law_cell := (ok_law_cell (P := P) (w := w) (base := base) TR hS (fun_mk (st := s_law_cell) l7 c7 k7) (PySem.W.mg_of X G a7) z_len).2
  have c_law_told_rows := (ok_law_told_rows (P := P) (w := w) (base := base) TR hS (fun_mk (st := s_law_told_rows) l8 c8 k8) (PySem.W.mg_of X G a8) z_range).2
  have c_law_number := (ok_law_number (P := P) (w := w) (base := base) TR hS (fun_mk (st := s_law_number) l9 c9 k9) (PySem.W.mg_of X G a9) ).2
  have c_law_rows := (ok_law_rows (P := P) (w := w) (base := base) TR hS (fun_mk (st := s_law_rows) l10 c10 k10) (PySem.W.mg_of X G a10) c_law_cell c_law_told_rows c_law_number z_len z_max z_range z_zip).2
  have c_still_rows := (ok_still_rows (P := P) (w := w) (base := base) TR hS (fun_mk (st := s_still_rows) l11 c11 k11) (PySem.W.mg_of X G a11) z_int z_range).2
  have x_still_rows := (okRR_still_rows (P := P) (w := w) (base := base) TR hS (fun_mk (st := s_still_rows) l11 c11 k11) (PySem.W.mg_of X G a11) z_int z_range)
  have c_least_at := (ok_least_at (P := P) (w := w) (base := base) TR hS (fun_mk (st := s_least_at) l12 c12 k12) (PySem.W.mg_of X G a12) z_abs z_len z_range).2
  have x_exchange_rows := (ok_exchange_rows (P := P) (w := w) (base := base) TR hS (fun_mk (st := s_exchange_rows) l13 c13 k13) (PySem.W.mg_of X G a13) ).2
  have x_take_row := (ok_take_row (P := P) (w := w) (base := base) TR hS (fun_mk (st := s_take_row) l14 c14 k14) (PySem.W.mg_of X G a14) z_zip).2
  have x_take_all := (ok_take_all (P := P) (w := w) (base := base) TR hS (fun_mk (st := s_take_all) l15 c15 k15) (PySem.W.mg_of X G a15) x_take_row).2
  have x_turn_signs := (ok_turn_signs (P := P) (w := w) (base := base) TR hS (fun_mk (st := s_turn_signs) l16 c16 k16) (PySem.W.mg_of X G a16) ).2
  have x_bring_lead := (ok_bring_lead (P := P) (w := w) (base := base) TR hS (fun_mk (st := s_bring_lead) l17 c17 k17) (PySem.W.mg_of X G a17) c_least_at x_take_all x_exchange_rows x_turn_signs z_len z_range).2
  have x_stairs := (ok_stairs (P := P) (w := w) (base := base) TR hS (fun_mk (st := s_stairs) l18 c18 k18) (PySem.W.mg_of X G a18) x_still_rows x_bring_lead z_len z_list z_range).2
  have x_law_apart := (ok_law_apart (P := P) (w := w) (base := base) TR hS (fun_mk (st := s_law_apart) l19 c19 k19) (PySem.W.mg_of X G a19) z_list).2
  exact law_of (ok_law (P := P) (w := w) (base := base) TR hS (fun_mk (st := s_law) l20 c20 k20) (PySem.W.mg_of X G a20) c_law_is_rows c_law_times c_law_stairs c_law_handed c_law_cell c_law_rows x_stairs x_law_apart z_int z_isinstance z_len z_list z_range z_tuple).1 hlaw
-- NAMES: G_crystalwords_k23_whole_stairs.dv_5, G_crystalwords_k23_whole_stairs.dv_40, G_crystalwords_k23_whole_stairs.dv_80, G_crystalwords_k23_whole_stairs.dv_280, G_crystalwords_k23_whole_stairs.dv_1400, G_crystalwords_k23_whole_stairs.dv_22400, G_crystalwords_k23_whole_stairs.nz_2, G_crystalwords_k23_whole_stairs.nz_4, G_crystalwords_k23_whole_stairs.nz_5, G_crystalwords_k23_whole_stairs.nz_7, G_crystalwords_k23_whole_stairs.nz_8, G_crystalwords_k23_whole_stairs.nz_16, G_crystalwords_k23_whole_stairs.pw_10_18, G_crystalwords_k23_whole_stairs.pw_10_60, G_crystalwords_k23_whole_stairs.pw_10_9
end G_crystalwords_k23_whole_stairs

/-! DSn: rows of whole numbers as tables; what the steps to stairs keep. -/
namespace DL
/-! ### sums -/
def sm : Nat → (Nat → Int) → Int
  | 0, _ => 0
  | n + 1, f => sm n f + f n
theorem sm_congr {f g : Nat → Int} : ∀ {n : Nat}, (∀ j, j < n → f j = g j) → sm n f = sm n g
  | 0, _ => rfl
  | n + 1, h => by
    show sm n f + f n = sm n g + g n
    rw [sm_congr fun j hj => h j (by omega), h n (by omega)]
theorem sm_lin {f g h : Nat → Int} {q : Int} : ∀ {n : Nat}, (∀ j, j < n → h j = f j + q * g j) → sm n h = sm n f + q * sm n g
  | 0, _ => by simp [sm]
  | n + 1, e => by
    show sm n h + h n = sm n f + f n + q * (sm n g + g n)
    rw [sm_lin (f := f) (g := g) (q := q) fun j hj => e j (by omega), e n (by omega)]
    grind
theorem sm_zero {f : Nat → Int} : ∀ {n : Nat}, (∀ j, j < n → f j = 0) → sm n f = 0
  | 0, _ => rfl
  | n + 1, h => by
    show sm n f + f n = 0
    rw [sm_zero fun j hj => h j (by omega), h n (by omega)]; rfl
theorem sm_one {f : Nat → Int} {i : Nat} : ∀ {n : Nat}, i < n → (∀ j, j < n → j ≠ i → f j = 0) → sm n f = f i
  | 0, h, _ => absurd h (by omega)
  | n + 1, h, e => by
    show sm n f + f n = f i
    by_cases hi : i = n
    · subst hi
      rw [sm_zero fun j hj => e j (by omega) (by omega)]; omega
    · rw [sm_one (by omega : i < n) fun j hj hn => e j (by omega) hn, e n (by omega) (fun z => hi z.symm)]; omega
theorem sm_add {f g : Nat → Int} {n : Nat} : sm n (fun j => f j + g j) = sm n f + sm n g := by
  rw [sm_lin (f := f) (g := g) (q := 1) fun j _ => by omega]; omega
theorem sm_mulL {f : Nat → Int} {q : Int} {n : Nat} : sm n (fun j => q * f j) = q * sm n f := by
  rw [sm_lin (f := fun _ => 0) (g := f) (q := q) fun j _ => by omega, sm_zero fun _ _ => rfl]; omega
theorem sm_mulR {f : Nat → Int} {q : Int} {n : Nat} : sm n (fun j => f j * q) = sm n f * q := by
  rw [sm_congr (g := fun j => q * f j) fun j _ => Int.mul_comm _ _, sm_mulL, Int.mul_comm]
theorem sm_swap {f : Nat → Nat → Int} {m : Nat} : ∀ {n : Nat}, sm n (fun i => sm m fun j => f i j) = sm m fun j => sm n fun i => f i j
  | 0 => (sm_zero fun _ _ => rfl).symm
  | n + 1 => by
    show sm n (fun i => sm m fun j => f i j) + sm m (fun j => f n j) = _
    rw [sm_swap (n := n), ← sm_add]; rfl
/-- a sum changed at one place -/
theorem sm_at {f g : Nat → Int} {i n : Nat} {x : Int} (hi : i < n) (h : ∀ j, j < n → g j = f j + (if j = i then x else 0)) : sm n g = sm n f + x := by
  rw [sm_lin (f := f) (g := fun j => if j = i then x else 0) (q := 1) fun j hj => by rw [h j hj]; omega, sm_one hi fun j _ hn => if_neg hn, if_pos rfl]; omega
/-! ### tables -/
structure Shp (n m : Nat) (L : Mx) : Prop where
  l : L.length = n
  w : ∀ (i : Nat) (r : List Int), L[i]? = some r → r.length = m
theorem Shp.at {n m : Nat} {L : Mx} (h : Shp n m L) {i : Nat} (hi : i < n) : ∃ r, L[i]? = some r ∧ r.length = m := by
  have hl : i < L.length := by rw [h.l]; exact hi
  exact ⟨L[i], List.getElem?_eq_getElem hl, h.w i _ (List.getElem?_eq_getElem hl)⟩
theorem rd_at {L : Mx} {i c : Nat} {r : List Int} (h : L[i]? = some r) : rdD L i c = r.getD c 0 := by
  unfold rdD rdM
  rw [h, List.getD_eq_getElem?_getD]; rfl
theorem rd_out {L : Mx} {i c : Nat} (h : L.length ≤ i) : rdD L i c = 0 := by
  unfold rdD rdM
  rw [List.getElem?_eq_none h]; rfl
theorem Shp.some {n m : Nat} {L : Mx} (h : Shp n m L) {i c : Nat} (hi : i < n) (hc : c < m) : (rdM L i c).isSome = true := by
  obtain ⟨r, hr, hl⟩ := h.at hi
  unfold rdM
  rw [hr]
  show (r[c]?).isSome = true
  rw [List.getElem?_eq_getElem (by omega)]; rfl
theorem Shp.out {n m : Nat} {L : Mx} (h : Shp n m L) {i c : Nat} (hc : m ≤ c) : rdD L i c = 0 := by
  by_cases hi : i < n
  · obtain ⟨r, hr, hl⟩ := h.at hi
    rw [rd_at hr, List.getD_eq_getElem?_getD, List.getElem?_eq_none (by omega)]; rfl
  · exact rd_out (by rw [h.l]; omega)
theorem Shp.getD {n m : Nat} {L : Mx} (h : Shp n m L) {i : Nat} (hi : i < n) : (L.getD i []).length = m := by
  obtain ⟨r, hr, hl⟩ := h.at hi
  rw [List.getD_eq_getElem?_getD, hr]; exact hl
theorem Shp.set {n m : Nat} {L : Mx} (h : Shp n m L) {i : Nat} {r : List Int} (hr : r.length = m) : Shp n m (L.set i r) := by
  refine ⟨by rw [List.length_set]; exact h.l, fun a s ha => ?_⟩
  by_cases z : i = a
  · subst z
    rw [List.getElem?_set_self (by have := (List.getElem?_eq_some_iff.mp ha).1; simpa using this)] at ha
    cases ha; exact hr
  · rw [List.getElem?_set_ne z] at ha; exact h.w a s ha
theorem rd_set {L : Mx} {i a c : Nat} {r : List Int} (hi : i < L.length) : rdD (L.set i r) a c = if a = i then r.getD c 0 else rdD L a c := by
  by_cases z : a = i
  · subst z
    rw [if_pos rfl, rd_at (List.getElem?_set_self hi)]
  · rw [if_neg z]
    unfold rdD rdM
    rw [List.getElem?_set_ne (fun y => z y.symm)]
theorem getD_row {L : Mx} {i : Nat} {r : List Int} (h : L[i]? = some r) : L.getD i [] = r := by
  rw [List.getD_eq_getElem?_getD, h]; rfl
theorem zipI_len : ∀ {r s : List Int} {q : Int} {m : Nat}, r.length = m → s.length = m → (zipI r s q).length = m
  | [], _, _, _, h, _ => by cases ‹List Int› <;> exact h
  | _ :: _, [], _, _, h, h' => by rw [← h'] at h; cases h
  | _ :: r, _ :: s, q, m + 1, h, h' => by
    show (zipI r s q).length + 1 = m + 1
    rw [zipI_len (m := m) (by simpa using h) (by simpa using h')]
theorem zipI_get : ∀ {r s : List Int} {q : Int} {c : Nat}, r.length = s.length → (zipI r s q).getD c 0 = r.getD c 0 - q * s.getD c 0
  | [], [], q, c, _ => by show ([] : List Int).getD c 0 = ([] : List Int).getD c 0 - q * ([] : List Int).getD c 0; simp
  | [], _ :: _, _, _, h => by cases h
  | _ :: _, [], _, _, h => by cases h
  | a :: r, b :: s, q, 0, _ => rfl
  | a :: r, b :: s, q, c + 1, h => by
    show (zipI r s q).getD c 0 = r.getD c 0 - q * s.getD c 0
    exact zipI_get (by simpa using h)
section
variable {n m : Nat} {L : Mx} {i j : Nat} {q : Int}
theorem Shp.tk (h : Shp n m L) (hi : i < n) (hj : j < n) : Shp n m (tkRow L i j q) := h.set (zipI_len (h.getD hi) (h.getD hj))
theorem rd_tk (h : Shp n m L) (hi : i < n) (hj : j < n) (a c : Nat) : rdD (tkRow L i j q) a c = if a = i then rdD L i c - q * rdD L j c else rdD L a c := by
  obtain ⟨r, hr, hl⟩ := h.at hi
  obtain ⟨s, hs, hl'⟩ := h.at hj
  unfold tkRow
  rw [rd_set (by rw [h.l]; exact hi), rd_at hr, rd_at hs, getD_row hr, getD_row hs, zipI_get (by omega)]
theorem Shp.ex (h : Shp n m L) (hi : i < n) (hj : j < n) : Shp n m (exRow L i j) := (h.set (h.getD hj)).set (h.getD hi)
theorem rd_ex (h : Shp n m L) (hi : i < n) (hj : j < n) (a c : Nat) : rdD (exRow L i j) a c = if a = j then rdD L i c else if a = i then rdD L j c else rdD L a c := by
  obtain ⟨r, hr, hl⟩ := h.at hi
  obtain ⟨s, hs, hl'⟩ := h.at hj
  unfold exRow
  rw [rd_set (by rw [List.length_set, h.l]; exact hj), rd_set (by rw [h.l]; exact hi), rd_at hr, rd_at hs, getD_row hr, getD_row hs]
theorem Shp.ng (h : Shp n m L) (hi : i < n) : Shp n m (ngRow L i) := h.set (by rw [List.length_map]; exact h.getD hi)
theorem rd_ng (h : Shp n m L) (hi : i < n) (a c : Nat) : rdD (ngRow L i) a c = if a = i then -rdD L i c else rdD L a c := by
  obtain ⟨r, hr, hl⟩ := h.at hi
  unfold ngRow
  rw [rd_set (by rw [h.l]; exact hi), rd_at hr, getD_row hr]
  congr 1
  show (r.map fun n => -n).getD c 0 = -r.getD c 0
  rw [List.getD_eq_getElem?_getD, List.getD_eq_getElem?_getD, List.getElem?_map]
  cases r[c]? <;> simp
end
/-! ### what every step keeps -/
structure Okt (n m : Nat) (X : Mx) (S : Tri) : Prop where
  f : Shp n m S.F
  r : Shp n n S.R
  c : Shp n n S.C
  mul : ∀ i, i < n → ∀ c, sm n (fun j => rdD S.R i j * rdD X j c) = rdD S.F i c
  inv : ∀ i, i < n → ∀ k, k < n → sm n (fun j => rdD S.R i j * rdD S.C k j) = if i = k then 1 else 0
  vni : ∀ x, x < n → ∀ y, y < n → sm n (fun a => rdD S.C a x * rdD S.R a y) = if x = y then 1 else 0
section
variable {n m : Nat} {X : Mx} {S : Tri} {i j : Nat} {q : Int}
theorem Okt.tk (o : Okt n m X S) (hi : i < n) (hj : j < n) (ne : i ≠ j) : Okt n m X (S.tk i j q) := by
  refine ⟨o.f.tk hi hj, o.r.tk hi hj, o.c.tk hj hi, fun a ha c => ?_, fun a ha k hk => ?_, fun x hx y hy => ?_⟩
  rotate_left 2
  · show sm n (fun a => rdD (tkRow S.C j i (-q)) a x * rdD (tkRow S.R i j q) a y) = _
    rw [← o.vni x hx y hy]
    have s1 := sm_at (f := fun a => rdD S.C a x * rdD S.R a y) (g := fun a => rdD S.C a x * rdD S.R a y + (if a = i then -(q * (rdD S.C i x * rdD S.R j y)) else 0)) hi fun a _ => rfl
    have s2 := sm_at (f := fun a => rdD S.C a x * rdD S.R a y + (if a = i then -(q * (rdD S.C i x * rdD S.R j y)) else 0)) (g := fun a => rdD (tkRow S.C j i (-q)) a x * rdD (tkRow S.R i j q) a y) (x := q * (rdD S.C i x * rdD S.R j y)) hj fun a _ => by
      rw [rd_tk o.c hj hi, rd_tk o.r hi hj]
      by_cases h1 : a = i
      · rw [if_neg (fun z : a = j => ne (h1.symm.trans z)), if_pos h1, if_pos h1, if_neg (fun z : a = j => ne (h1.symm.trans z)), h1]; grind
      · by_cases h2 : a = j
        · rw [if_pos h2, if_neg h1, if_neg h1, if_pos h2, h2]; grind
        · rw [if_neg h2, if_neg h1, if_neg h1, if_neg h2]; omega
    rw [s2, s1]; omega
  · show sm n (fun b => rdD (tkRow S.R i j q) a b * rdD X b c) = rdD (tkRow S.F i j q) a c
    rw [rd_tk o.f hi hj]
    by_cases h : a = i
    · subst h
      rw [if_pos rfl, ← o.mul a ha c, ← o.mul j hj c]
      rw [sm_lin (f := fun b => rdD S.R a b * rdD X b c) (g := fun b => rdD S.R j b * rdD X b c) (q := -q) fun b _ => by rw [rd_tk o.r hi hj, if_pos rfl]; grind]
      grind
    · rw [if_neg h, ← o.mul a ha c]
      exact sm_congr fun b _ => by rw [rd_tk o.r hi hj, if_neg h]
  · show sm n (fun b => rdD (tkRow S.R i j q) a b * rdD (tkRow S.C j i (-q)) k b) = _
    have e : ∀ b, rdD (tkRow S.C j i (-q)) k b = if k = j then rdD S.C j b + q * rdD S.C i b else rdD S.C k b := fun b => by
      rw [rd_tk o.c hj hi]
      by_cases h : k = j
      · rw [if_pos h, if_pos h]; grind
      · rw [if_neg h, if_neg h]
    have v := fun x y hx hy => o.inv x hx y hy
    by_cases h1 : a = i
    · subst h1
      by_cases h2 : k = j
      · subst h2
        have s1 : sm n (fun b => rdD (tkRow S.R a k q) a b * rdD (tkRow S.C k a (-q)) k b) = sm n (fun b => rdD S.R a b * rdD S.C k b) + q * sm n (fun b => rdD S.R a b * rdD S.C a b) + (-q) * sm n (fun b => rdD S.R k b * rdD S.C k b) + (-(q * q)) * sm n (fun b => rdD S.R k b * rdD S.C a b) := by
          rw [← sm_lin (h := fun b => rdD S.R a b * rdD S.C k b + q * (rdD S.R a b * rdD S.C a b)) fun b _ => rfl, ← sm_lin (h := fun b => rdD S.R a b * rdD S.C k b + q * (rdD S.R a b * rdD S.C a b) + (-q) * (rdD S.R k b * rdD S.C k b)) fun b _ => rfl,
            ← sm_lin (h := fun b => rdD S.R a b * rdD S.C k b + q * (rdD S.R a b * rdD S.C a b) + (-q) * (rdD S.R k b * rdD S.C k b) + (-(q * q)) * (rdD S.R k b * rdD S.C a b)) fun b _ => rfl]
          exact sm_congr fun b _ => by rw [rd_tk o.r hi hj, if_pos rfl, e, if_pos rfl]; grind
        rw [s1, v a k hi hj, v a a hi hi, v k k hj hj, v k a hj hi, if_neg ne, if_pos rfl, if_pos rfl, if_neg (fun z => ne z.symm)]
        omega
      · have s1 : sm n (fun b => rdD (tkRow S.R a j q) a b * rdD (tkRow S.C j a (-q)) k b) = sm n (fun b => rdD S.R a b * rdD S.C k b) + (-q) * sm n (fun b => rdD S.R j b * rdD S.C k b) := by
          rw [← sm_lin (h := fun b => rdD S.R a b * rdD S.C k b + (-q) * (rdD S.R j b * rdD S.C k b)) fun b _ => rfl]
          exact sm_congr fun b _ => by rw [rd_tk o.r hi hj, if_pos rfl, e, if_neg h2]; grind
        rw [s1, v a k hi hk, v j k hj hk, if_neg (fun z : j = k => h2 z.symm)]
        simp
    · by_cases h2 : k = j
      · subst h2
        have s1 : sm n (fun b => rdD (tkRow S.R i k q) a b * rdD (tkRow S.C k i (-q)) k b) = sm n (fun b => rdD S.R a b * rdD S.C k b) + q * sm n (fun b => rdD S.R a b * rdD S.C i b) := by
          rw [← sm_lin (h := fun b => rdD S.R a b * rdD S.C k b + q * (rdD S.R a b * rdD S.C i b)) fun b _ => rfl]
          exact sm_congr fun b _ => by rw [rd_tk o.r hi hj, if_neg h1, e, if_pos rfl]; grind
        rw [s1, v a k ha hj, v a i ha hi, if_neg h1]
        omega
      · rw [← v a k ha hk]
        exact sm_congr fun b _ => by rw [rd_tk o.r hi hj, if_neg h1, e, if_neg h2]
theorem Okt.take (o : Okt n m X S) (hi : i < n) (hj : j < n) (ne : i ≠ j) : Okt n m X (S.take i j q) := by
  unfold Tri.take
  split
  · exact o
  · exact o.tk hi hj ne
theorem Okt.ex (o : Okt n m X S) (hi : i < n) (hj : j < n) : Okt n m X (S.ex i j) := by
  have sw : ∀ a, a < n → ∃ a', a' < n ∧ (∀ c, rdD (exRow S.F i j) a c = rdD S.F a' c) ∧ (∀ c, rdD (exRow S.R i j) a c = rdD S.R a' c) ∧ (∀ c, rdD (exRow S.C i j) a c = rdD S.C a' c) ∧ ((a = j ∧ a' = i) ∨ (a ≠ j ∧ a = i ∧ a' = j) ∨ (a ≠ j ∧ a ≠ i ∧ a' = a)) := fun a ha => by
    by_cases h1 : a = j
    · exact ⟨i, hi, fun c => by rw [rd_ex o.f hi hj, if_pos h1], fun c => by rw [rd_ex o.r hi hj, if_pos h1], fun c => by rw [rd_ex o.c hi hj, if_pos h1], .inl ⟨h1, rfl⟩⟩
    · by_cases h2 : a = i
      · exact ⟨j, hj, fun c => by rw [rd_ex o.f hi hj, if_neg h1, if_pos h2], fun c => by rw [rd_ex o.r hi hj, if_neg h1, if_pos h2], fun c => by rw [rd_ex o.c hi hj, if_neg h1, if_pos h2], .inr (.inl ⟨h1, h2, rfl⟩)⟩
      · exact ⟨a, ha, fun c => by rw [rd_ex o.f hi hj, if_neg h1, if_neg h2], fun c => by rw [rd_ex o.r hi hj, if_neg h1, if_neg h2], fun c => by rw [rd_ex o.c hi hj, if_neg h1, if_neg h2], .inr (.inr ⟨h1, h2, rfl⟩)⟩
  refine ⟨o.f.ex hi hj, o.r.ex hi hj, o.c.ex hi hj, fun a ha c => ?_, fun a ha k hk => ?_, fun x hx y hy => ?_⟩
  rotate_left 2
  · show sm n (fun a => rdD (exRow S.C i j) a x * rdD (exRow S.R i j) a y) = _
    rw [← o.vni x hx y hy]
    by_cases ne : i = j
    · subst ne
      refine sm_congr fun a _ => ?_
      rw [rd_ex o.c hi hi, rd_ex o.r hi hi]
      by_cases h1 : a = i
      · rw [if_pos h1, if_pos h1, h1]
      · rw [if_neg h1, if_neg h1, if_neg h1, if_neg h1]
    · have s1 := sm_at (f := fun a => rdD S.C a x * rdD S.R a y) (g := fun a => rdD S.C a x * rdD S.R a y + (if a = i then rdD S.C j x * rdD S.R j y - rdD S.C i x * rdD S.R i y else 0)) hi fun a _ => rfl
      have s2 := sm_at (f := fun a => rdD S.C a x * rdD S.R a y + (if a = i then rdD S.C j x * rdD S.R j y - rdD S.C i x * rdD S.R i y else 0)) (g := fun a => rdD (exRow S.C i j) a x * rdD (exRow S.R i j) a y) (x := rdD S.C i x * rdD S.R i y - rdD S.C j x * rdD S.R j y) hj fun a _ => by
        rw [rd_ex o.c hi hj, rd_ex o.r hi hj]
        by_cases h2 : a = j
        · rw [if_pos h2, if_pos h2, if_neg (fun z : a = i => ne (z.symm.trans h2)), if_pos h2, h2]; omega
        · by_cases h1 : a = i
          · rw [if_neg h2, if_pos h1, if_neg h2, if_pos h1, if_pos h1, if_neg h2, h1]; omega
          · rw [if_neg h2, if_neg h1, if_neg h2, if_neg h1, if_neg h1, if_neg h2]; omega
      rw [s2, s1]; omega
  · obtain ⟨a', ha', e1, e2, _⟩ := sw a ha
    show sm n (fun b => rdD (exRow S.R i j) a b * rdD X b c) = rdD (exRow S.F i j) a c
    rw [e1, ← o.mul a' ha' c]
    exact sm_congr fun b _ => by rw [e2]
  · obtain ⟨a', ha', _, e2, _, w1⟩ := sw a ha
    obtain ⟨k', hk', _, _, e3, w2⟩ := sw k hk
    show sm n (fun b => rdD (exRow S.R i j) a b * rdD (exRow S.C i j) k b) = _
    rw [sm_congr (g := fun b => rdD S.R a' b * rdD S.C k' b) fun b _ => by rw [e2, e3], o.inv a' ha' k' hk']
    by_cases h : a = k
    · rw [if_pos h, if_pos (by omega)]
    · rw [if_neg h, if_neg (by omega)]
theorem Okt.ng (o : Okt n m X S) (hi : i < n) : Okt n m X (S.ng i) := by
  refine ⟨o.f.ng hi, o.r.ng hi, o.c.ng hi, fun a ha c => ?_, fun a ha k hk => ?_, fun x hx y hy => ?_⟩
  rotate_left 2
  · show sm n (fun a => rdD (ngRow S.C i) a x * rdD (ngRow S.R i) a y) = _
    rw [← o.vni x hx y hy]
    refine sm_congr fun a _ => ?_
    rw [rd_ng o.c hi, rd_ng o.r hi]
    by_cases h : a = i
    · rw [if_pos h, if_pos h, h]; grind
    · rw [if_neg h, if_neg h]
  · show sm n (fun b => rdD (ngRow S.R i) a b * rdD X b c) = rdD (ngRow S.F i) a c
    rw [rd_ng o.f hi]
    by_cases h : a = i
    · subst h
      rw [if_pos rfl, ← o.mul a ha c, sm_congr (g := fun b => (-1) * (rdD S.R a b * rdD X b c)) fun b _ => by rw [rd_ng o.r hi, if_pos rfl]; grind, sm_mulL]; omega
    · rw [if_neg h, ← o.mul a ha c]
      exact sm_congr fun b _ => by rw [rd_ng o.r hi, if_neg h]
  · show sm n (fun b => rdD (ngRow S.R i) a b * rdD (ngRow S.C i) k b) = _
    rw [← o.inv a ha k hk]
    by_cases h1 : a = i
    · by_cases h2 : k = i
      · subst h1; subst h2
        exact sm_congr fun b _ => by rw [rd_ng o.r hi, if_pos rfl, rd_ng o.c hi, if_pos rfl]; grind
      · rw [sm_congr (g := fun b => (-1) * (rdD S.R a b * rdD S.C k b)) fun b _ => by rw [rd_ng o.r hi, if_pos h1, h1, rd_ng o.c hi, if_neg h2]; grind, sm_mulL, o.inv a ha k hk, if_neg (by omega)]; rfl
    · by_cases h2 : k = i
      · rw [sm_congr (g := fun b => (-1) * (rdD S.R a b * rdD S.C k b)) fun b _ => by rw [rd_ng o.r hi, if_neg h1, rd_ng o.c hi, if_pos h2, h2]; grind, sm_mulL, o.inv a ha k hk, if_neg (by omega)]; rfl
      · exact sm_congr fun b _ => by rw [rd_ng o.r hi, if_neg h1, rd_ng o.c hi, if_neg h2]
end
end DL

/-! DSo: one pass over rows, and the least number of a column. -/
namespace DL
open PySem
def SzOk (Q M : Nat) : Prop := ∀ a b : Int, a.natAbs ≤ Q → b.natAbs ≤ M → IntMulOk a b
theorem SzOk.mono {Q M Q' M' : Nat} (h : SzOk Q M) (h1 : Q' ≤ Q) (h2 : M' ≤ M) : SzOk Q' M' := fun a b x y => h a b (by omega) (by omega)
theorem mem_rd {n m : Nat} {L : Mx} (h : Shp n m L) {j : Nat} (hj : j < n) {b : Int} (hb : b ∈ L.getD j []) : ∃ c, b = rdD L j c := by
  obtain ⟨r, hr, hl⟩ := h.at hj
  rw [getD_row hr] at hb
  obtain ⟨c, hc, rfl⟩ := List.mem_iff_getElem.mp hb
  exact ⟨c, by rw [rd_at hr, List.getD_eq_getElem?_getD, List.getElem?_eq_getElem hc]; rfl⟩
theorem okRow_of {n m : Nat} {L : Mx} (h : Shp n m L) (hm : m ≤ 1000) {i j : Nat} (hi : i < n) (hj : j < n) {q : Int} {Q M : Nat} (hq : q.natAbs ≤ Q) (hM : ∀ c, (rdD L j c).natAbs ≤ M) (s : SzOk Q M) : okRow L i j q := by
  refine ⟨by rw [h.l]; exact hi, by rw [h.l]; exact hj, fun b hb => ?_, by rw [h.getD hi]; exact Nat.le_trans hm (by decide)⟩
  obtain ⟨c, rfl⟩ := mem_rd h hj hb
  exact s q _ hq (hM c)
section
variable {n m : Nat} {X : Mx} {top k : Nat}
theorem tk1_F {S : Tri} (o : Okt n m X S) {i : Nat} (hi : i < n) (ht : top < n) (a c : Nat) : rdD (tk1 top k S i).F a c = if a = i then rdD S.F a c - qAt top k S i * rdD S.F top c else rdD S.F a c := by
  unfold tk1 Tri.take
  by_cases h : qAt top k S i = 0
  · rw [if_pos h, h]; split <;> omega
  · rw [if_neg h]
    show rdD (tkRow S.F i top _) a c = _
    rw [rd_tk o.f hi ht]
    by_cases z : a = i
    · rw [if_pos z, if_pos z, z]
    · rw [if_neg z, if_neg z]
theorem tk1_R {S : Tri} (o : Okt n m X S) {i : Nat} (hi : i < n) (ht : top < n) (a c : Nat) : rdD (tk1 top k S i).R a c = if a = i then rdD S.R a c - qAt top k S i * rdD S.R top c else rdD S.R a c := by
  unfold tk1 Tri.take
  by_cases h : qAt top k S i = 0
  · rw [if_pos h, h]; split <;> omega
  · rw [if_neg h]
    show rdD (tkRow S.R i top _) a c = _
    rw [rd_tk o.r hi ht]
    by_cases z : a = i
    · rw [if_pos z, if_pos z, z]
    · rw [if_neg z, if_neg z]
theorem tk1_C {S : Tri} (o : Okt n m X S) {i : Nat} (hi : i < n) (ht : top < n) (a c : Nat) : rdD (tk1 top k S i).C a c = if a = top then rdD S.C a c + qAt top k S i * rdD S.C i c else rdD S.C a c := by
  unfold tk1 Tri.take
  by_cases h : qAt top k S i = 0
  · rw [if_pos h, h]; split <;> omega
  · rw [if_neg h]
    show rdD (tkRow S.C top i _) a c = _
    rw [rd_tk o.c ht hi]
    by_cases z : a = top
    · rw [if_pos z, if_pos z, z]; grind
    · rw [if_neg z, if_neg z]
/-- what a pass over the rows l comes to -/
structure Pss (n m : Nat) (X : Mx) (top k : Nat) (l : List Nat) (S T : Tri) : Prop where
  o : Okt n m X T
  F : ∀ a c, rdD T.F a c = if a ∈ l then rdD S.F a c - qAt top k S a * rdD S.F top c else rdD S.F a c
  R : ∀ a c, rdD T.R a c = if a ∈ l then rdD S.R a c - qAt top k S a * rdD S.R top c else rdD S.R a c
  C : ∀ a c, a ≠ top → rdD T.C a c = rdD S.C a c
theorem pass_ok (hm : m ≤ 1000) (hn : n ≤ 1000) (ht : top < n) (hk : k < m) {Q M V : Nat} (s1 : SzOk Q M) (s2 : SzOk Q V) : ∀ (l : List Nat) (S : Tri) (Vt : Nat), Okt n m X S → l.Nodup → top ∉ l → (∀ a ∈ l, a < n) → rdD S.F top k ≠ 0 → (∀ a ∈ l, (qAt top k S a).natAbs ≤ Q) →
    (∀ c, (rdD S.F top c).natAbs ≤ M) → (∀ c, (rdD S.R top c).natAbs ≤ M) → (∀ a ∈ l, ∀ c, (rdD S.C a c).natAbs ≤ V) → (∀ c, (rdD S.C top c).natAbs ≤ Vt) →
    passOk top k l S ∧ Pss n m X top k l S (passS top k l S) ∧ ∀ c, (rdD (passS top k l S).C top c).natAbs ≤ Vt + l.length * (Q * V)
  | [], S, Vt, o, _, _, _, _, _, _, _, _, hv => ⟨trivial, ⟨o, fun a c => by rw [if_neg (by simp)]; rfl, fun a c => by rw [if_neg (by simp)]; rfl, fun a c _ => rfl⟩, fun c => by show (rdD S.C top c).natAbs ≤ _; simpa using hv c⟩
  | i :: l, S, Vt, o, nd, nt, hl, hu, hq, hF, hR, hC, hv => by
    have hi := hl i List.mem_cons_self
    have ne : i ≠ top := fun z => nt (by rw [z]; exact List.mem_cons_self)
    have nd' := List.nodup_cons.mp nd
    have qi := hq i List.mem_cons_self
    have o1 : Okt n m X (tk1 top k S i) := o.take hi ht ne
    have eF := tk1_F (k := k) o hi ht
    have eR := tk1_R (k := k) o hi ht
    have eC := tk1_C (k := k) o hi ht
    have eq : ∀ a, a ≠ i → qAt top k (tk1 top k S i) a = qAt top k S a := fun a ha => by
      unfold qAt
      rw [eF, if_neg ha, eF, if_neg (fun z => ne z.symm)]
    have ok1 : okT1 top k S i := by
      refine ⟨o.f.some hi hk, o.f.some ht hk, hu, fun _ => ⟨okRow_of o.f hm hi ht qi hF s1, okRow_of o.r hn hi ht qi hR s1, okRow_of o.c hn ht hi (by rw [Int.natAbs_neg]; exact qi) (hC i List.mem_cons_self) s2⟩, o1.f.some hi hk⟩
    obtain ⟨p1, p2, p3⟩ := pass_ok hm hn ht hk s1 s2 l (tk1 top k S i) (Vt + Q * V) o1 nd'.2 (fun z => nt (List.mem_cons_of_mem _ z)) (fun a ha => hl a (List.mem_cons_of_mem _ ha)) (by rw [eF, if_neg (fun z => ne z.symm)]; exact hu)
      (fun a ha => by rw [eq a (fun z => nd'.1 (by rw [← z]; exact ha))]; exact hq a (List.mem_cons_of_mem _ ha)) (fun c => by rw [eF, if_neg (fun z => ne z.symm)]; exact hF c) (fun c => by rw [eR, if_neg (fun z => ne z.symm)]; exact hR c)
      (fun a ha c => by rw [eC, if_neg (fun z => nt (by rw [← z]; exact List.mem_cons_of_mem _ ha))]; exact hC a (List.mem_cons_of_mem _ ha) c)
      (fun c => by
        rw [eC, if_pos rfl]
        have h1 := Int.natAbs_add_le (rdD S.C top c) (qAt top k S i * rdD S.C i c)
        have h2 : (qAt top k S i * rdD S.C i c).natAbs ≤ Q * V := by rw [Int.natAbs_mul]; exact Nat.mul_le_mul qi (hC i List.mem_cons_self c)
        have h3 := hv c
        omega)
    refine ⟨⟨ok1, p1⟩, ⟨p2.o, fun a c => ?_, fun a c => ?_, fun a c ha => ?_⟩, fun c => ?_⟩
    · show rdD (passS top k l (tk1 top k S i)).F a c = _
      rw [p2.F, eF, eF, if_neg (fun z => ne z.symm : top ≠ i)]
      by_cases z : a = i
      · subst z
        rw [if_neg nd'.1, if_pos rfl, if_pos List.mem_cons_self]
      · rw [if_neg z, eq a z]
        by_cases y : a ∈ l
        · rw [if_pos y, if_pos (List.mem_cons_of_mem _ y)]
        · rw [if_neg y, if_neg (fun w => (List.mem_cons.mp w).elim z y)]
    · show rdD (passS top k l (tk1 top k S i)).R a c = _
      rw [p2.R, eR, eR, if_neg (fun z => ne z.symm : top ≠ i)]
      by_cases z : a = i
      · subst z
        rw [if_neg nd'.1, if_pos rfl, if_pos List.mem_cons_self]
      · rw [if_neg z, eq a z]
        by_cases y : a ∈ l
        · rw [if_pos y, if_pos (List.mem_cons_of_mem _ y)]
        · rw [if_neg y, if_neg (fun w => (List.mem_cons.mp w).elim z y)]
    · show rdD (passS top k l (tk1 top k S i)).C a c = _
      rw [p2.C a c ha, eC, if_neg ha]
    · have := p3 c
      rw [List.length_cons, Nat.add_mul, Nat.one_mul]
      show (rdD (passS top k l (tk1 top k S i)).C top c).natAbs ≤ _
      omega
/-! ### again: some number stays -/
theorem passB_eq {S : Tri} : ∀ (l : List Nat) (S : Tri) (b : Bool), Okt n m X S → top < n → l.Nodup → top ∉ l → (∀ a ∈ l, a < n) → (passB top k l S b = true ↔ b = true ∨ ∃ a ∈ l, rdD S.F a k - qAt top k S a * rdD S.F top k ≠ 0)
  | [], S, b, _, _, _, _, _ => by show b = true ↔ _; simp
  | i :: l, S, b, o, ht, nd, nt, hl => by
    have hi := hl i List.mem_cons_self
    have ne : i ≠ top := fun z => nt (by rw [z]; exact List.mem_cons_self)
    have nd' := List.nodup_cons.mp nd
    have eF := tk1_F (k := k) o hi ht
    have eq : ∀ a, a ≠ i → qAt top k (tk1 top k S i) a = qAt top k S a := fun a ha => by
      unfold qAt
      rw [eF, if_neg ha, eF, if_neg (fun z => ne z.symm)]
    show passB top k l (tk1 top k S i) (b || decide (rdD (tk1 top k S i).F i k ≠ 0)) = true ↔ _
    rw [passB_eq (S := S) l (tk1 top k S i) _ (o.take hi ht ne) ht nd'.2 (fun z => nt (List.mem_cons_of_mem _ z)) (fun a ha => hl a (List.mem_cons_of_mem _ ha))]
    have e1 : ∀ a ∈ l, rdD (tk1 top k S i).F a k - qAt top k (tk1 top k S i) a * rdD (tk1 top k S i).F top k = rdD S.F a k - qAt top k S a * rdD S.F top k := fun a ha => by
      have na : a ≠ i := fun z => nd'.1 (by rw [← z]; exact ha)
      rw [eF, if_neg na, eq a na, eF, if_neg (fun z => ne z.symm)]
    rw [eF, if_pos rfl, Bool.or_eq_true, decide_eq_true_eq]
    constructor
    · rintro ((h | h) | ⟨a, ha, h⟩)
      · exact .inl h
      · exact .inr ⟨i, List.mem_cons_self, h⟩
      · exact .inr ⟨a, List.mem_cons_of_mem _ ha, by rw [← e1 a ha]; exact h⟩
    · rintro (h | ⟨a, ha, h⟩)
      · exact .inl (.inl h)
      · rcases List.mem_cons.mp ha with rfl | ha
        · exact .inl (.inr h)
        · exact .inr ⟨a, ha, by rw [e1 a ha]; exact h⟩
end
/-! ### the least number -/
theorem least_fold (F : Mx) (k : Nat) : ∀ (l : List Nat) (acc : Option Nat), (∀ j, acc = some j → rdD F j k ≠ 0) →
    (∀ i, l.foldl (lstep F k) acc = some i → rdD F i k ≠ 0 ∧ (i ∈ l ∨ acc = some i) ∧ (∀ j ∈ l, rdD F j k ≠ 0 → (rdD F i k).natAbs ≤ (rdD F j k).natAbs) ∧ (∀ j, acc = some j → (rdD F i k).natAbs ≤ (rdD F j k).natAbs)) ∧
    (l.foldl (lstep F k) acc = none → acc = none ∧ ∀ j ∈ l, rdD F j k = 0)
  | [], acc, h => by
    refine ⟨fun i e => ?_, fun e => ⟨e, fun j hj => by cases hj⟩⟩
    have e : acc = some i := e
    exact ⟨h i e, .inr e, (fun j hj => by cases hj), fun j hj => by rw [e] at hj; cases hj; exact Nat.le_refl _⟩
  | a :: l, acc, h => by
    have h' : ∀ j, lstep F k acc a = some j → rdD F j k ≠ 0 := fun j hj => by
      unfold lstep at hj
      split at hj
      · rename_i z; cases hj; exact z.1
      · exact h j hj
    obtain ⟨g1, g2⟩ := least_fold F k l (lstep F k acc a) h'
    refine ⟨fun i e => ?_, fun e => ?_⟩
    · obtain ⟨e1, e2, e3, e4⟩ := g1 i e
      unfold lstep at e2 e4
      split at e2
      · rename_i z
        rw [if_pos z] at e4
        have e5 := e4 a rfl
        refine ⟨e1, ?_, fun j hj hz => ?_, fun j hj => Nat.le_of_lt (Nat.lt_of_le_of_lt e5 (z.2 j hj))⟩
        · rcases e2 with e2 | e2
          · exact .inl (List.mem_cons_of_mem _ e2)
          · cases e2; exact .inl List.mem_cons_self
        · rcases List.mem_cons.mp hj with rfl | hj
          · exact e5
          · exact e3 j hj hz
      · rename_i z
        rw [if_neg z] at e4
        refine ⟨e1, ?_, fun j hj hz => ?_, e4⟩
        · rcases e2 with e2 | e2
          · exact .inl (List.mem_cons_of_mem _ e2)
          · exact .inr e2
        · rcases List.mem_cons.mp hj with rfl | hj
          · have : ∃ j', acc = some j' ∧ ¬ (rdD F j k).natAbs < (rdD F j' k).natAbs := by
              refine Classical.byContradiction fun w => z ⟨hz, fun j' hj' => ?_⟩
              exact Classical.byContradiction fun y => w ⟨j', hj', y⟩
            obtain ⟨j', h1, h2⟩ := this
            have := e4 j' h1
            omega
          · exact e3 j hj hz
    · obtain ⟨e1, e2⟩ := g2 e
      unfold lstep at e1
      split at e1
      · cases e1
      · rename_i z
        refine ⟨e1, fun j hj => ?_⟩
        rcases List.mem_cons.mp hj with rfl | hj
        · refine Classical.byContradiction fun w => z ⟨w, fun j' hj' => ?_⟩
          rw [e1] at hj'; cases hj'
        · exact e2 j hj
theorem least_some {F : Mx} {top k i : Nat} (h : leastAt F top k = some i) : top ≤ i ∧ i < F.length ∧ rdD F i k ≠ 0 ∧ ∀ j, top ≤ j → j < F.length → rdD F j k ≠ 0 → (rdD F i k).natAbs ≤ (rdD F j k).natAbs := by
  obtain ⟨h1, h2, h3, _⟩ := (least_fold F k (List.range' top (F.length - top)) none fun j hj => by cases hj).1 i h
  have hm : ∀ j, j ∈ List.range' top (F.length - top) ↔ top ≤ j ∧ j < F.length := fun j => by rw [List.mem_range'_1]; omega
  rcases h2 with h2 | h2
  · obtain ⟨a, b⟩ := (hm i).mp h2
    exact ⟨a, b, h1, fun j x y z => h3 j ((hm j).mpr ⟨x, y⟩) z⟩
  · cases h2
theorem least_none {F : Mx} {top k : Nat} (h : leastAt F top k = none) : ∀ j, top ≤ j → j < F.length → rdD F j k = 0 := fun j x y =>
  ((least_fold F k (List.range' top (F.length - top)) none fun j hj => by cases hj).2 h).2 j (by rw [List.mem_range'_1]; omega)
end DL

/-! DSq: the while loop of bring_lead ends; sizes. -/
namespace DL
open PySem
/-- division by u, whose sign is s -/
theorem quo {a u s : Int} {L : Nat} (hs : s = 1 ∨ s = -1) (hu : s * u = L) (hL : 0 < L) : 0 ≤ s * (a - a.fdiv u * u) ∧ s * (a - a.fdiv u * u) < L ∧ a.fdiv u * L = s * a - s * (a - a.fdiv u * u) := by
  have e : a - a.fdiv u * u = a.fmod u := by
    have := Int.mul_fdiv_add_fmod a u
    have h2 : a.fdiv u * u = u * a.fdiv u := Int.mul_comm _ _
    omega
  have e3 : a.fdiv u * L = s * a - s * (a - a.fdiv u * u) := by rw [← hu]; grind
  refine ⟨?_, ?_, e3⟩
  · rw [e]
    rcases hs with rfl | rfl
    · have : 0 < u := by omega
      have := Int.fmod_nonneg_of_pos a this
      omega
    · have : u < 0 := by omega
      have h := Int.fmod_nonneg_of_pos (-a) (b := -u) (by omega)
      rw [Int.neg_fmod_neg] at h
      omega
  · rw [e]
    rcases hs with rfl | rfl
    · have : 0 < u := by omega
      have := Int.fmod_lt_of_pos a this
      omega
    · have h := Int.fmod_lt_of_pos (-a) (b := -u) (by omega)
      rw [Int.neg_fmod_neg] at h
      omega
theorem quo_le {q a r : Int} {L A : Nat} (hL : 0 < L) (e : q * L = a - r) (h0 : 0 ≤ r) (h1 : r < L) (ha : 0 ≤ a) (hA : a ≤ A) : q.natAbs * L ≤ A := by
  have h2 : 0 ≤ q := by
    refine Classical.byContradiction fun h => ?_
    have : q ≤ -1 := by omega
    have : q * L ≤ -1 * L := Int.mul_le_mul_of_nonneg_right this (by omega)
    omega
  have h3 : ((q.natAbs * L : Nat) : Int) = q * L := by rw [Int.natCast_mul, Int.natAbs_of_nonneg h2]
  omega
theorem quo_le2 {q a r : Int} {L A : Nat} (hL : 0 < L) (e : q * L = a - r) (h0 : 0 ≤ r) (h1 : r < L) (hA : a.natAbs ≤ A) : q.natAbs * L ≤ A + L := by
  have : (q * L).natAbs = q.natAbs * L := by rw [Int.natAbs_mul]; rfl
  omega
/-! ### the state in the while loop -/
structure Low (n m : Nat) (X : Mx) (top k : Nat) (M V : Nat) (S : Tri) : Prop where
  o : Okt n m X S
  z : ∀ i, top ≤ i → i < n → ∀ c, c < k → rdD S.F i c = 0
  f : ∀ i, top ≤ i → i < n → ∀ c, (rdD S.F i c).natAbs ≤ M
  r : ∀ i, top ≤ i → i < n → ∀ c, (rdD S.R i c).natAbs ≤ M
  c : ∀ i c, (rdD S.C i c).natAbs ≤ V
/-- the rows ahead of top are those of S -/
structure Up (top : Nat) (S T : Tri) : Prop where
  f : ∀ i, i < top → ∀ c, rdD T.F i c = rdD S.F i c
  r : ∀ i, i < top → ∀ c, rdD T.R i c = rdD S.R i c
theorem Up.refl {top : Nat} {S : Tri} : Up top S S := ⟨fun _ _ _ => rfl, fun _ _ _ => rfl⟩
theorem Up.trans {top : Nat} {S T U : Tri} (a : Up top S T) (b : Up top T U) : Up top S U := ⟨fun i h c => (b.f i h c).trans (a.f i h c), fun i h c => (b.r i h c).trans (a.r i h c)⟩
section
variable {n m : Nat} {X : Mx} {top k : Nat}
theorem rd_big {n m : Nat} {L : Mx} (h : Shp n m L) {i c : Nat} (hi : n ≤ i) : rdD L i c = 0 := rd_out (by rw [h.l]; exact hi)
/-- rows top and i exchanged, all below taken by multiples of the new row top -/
theorem turn_ok (hm : m ≤ 1000) (hn : n ≤ 1000) (hk : k < m) {S : Tri} {M V Q i : Nat} (w : Low n m X top k M V S) (hi : top ≤ i) (hin : i < n) (hu : rdD S.F i k ≠ 0)
    (hq : ∀ a, top ≤ a → a < n → ((rdD S.F a k).fdiv (rdD S.F i k)).natAbs ≤ Q) (s1 : SzOk Q M) (s2 : SzOk Q V) :
    ∃ T, T = passS top k (below top (S.ex top i)) (S.ex top i) ∧ exOk S top i ∧ passOk top k (below top (S.ex top i)) (S.ex top i) ∧ Low n m X top k (M + Q * M) (V + n * (Q * V)) T ∧ Up top S T ∧ T.F.length = S.F.length ∧
      (∀ c, rdD T.F top c = rdD S.F i c) ∧
      (∀ a, top < a → a < n → ∃ b, top ≤ b ∧ b < n ∧ (a = i → b = top) ∧ rdD T.F a k = rdD S.F b k - (rdD S.F b k).fdiv (rdD S.F i k) * rdD S.F i k) ∧
      (passB top k (below top (S.ex top i)) (S.ex top i) false = true ↔ ∃ a, top < a ∧ a < n ∧ rdD T.F a k ≠ 0) := by
  have ht : top < n := by omega
  have o1 := w.o.ex ht hin
  have eF : ∀ a c, rdD (S.ex top i).F a c = if a = i then rdD S.F top c else if a = top then rdD S.F i c else rdD S.F a c := rd_ex w.o.f ht hin
  have eR : ∀ a c, rdD (S.ex top i).R a c = if a = i then rdD S.R top c else if a = top then rdD S.R i c else rdD S.R a c := rd_ex w.o.r ht hin
  have eC : ∀ a c, rdD (S.ex top i).C a c = if a = i then rdD S.C top c else if a = top then rdD S.C i c else rdD S.C a c := rd_ex w.o.c ht hin
  have tF : ∀ c, rdD (S.ex top i).F top c = rdD S.F i c := fun c => by
    rw [eF]
    by_cases h : top = i
    · rw [if_pos h, h]
    · rw [if_neg h, if_pos rfl]
  have tR : ∀ c, rdD (S.ex top i).R top c = rdD S.R i c := fun c => by
    rw [eR]
    by_cases h : top = i
    · rw [if_pos h, h]
    · rw [if_neg h, if_pos rfl]
  -- where a row of the exchanged table comes from
  have src : ∀ a, top ≤ a → a < n → ∃ b, top ≤ b ∧ b < n ∧ (a = i → b = top) ∧ (∀ c, rdD (S.ex top i).F a c = rdD S.F b c) ∧ (∀ c, rdD (S.ex top i).R a c = rdD S.R b c) := fun a h1 h2 => by
    by_cases z : a = i
    · exact ⟨top, Nat.le_refl _, ht, fun _ => rfl, fun c => by rw [eF, if_pos z], fun c => by rw [eR, if_pos z]⟩
    · by_cases y : a = top
      · exact ⟨i, hi, hin, fun w => absurd w z, fun c => by rw [y, tF], fun c => by rw [y, tR]⟩
      · exact ⟨a, h1, h2, fun w => absurd w z, fun c => by rw [eF, if_neg z, if_neg y], fun c => by rw [eR, if_neg z, if_neg y]⟩
  have hl1 : (S.ex top i).F.length = n := o1.f.l
  have mem : ∀ a, a ∈ below top (S.ex top i) ↔ top < a ∧ a < n := fun a => by unfold below; rw [List.mem_range'_1, hl1]; omega
  have nd : (below top (S.ex top i)).Nodup := by unfold below; exact List.nodup_range'
  have nt : top ∉ below top (S.ex top i) := fun h => by have := (mem top).mp h; omega
  have qe : ∀ a, top ≤ a → a < n → ∃ b, top ≤ b ∧ b < n ∧ (a = i → b = top) ∧ (∀ c, rdD (S.ex top i).F a c = rdD S.F b c) ∧ (∀ c, rdD (S.ex top i).R a c = rdD S.R b c) ∧ qAt top k (S.ex top i) a = (rdD S.F b k).fdiv (rdD S.F i k) := fun a h1 h2 => by
    obtain ⟨b, b1, b2, b3, b4, b5⟩ := src a h1 h2
    exact ⟨b, b1, b2, b3, b4, b5, by unfold qAt; rw [b4, tF]⟩
  have Cb : ∀ a c, (rdD (S.ex top i).C a c).natAbs ≤ V := fun a c => by
    rw [eC]
    split
    · exact w.c _ _
    · split
      · exact w.c _ _
      · exact w.c _ _
  have hll : (below top (S.ex top i)).length ≤ n := by unfold below; rw [List.length_range', hl1]; omega
  obtain ⟨p1, p2, p3⟩ := pass_ok (k := k) hm hn ht hk s1 s2 (below top (S.ex top i)) (S.ex top i) V o1 nd nt (fun a ha => ((mem a).mp ha).2) (by rw [tF]; exact hu)
    (fun a ha => by obtain ⟨x1, x2⟩ := (mem a).mp ha; obtain ⟨b, b1, b2, _, _, _, b6⟩ := qe a (by omega) x2; rw [b6]; exact hq b b1 b2)
    (fun c => by rw [tF]; exact w.f i hi hin c) (fun c => by rw [tR]; exact w.r i hi hin c) (fun a _ c => Cb a c) (fun c => Cb top c)
  have below_row : ∀ a, top < a → a < n → ∃ b, top ≤ b ∧ b < n ∧ (a = i → b = top) ∧ (∀ c, rdD (passS top k (below top (S.ex top i)) (S.ex top i)).F a c = rdD S.F b c - (rdD S.F b k).fdiv (rdD S.F i k) * rdD S.F i c) ∧ (∀ c, rdD (passS top k (below top (S.ex top i)) (S.ex top i)).R a c = rdD S.R b c - (rdD S.F b k).fdiv (rdD S.F i k) * rdD S.R i c) := fun a h1 h2 => by
    obtain ⟨b, b1, b2, b3, b4, b5, b6⟩ := qe a (by omega) h2
    exact ⟨b, b1, b2, b3, fun c => by rw [p2.F, if_pos ((mem a).mpr ⟨h1, h2⟩), b4, b6, tF], fun c => by rw [p2.R, if_pos ((mem a).mpr ⟨h1, h2⟩), b5, b6, tR]⟩
  have topF : ∀ c, rdD (passS top k (below top (S.ex top i)) (S.ex top i)).F top c = rdD S.F i c := fun c => by rw [p2.F, if_neg nt, tF]
  have topR : ∀ c, rdD (passS top k (below top (S.ex top i)) (S.ex top i)).R top c = rdD S.R i c := fun c => by rw [p2.R, if_neg nt, tR]
  have prod : ∀ {q x y : Int}, q.natAbs ≤ Q → y.natAbs ≤ M → x.natAbs ≤ M → (x - q * y).natAbs ≤ M + Q * M := fun {q x y} h1 h2 h3 => by
    have h4 := Int.natAbs_sub_le x (q * y)
    have h5 : (q * y).natAbs ≤ Q * M := by rw [Int.natAbs_mul]; exact Nat.mul_le_mul h1 h2
    omega
  have upper : ∀ a, a < top → (∀ c, rdD (passS top k (below top (S.ex top i)) (S.ex top i)).F a c = rdD S.F a c) ∧ (∀ c, rdD (passS top k (below top (S.ex top i)) (S.ex top i)).R a c = rdD S.R a c) := fun a h => by
    have nm : a ∉ below top (S.ex top i) := fun z => by have := (mem a).mp z; omega
    exact ⟨fun c => by rw [p2.F, if_neg nm, eF, if_neg (by omega), if_neg (by omega)], fun c => by rw [p2.R, if_neg nm, eR, if_neg (by omega), if_neg (by omega)]⟩
  refine ⟨_, rfl, ⟨⟨by rw [w.o.f.l]; exact ht, by rw [w.o.r.l]; exact ht, by rw [w.o.c.l]; exact ht⟩, by rw [w.o.f.l]; exact hin, by rw [w.o.r.l]; exact hin, by rw [w.o.c.l]; exact hin⟩, p1, ⟨p2.o, fun a h1 h2 c hc => ?_, fun a h1 h2 c => ?_, fun a h1 h2 c => ?_, fun a c => ?_⟩, ⟨fun a h c => (upper a h).1 c, fun a h c => (upper a h).2 c⟩, by rw [p2.o.f.l, w.o.f.l], topF, fun a h1 h2 => ?_, ?_⟩
  · by_cases z : a = top
    · rw [z, topF]; exact w.z i hi hin c hc
    · obtain ⟨b, b1, b2, _, b4, _⟩ := below_row a (by omega) h2
      rw [b4, w.z b b1 b2 c hc, w.z i hi hin c hc]; omega
  · by_cases z : a = top
    · rw [z, topF]; exact Nat.le_trans (w.f i hi hin c) (by omega)
    · obtain ⟨b, b1, b2, _, b4, _⟩ := below_row a (by omega) h2
      rw [b4]; exact prod (hq b b1 b2) (w.f i hi hin c) (w.f b b1 b2 c)
  · by_cases z : a = top
    · rw [z, topR]; exact Nat.le_trans (w.r i hi hin c) (by omega)
    · obtain ⟨b, b1, b2, _, _, b5⟩ := below_row a (by omega) h2
      rw [b5]; exact prod (hq b b1 b2) (w.r i hi hin c) (w.r b b1 b2 c)
  · by_cases z : a = top
    · rw [z]
      exact Nat.le_trans (p3 c) (by have := Nat.mul_le_mul_right (Q * V) hll; omega)
    · rw [p2.C a c z]; exact Nat.le_trans (Cb a c) (by omega)
  · obtain ⟨b, b1, b2, b3, b4, _⟩ := below_row a h1 h2
    exact ⟨b, b1, b2, b3, b4 k⟩
  · rw [passB_eq (S := S) _ _ _ o1 ht nd nt fun a ha => ((mem a).mp ha).2]
    constructor
    · rintro (h | ⟨a, ha, h⟩)
      · cases h
      · obtain ⟨x1, x2⟩ := (mem a).mp ha
        exact ⟨a, x1, x2, by rw [p2.F, if_pos ha]; exact h⟩
    · rintro ⟨a, x1, x2, h⟩
      have ha := (mem a).mpr ⟨x1, x2⟩
      exact .inr ⟨a, ha, by rw [p2.F, if_pos ha] at h; exact h⟩
/-- what the while loop leaves -/
structure Led (n m : Nat) (X : Mx) (top k : Nat) (M V : Nat) (S T : Tri) : Prop where
  w : Low n m X top k M V T
  u : Up top S T
  l : rdD T.F top k ≠ 0
  z : ∀ a, top < a → a < n → rdD T.F a k = 0
theorem while_ok (hm : m ≤ 63) (hn : n ≤ 63) (hk : k < m) (ht : top < n) {P W : Nat} (z1 : SzOk P P) (z2 : SzOk P W) {s : Int} (hs : s = 1 ∨ s = -1) : ∀ (A : Nat) (S : Tri) (M V D : Nat), Low n m X top k M V S → 0 < M → s * rdD S.F top k = A → 0 < A →
    (∀ a, top < a → a < n → 0 ≤ s * rdD S.F a k ∧ s * rdD S.F a k < A) → (∃ a, top < a ∧ a < n ∧ rdD S.F a k ≠ 0 ∧ (rdD S.F a k).natAbs + A ≤ D) → M * A * D ≤ P → V * (A * D) ^ 7 ≤ W →
    ∃ (j : Nat) (T : Tri), Wh top k j S (leastAt S.F top k) true T ∧ Led n m X top k P W S T := by
  have g1 : (top : Int) + 1 < 2 ^ 62 := by omega
  have g2 : (n : Int) < 2 ^ 62 := by omega
  have g3 : top < 2 ^ 62 ∧ n < 2 ^ 62 := by omega
  intro A
  induction A using Nat.strongRecOn with
  | _ A ih =>
  intro S M V D w hM hA hA0 hb hD hP hW
  have lS : S.F.length = n := w.o.f.l
  obtain ⟨a0, a1, a2, a3, a4⟩ := hD
  cases hle : leastAt S.F top k with
  | none => exact absurd (least_none hle a0 (by omega) (by rw [lS]; exact a2)) a3
  | some i =>
    obtain ⟨i1, i2, i3, i4⟩ := least_some hle
    rw [lS] at i2
    have abs : ∀ x : Int, 0 ≤ s * x → (x.natAbs : Int) = s * x := fun x h => by rcases hs with rfl | rfl <;> omega
    have all : ∀ a, top ≤ a → a < n → 0 ≤ s * rdD S.F a k ∧ s * rdD S.F a k ≤ A := fun a x y => by
      by_cases h : a = top
      · rw [h, hA]; omega
      · have := hb a (by omega) y; omega
    have hL0 : 0 < (rdD S.F i k).natAbs := by omega
    have hLe := i4 a0 (by omega) (by rw [lS]; exact a2) a3
    have u1 := abs _ (all i i1 i2).1
    have u0 := abs _ (all a0 (by omega) a2).1
    have v0 := hb a0 a1 a2
    generalize hLd : (rdD S.F i k).natAbs = L at *
    have hLA : L < A := by omega
    have hLD : L + A ≤ D := by omega
    have hit : i ≠ top := fun z => by subst z; omega
    have hti : top < i := Nat.lt_of_le_of_ne i1 (fun z => hit z.symm)
    have hu : s * rdD S.F i k = L := u1.symm
    have hq : ∀ a, top ≤ a → a < n → ((rdD S.F a k).fdiv (rdD S.F i k)).natAbs ≤ A / L := fun a x y => by
      obtain ⟨q1, q2, q3⟩ := quo (a := rdD S.F a k) hs hu hL0
      have := quo_le hL0 q3 q1 q2 (all a x y).1 (all a x y).2
      exact (Nat.le_div_iff_mul_le hL0).mpr this
    have hQA : A / L * L ≤ A := Nat.div_mul_le_self A L
    have hQ1 : A / L ≤ A := Nat.div_le_self A L
    have hMAD : M * A * D = M * (A * D) := Nat.mul_assoc _ _ _
    have hD1 : 1 ≤ D := by omega
    have hAP : A ≤ P := by
      have : A * 1 ≤ M * A * D := by
        rw [Nat.mul_comm M A, Nat.mul_assoc]
        exact Nat.mul_le_mul_left A (Nat.mul_le_mul hM hD1)
      omega
    have hMP : M ≤ P := by
      have : M * 1 ≤ M * (A * D) := Nat.mul_le_mul_left M (Nat.mul_le_mul hA0 hD1)
      omega
    have hVW : V ≤ W := by
      have : V * 1 ≤ V * (A * D) ^ 7 := Nat.mul_le_mul_left V (Nat.pow_pos (Nat.mul_pos hA0 hD1))
      omega
    obtain ⟨T, hT, e1, e2, w2, up, el, tF, bF, ag⟩ := turn_ok (by omega) (by omega) hk w i1 i2 i3 hq (z1.mono (by omega) hMP) (z2.mono (by omega) hVW)
    have hM' : (M + A / L * M) * L * A ≤ P := by
      refine Nat.le_trans ?_ hP
      have x1 : (M + A / L * M) * L = M * (L + A / L * L) := by grind
      rw [x1, Nat.mul_assoc, Nat.mul_assoc]
      refine Nat.mul_le_mul_left M ?_
      rw [Nat.mul_comm A D]
      exact Nat.mul_le_mul_right A (by omega)
    have hV' : (V + n * (A / L * V)) * (L * A) ^ 7 ≤ W := by
      refine Nat.le_trans ?_ hW
      have x1 : (V + n * (A / L * V)) = V * (1 + n * (A / L)) := by grind
      rw [x1, Nat.mul_assoc]
      refine Nat.mul_le_mul_left V ?_
      rw [Nat.mul_pow, Nat.mul_pow, Nat.mul_comm (A ^ 7), ← Nat.mul_assoc]
      refine Nat.mul_le_mul_right _ ?_
      have x2 : (1 + n * (A / L)) * L ^ 7 = (L + n * (A / L * L)) * L ^ 6 := by grind
      have x3 : L + n * (A / L * L) ≤ 64 * A := by
        have := Nat.mul_le_mul hn hQA
        omega
      have x4 : (2 * L) ^ 6 ≤ D ^ 6 := Nat.pow_le_pow_left (by omega) 6
      have x5 : (2 * L) ^ 6 = 64 * L ^ 6 := by rw [Nat.mul_pow]
      rw [x2]
      refine Nat.le_trans (Nat.mul_le_mul_right _ x3) ?_
      have x6 : 64 * A * L ^ 6 = A * (64 * L ^ 6) := by grind
      rw [x6, ← x5]
      have x7 : D ^ 7 = D * D ^ 6 := by grind
      rw [x7]
      exact Nat.mul_le_mul (by omega) x4
    have bnd : ∀ a, top < a → a < n → 0 ≤ s * rdD T.F a k ∧ s * rdD T.F a k < L := fun a x y => by
      obtain ⟨b, b1, b2, _, b4⟩ := bF a x y
      obtain ⟨q1, q2, _⟩ := quo (a := rdD S.F b k) hs hu hL0
      rw [b4]; exact ⟨q1, q2⟩
    have hwh : ∀ j U, Wh top k j T (leastAt T.F top k) (passB top k (below top (S.ex top i)) (S.ex top i) false) U → Wh top k (j + 1) S (some i) true U := fun j U h => by
      have lt : T.F.length = n := w2.o.f.l
      refine ⟨e1, g1, by rw [lS]; exact g2, e2, by rw [← hT]; exact el, ⟨g3.1, by rw [← hT, lt]; exact g3.2, fun b hb => ?_⟩, by rw [← hT]; exact h⟩
      rw [← hT] at hb ⊢
      exact w2.o.f.some (by rw [← lt]; exact hb) hk
    by_cases hag : passB top k (below top (S.ex top i)) (S.ex top i) false = true
    · obtain ⟨b, b1, b2, b3⟩ := ag.mp hag
      have hD' : ∃ a, top < a ∧ a < n ∧ rdD T.F a k ≠ 0 ∧ (rdD T.F a k).natAbs + L ≤ A := by
        -- the row that was top's
        obtain ⟨c, c1, c2, c3, c4⟩ := bF i hti i2
        have c3 := c3 rfl
        subst c3
        obtain ⟨q1, q2, q3⟩ := quo (a := rdD S.F c k) hs hu hL0
        rw [← c4] at q1 q2 q3
        rw [hA] at q3
        have r1 := abs _ q1
        generalize hqq : (rdD S.F c k).fdiv (rdD S.F i k) = qq at *
        have qpos : 1 ≤ qq := by
          refine Classical.byContradiction fun h => ?_
          have h0 : qq * L ≤ 0 := Int.mul_nonpos_of_nonpos_of_nonneg (by omega) (by omega)
          clear ih hb all hq bnd hwh bF i4
          omega
        by_cases hz : rdD T.F i k = 0
        · refine ⟨b, b1, b2, b3, ?_⟩
          rw [hz] at q3
          have r2 := abs _ (bnd b b1 b2).1
          have r3 := (bnd b b1 b2).2
          have : 2 ≤ qq := by
            refine Classical.byContradiction fun h => ?_
            have : qq = 1 := by omega
            subst this
            omega
          have : 2 * (L : Int) ≤ qq * L := Int.mul_le_mul_of_nonneg_right this (by omega)
          omega
        · refine ⟨i, hti, i2, hz, ?_⟩
          have : 1 * (L : Int) ≤ qq * L := Int.mul_le_mul_of_nonneg_right qpos (by omega)
          omega
      obtain ⟨j, U, g1, g2⟩ := ih L hLA T (M + A / L * M) (V + n * (A / L * V)) A w2 (by omega) (by rw [tF]; exact hu) hL0 bnd hD' hM' hV'
      refine ⟨j + 1, U, hwh j U (by rw [hag]; exact g1), ⟨g2.w, up.trans g2.u, g2.l, g2.z⟩⟩
    · have hag' : passB top k (below top (S.ex top i)) (S.ex top i) false = false := by
        cases h : passB top k (below top (S.ex top i)) (S.ex top i) false with
        | false => rfl
        | true => exact absurd h hag
      refine ⟨1, T, hwh 0 T (by rw [hag']; rfl), ⟨⟨w2.o, w2.z, fun a x y c => Nat.le_trans (w2.f a x y c) ?_, fun a x y c => Nat.le_trans (w2.r a x y c) ?_, fun a c => Nat.le_trans (w2.c a c) ?_⟩, up, by rw [tF]; exact i3, fun a x y => ?_⟩⟩
      · refine Nat.le_trans ?_ hM'
        rw [Nat.mul_assoc]
        exact Nat.le_mul_of_pos_right _ (Nat.mul_pos hL0 hA0)
      · refine Nat.le_trans ?_ hM'
        rw [Nat.mul_assoc]
        exact Nat.le_mul_of_pos_right _ (Nat.mul_pos hL0 hA0)
      · refine Nat.le_trans ?_ hV'
        exact Nat.le_mul_of_pos_right _ (Nat.pow_pos (Nat.mul_pos hL0 hA0))
      · exact Classical.byContradiction fun h => hag (ag.mpr ⟨a, x, y, h⟩)
end
end DL

/-! DSr: what bring_lead leaves; it tells one thing. -/
namespace DL
open PySem
theorem szok_pow {x y : Nat} (h : x + y + 2 ≤ 134217728) : SzOk (2 ^ x) (2 ^ y) := fun a b ha hb => by
  have e : ∀ {a : Int} {x : Nat}, a.natAbs ≤ 2 ^ x → Builtin.Int.intBits a ≤ x + 1 := fun {a x} h => by
    refine PySem.intBits_le_iff.mpr (Nat.lt_of_le_of_lt h ?_)
    rw [Nat.pow_succ]
    have := Nat.two_pow_pos x; omega
  exact IntMulOk.of_le (e ha) (e hb) (by show x + 1 + (y + 1) ≤ bitsLine; rw [show bitsLine = 134217728 by decide]; omega)
/-! ### it tells one thing -/
theorem wh_fun {top k : Nat} : ∀ (m m' : Nat) (S : Tri) (at' : Option Nat) (b : Bool) (T T' : Tri), Wh top k m S at' b T → Wh top k m' S at' b T' → T = T'
  | 0, m', S, x, false, T, T', h, h' => by
    have e1 : T = S := h
    have e2 : T' = S := by cases m' <;> exact h'
    rw [e1, e2]
  | 0, _, _, x, true, _, _, h, _ => by cases x <;> exact h.elim
  | m + 1, m', S, x, false, T, T', h, h' => by
    have e1 : T = S := h
    have e2 : T' = S := by cases m' <;> exact h'
    rw [e1, e2]
  | m + 1, m', S, none, true, T, T', h, h' => h.elim
  | m + 1, 0, S, some i, true, T, T', h, h' => h'.elim
  | m + 1, m' + 1, S, some i, true, T, T', h, h' => wh_fun m m' _ _ _ T T' h.2.2.2.2.2.2 h'.2.2.2.2.2.2
theorem bring_fun {S : Tri} {ns : List Int} {d d' : D} {T T' : Tri} (h : rBring S ns d T) (h' : rBring S ns d' T') : d = d' ∧ T = T' := by
  obtain ⟨top, k, rfl, _, c⟩ := h
  obtain ⟨top', k', e, _, c'⟩ := h'
  have e1 : top = top' := by
    have := (List.cons.inj e).1; omega
  have e2 : k = k' := by
    have := (List.cons.inj (List.cons.inj e).2).1; omega
  subst e1; subst e2
  rcases c with ⟨h1, h2, h3⟩ | ⟨i, m, U, h1, h2, h3, _, _, _, h4⟩
  · rcases c' with ⟨g1, g2, g3⟩ | ⟨i', m', U', g1, _⟩
    · exact ⟨h2.trans g2.symm, h3.trans g3.symm⟩
    · rw [h1] at g1; cases g1
  · rcases c' with ⟨g1, _⟩ | ⟨i', m', U', g1, g2, g3, _, _, _, g4⟩
    · rw [h1] at g1; cases g1
    · rw [h1] at g1; cases g1
      have := wh_fun m m' S _ _ U U' h3 g3
      subst this
      exact ⟨h2.trans g2.symm, h4.trans g4.symm⟩
/-! ### what it leaves -/
structure Sized (b v : Nat) (S : Tri) : Prop where
  f : ∀ i c, (rdD S.F i c).natAbs ≤ 2 ^ b
  r : ∀ i c, (rdD S.R i c).natAbs ≤ 2 ^ b
  c : ∀ i c, (rdD S.C i c).natAbs ≤ 2 ^ v
structure Brt (n m : Nat) (X : Mx) (top k : Nat) (S T : Tri) : Prop where
  o : Okt n m X T
  u : 0 < rdD T.F top k
  lo : ∀ a, top < a → a < n → rdD T.F a k = 0
  up : ∀ a, a < top → 0 ≤ rdD T.F a k ∧ rdD T.F a k < rdD T.F top k
  z : ∀ a, top ≤ a → a < n → ∀ c, c < k → rdD T.F a c = 0
  s : ∀ a, a < top → ∀ c, c < k → rdD T.F a c = rdD S.F a c
section
variable {n m : Nat} {X : Mx} {top k : Nat}
theorem Okt.out {S : Tri} (o : Okt n m X S) {a c : Nat} (h : n ≤ a) : rdD S.F a c = 0 ∧ rdD S.R a c = 0 ∧ rdD S.C a c = 0 := ⟨rd_big o.f h, rd_big o.r h, rd_big o.c h⟩
theorem bring_ok (hm : m ≤ 63) (hn : n ≤ 63) (hk : k < m) (ht : top < n) {S : Tri} {b v : Nat} (o : Okt n m X S) (z : Sized b v S) (hz : ∀ a, top ≤ a → a < n → ∀ c, c < k → rdD S.F a c = 0) (hs : 20 * b + v + 40 ≤ 134217728) :
    (rBring S [(top : Int), (k : Int)] (.bl false) S ∧ ∀ a, top ≤ a → a < n → rdD S.F a k = 0) ∨
    ∃ T, rBring S [(top : Int), (k : Int)] (.bl true) T ∧ Brt n m X top k S T ∧ Sized (4 * b + 5) (v + 16 * b + 21) T := by
  have ol : OkL S.F top k := ⟨by omega, by rw [o.f.l]; omega, fun i hi => o.f.some (by rw [← o.f.l]; exact hi) hk⟩
  cases hle : leastAt S.F top k with
  | none => exact .inl ⟨⟨top, k, rfl, ol, .inl ⟨hle, rfl, rfl⟩⟩, fun a h1 h2 => least_none hle a h1 (by rw [o.f.l]; exact h2)⟩
  | some i =>
    refine .inr ?_
    obtain ⟨i1, i2, i3, i4⟩ := least_some hle
    rw [o.f.l] at i2
    generalize hN : 2 ^ b = N at *
    generalize hV : 2 ^ v = V at *
    have zf : ∀ i c, (rdD S.F i c).natAbs ≤ N := fun i c => by have := z.f i c; rw [hN] at this; exact this
    have zr : ∀ i c, (rdD S.R i c).natAbs ≤ N := fun i c => by have := z.r i c; rw [hN] at this; exact this
    have zc : ∀ i c, (rdD S.C i c).natAbs ≤ V := fun i c => by have := z.c i c; rw [hV] at this; exact this
    have hN1 : 1 ≤ N := by rw [← hN]; exact Nat.two_pow_pos b
    have hV1 : 1 ≤ V := by rw [← hV]; exact Nat.two_pow_pos v
    have P6 : 6 * N ^ 3 ≤ 2 ^ (3 * b + 3) := by
      rw [← hN, ← Nat.pow_mul, Nat.pow_add, Nat.mul_comm b 3, Nat.mul_comm 6]
      exact Nat.mul_le_mul_left _ (by decide)
    have W1 : 16256 * V * N ^ 15 ≤ 2 ^ (v + 15 * b + 14) := by
      rw [← hN, ← hV, ← Nat.pow_mul, Nat.pow_add, Nat.pow_add, Nat.mul_comm b 15, Nat.mul_comm 16256, Nat.mul_right_comm]
      exact Nat.mul_le_mul_left _ (by decide)
    have s1 : SzOk (2 ^ (3 * b + 3)) (2 ^ (3 * b + 3)) := szok_pow (by omega)
    have s2 : SzOk (2 ^ (3 * b + 3)) (2 ^ (v + 15 * b + 14)) := szok_pow (by omega)
    have hN3 : N + 1 ≤ 2 ^ (3 * b + 3) := by
      have : N + 1 ≤ 6 * N ^ 3 := by
        have : N * 1 ≤ N * (N * N) := Nat.mul_le_mul_left N (Nat.mul_le_mul hN1 hN1)
        have e : N ^ 3 = N * (N * N) := by grind
        omega
      omega
    have hVW : V ≤ 16256 * V * N ^ 15 := by
      have : 1 ≤ N ^ 15 := Nat.pow_pos hN1
      have := Nat.mul_le_mul_left (16256 * V) this
      omega
    generalize hP : 2 ^ (3 * b + 3) = P at *
    generalize hW : 2 ^ (v + 15 * b + 14) = W at *
    -- the first turn
    have hL0 : 0 < (rdD S.F i k).natAbs := by omega
    have hLN : (rdD S.F i k).natAbs ≤ N := zf i k
    obtain ⟨s, hs1, hsu⟩ : ∃ s : Int, (s = 1 ∨ s = -1) ∧ s * rdD S.F i k = ((rdD S.F i k).natAbs : Int) := by
      by_cases h : 0 ≤ rdD S.F i k
      · exact ⟨1, .inl rfl, by omega⟩
      · exact ⟨-1, .inr rfl, by omega⟩
    generalize hLd : (rdD S.F i k).natAbs = L at *
    have low0 : Low n m X top k N V S := ⟨o, hz, fun a _ _ c => zf a c, fun a _ _ c => zr a c, zc⟩
    have hq : ∀ a, top ≤ a → a < n → ((rdD S.F a k).fdiv (rdD S.F i k)).natAbs ≤ (N + L) / L := fun a _ _ => by
      obtain ⟨q1, q2, q3⟩ := quo (a := rdD S.F a k) hs1 hsu hL0
      refine (Nat.le_div_iff_mul_le hL0).mpr (quo_le2 hL0 q3 q1 q2 ?_)
      rw [Int.natAbs_mul]
      have : s.natAbs = 1 := by rcases hs1 with rfl | rfl <;> rfl
      rw [this, Nat.one_mul]; exact zf a k
    have hQ : (N + L) / L * L ≤ N + L := Nat.div_mul_le_self _ _
    have hQN : (N + L) / L ≤ N + 1 := by
      rw [Nat.add_div_right _ hL0]
      have := Nat.div_le_self N L; omega
    obtain ⟨T, hT, e1, e2, w2, up, el, tF, bF, ag⟩ := turn_ok (by omega) (by omega) hk low0 i1 i2 i3 hq (s1.mono (by omega) (by omega)) (s2.mono (by omega) (by omega))
    generalize hQd : (N + L) / L = Q at *
    have hM1 : (N + Q * N) * L * (2 * L) ≤ 6 * N ^ 3 := by
      have x1 : (N + Q * N) * L = N * (L + Q * L) := by grind
      have x2 : L + Q * L ≤ 3 * N := by omega
      have x3 : 6 * N ^ 3 = N * (3 * N) * (2 * N) := by grind
      rw [x1, x3]
      exact Nat.mul_le_mul (Nat.mul_le_mul_left N x2) (by omega)
    have hV2 : (V + n * (Q * V)) * (L * (2 * L)) ^ 7 ≤ 16256 * V * N ^ 15 := by
      have x1 : V + n * (Q * V) = V * (1 + n * Q) := by grind
      have x2 : 1 + n * Q ≤ 127 * N := by
        have := Nat.mul_le_mul hn hQN; omega
      have x3 : (L * (2 * L)) ^ 7 ≤ (N * (2 * N)) ^ 7 := Nat.pow_le_pow_left (Nat.mul_le_mul hLN (by omega)) 7
      have x4 : 16256 * V * N ^ 15 = V * (127 * N) * (N * (2 * N)) ^ 7 := by grind
      rw [x1, x4]
      exact Nat.mul_le_mul (Nat.mul_le_mul_left V x2) x3
    have bnd : ∀ a, top < a → a < n → 0 ≤ s * rdD T.F a k ∧ s * rdD T.F a k < L := fun a x y => by
      obtain ⟨c, _, _, _, b4⟩ := bF a x y
      obtain ⟨q1, q2, _⟩ := quo (a := rdD S.F c k) hs1 hsu hL0
      rw [b4]; exact ⟨q1, q2⟩
    have hMP : N + Q * N ≤ P := by
      have : (N + Q * N) * 1 ≤ (N + Q * N) * (L * (2 * L)) := Nat.mul_le_mul_left _ (Nat.mul_pos hL0 (by omega))
      rw [Nat.mul_assoc] at hM1
      omega
    have hVW2 : V + n * (Q * V) ≤ W := by
      have : (V + n * (Q * V)) * 1 ≤ (V + n * (Q * V)) * (L * (2 * L)) ^ 7 := Nat.mul_le_mul_left _ (Nat.pow_pos (Nat.mul_pos hL0 (by omega)))
      omega
    have lt : T.F.length = n := w2.o.f.l
    have hwh : ∀ j U, Wh top k j T (leastAt T.F top k) (passB top k (below top (S.ex top i)) (S.ex top i) false) U → Wh top k (j + 1) S (some i) true U := fun j U h => by
      refine ⟨e1, by omega, by rw [o.f.l]; omega, e2, by rw [← hT]; exact el, ⟨by omega, by rw [← hT, lt]; omega, fun b hb => ?_⟩, by rw [← hT]; exact h⟩
      rw [← hT] at hb ⊢
      exact w2.o.f.some (by rw [← lt]; exact hb) hk
    have led : ∃ (j : Nat) (U : Tri), Wh top k j S (some i) true U ∧ Led n m X top k P W S U := by
      by_cases hag : passB top k (below top (S.ex top i)) (S.ex top i) false = true
      · obtain ⟨c, b1, b2, b3⟩ := ag.mp hag
        have r1 := bnd c b1 b2
        obtain ⟨j, U, g1, g2⟩ := while_ok hm hn hk ht s1 s2 hs1 L T (N + Q * N) (V + n * (Q * V)) (2 * L) w2 (by omega) (by rw [tF]; exact hsu) hL0 bnd ⟨c, b1, b2, b3, by
          have : ((rdD T.F c k).natAbs : Int) = s * rdD T.F c k := by rcases hs1 with rfl | rfl <;> omega
          omega⟩ (Nat.le_trans hM1 P6) (Nat.le_trans hV2 W1)
        exact ⟨j + 1, U, hwh j U (by rw [hag]; exact g1), g2.w, up.trans g2.u, g2.l, g2.z⟩
      · have hag' : passB top k (below top (S.ex top i)) (S.ex top i) false = false := by
          cases h : passB top k (below top (S.ex top i)) (S.ex top i) false with
          | false => rfl
          | true => exact absurd h hag
        exact ⟨1, T, hwh 0 T (by rw [hag']; rfl), ⟨w2.o, w2.z, fun a x y c => Nat.le_trans (w2.f a x y c) hMP, fun a x y c => Nat.le_trans (w2.r a x y c) hMP, fun a c => Nat.le_trans (w2.c a c) hVW2⟩, up, by rw [tF]; exact i3, fun a x y => Classical.byContradiction fun h => hag (ag.mpr ⟨a, x, y, h⟩)⟩
    obtain ⟨j, U, hwU, lU⟩ := led
    -- the sign
    have oU := lU.w.o
    have hU : ∃ U', U' = sgnT top k U ∧ Okt n m X U' ∧ 0 < rdD U'.F top k ∧ (∀ a, a ≠ top → ∀ c, rdD U'.F a c = rdD U.F a c) ∧ (∀ a, a ≠ top → ∀ c, rdD U'.R a c = rdD U.R a c) ∧ (∀ a c, (rdD U'.F a c).natAbs = (rdD U.F a c).natAbs) ∧ (∀ a c, (rdD U'.R a c).natAbs = (rdD U.R a c).natAbs) ∧ (∀ a c, (rdD U'.C a c).natAbs = (rdD U.C a c).natAbs) := by
      unfold sgnT
      by_cases h : rdD U.F top k < 0
      · rw [if_pos h]
        have eF : ∀ a c, rdD (U.ng top).F a c = if a = top then -rdD U.F top c else rdD U.F a c := rd_ng oU.f ht
        have eR : ∀ a c, rdD (U.ng top).R a c = if a = top then -rdD U.R top c else rdD U.R a c := rd_ng oU.r ht
        have eC : ∀ a c, rdD (U.ng top).C a c = if a = top then -rdD U.C top c else rdD U.C a c := rd_ng oU.c ht
        refine ⟨_, rfl, oU.ng ht, by rw [eF, if_pos rfl]; omega, fun a h c => by rw [eF, if_neg h], fun a h c => by rw [eR, if_neg h], fun a c => ?_, fun a c => ?_, fun a c => ?_⟩
        · rw [eF]; split
          · rename_i e; rw [e, Int.natAbs_neg]
          · rfl
        · rw [eR]; split
          · rename_i e; rw [e, Int.natAbs_neg]
          · rfl
        · rw [eC]; split
          · rename_i e; rw [e, Int.natAbs_neg]
          · rfl
      · rw [if_neg h]
        have := lU.l
        exact ⟨_, rfl, oU, by omega, fun _ _ _ => rfl, fun _ _ _ => rfl, fun _ _ => rfl, fun _ _ => rfl, fun _ _ => rfl⟩
    obtain ⟨U', hU', oU', uU', fU', rU', nF, nR, nC⟩ := hU
    -- the rows ahead
    have l0 : (1 : Int) * rdD U'.F top k = ((rdD U'.F top k).natAbs : Int) := by omega
    have lp : 0 < (rdD U'.F top k).natAbs := by omega
    have hqa : ∀ a ∈ List.range top, (qAt top k U' a).natAbs ≤ N + 1 := fun a ha => by
      have ha := List.mem_range.mp ha
      obtain ⟨q1, q2, q3⟩ := quo (a := rdD U'.F a k) (.inl rfl) l0 lp
      have h1 := quo_le2 (A := N) lp q3 q1 q2 (by rw [Int.one_mul, nF, lU.u.f a ha]; exact zf a k)
      have h2 : (qAt top k U' a).natAbs ≤ (N + (rdD U'.F top k).natAbs) / (rdD U'.F top k).natAbs := (Nat.le_div_iff_mul_le lp).mpr h1
      rw [Nat.add_div_right _ lp] at h2
      have := Nat.div_le_self N (rdD U'.F top k).natAbs
      omega
    have nt : top ∉ List.range top := by simp
    obtain ⟨p1, p2, p3⟩ := pass_ok (k := k) (by omega) (by omega) ht hk (s1.mono hN3 (Nat.le_refl _)) (s2.mono hN3 (Nat.le_refl _)) (List.range top) U' W oU' List.nodup_range nt (fun a ha => by have := List.mem_range.mp ha; omega) (by omega) hqa
      (fun c => by rw [nF]; exact lU.w.f top (Nat.le_refl _) ht c) (fun c => by rw [nR]; exact lU.w.r top (Nat.le_refl _) ht c) (fun a _ c => by rw [nC]; exact lU.w.c a c) (fun c => by rw [nC]; exact lU.w.c top c)
    have bigP : N + (N + 1) * P ≤ 2 ^ (4 * b + 5) := by
      have x1 : 2 ^ (4 * b + 5) = 4 * (N * P) := by
        rw [← hN, ← hP, ← Nat.pow_add]
        rw [show 4 * b + 5 = b + (3 * b + 3) + 2 by omega, Nat.pow_succ, Nat.pow_succ]; omega
      have hP1 : 1 ≤ P := by omega
      have y1 : (N + 1) * P = N * P + P := by grind
      have y2 : 1 * P ≤ N * P := Nat.mul_le_mul_right P hN1
      have y3 : N * 1 ≤ N * P := Nat.mul_le_mul_left N hP1
      omega
    refine ⟨passS top k (List.range top) U', ⟨top, k, rfl, ol, .inr ⟨i, j, U, hle, rfl, hwU, oU.f.some ht hk, fun _ => ⟨⟨by rw [oU.f.l]; exact ht, by rw [oU.r.l]; exact ht, by rw [oU.c.l]; exact ht⟩, ?_⟩, by rw [← hU']; exact p1, by rw [hU']⟩⟩, ⟨p2.o, ?_, fun a h1 h2 => ?_, fun a h => ?_, fun a h1 h2 c hc => ?_, fun a h c hc => ?_⟩, fun a c => ?_, fun a c => ?_, fun a c => ?_⟩
    · exact ⟨by rw [oU.f.getD ht]; exact Nat.le_trans hm (by decide), by rw [oU.r.getD ht]; exact Nat.le_trans hn (by decide), by rw [oU.c.getD ht]; exact Nat.le_trans hn (by decide)⟩
    · rw [p2.F, if_neg nt]; exact uU'
    · rw [p2.F, if_neg (by rw [List.mem_range]; omega), fU' a (by omega)]; exact lU.z a h1 h2
    · obtain ⟨q1, q2, _⟩ := quo (a := rdD U'.F a k) (.inl rfl) l0 lp
      rw [p2.F, if_pos (List.mem_range.mpr h), p2.F, if_neg nt]
      rw [Int.one_mul] at q1 q2
      exact ⟨q1, by rw [l0.symm.trans (Int.one_mul _)] at q2; exact q2⟩
    · rw [p2.F, if_neg (by rw [List.mem_range]; omega)]
      have := nF a c
      rw [lU.w.z a h1 h2 c hc] at this
      omega
    · rw [p2.F, if_pos (List.mem_range.mpr h), fU' a (by omega), lU.u.f a h]
      have := nF top c
      rw [lU.w.z top (Nat.le_refl _) ht c hc] at this
      have e : rdD U'.F top c = 0 := by omega
      rw [e]; omega
    · by_cases h1 : a < top
      · rw [p2.F, if_pos (List.mem_range.mpr h1)]
        have x1 := hqa a (List.mem_range.mpr h1)
        have x2 : (rdD U'.F top c).natAbs ≤ P := by rw [nF]; exact lU.w.f top (Nat.le_refl _) ht c
        have x3 : (rdD U'.F a c).natAbs ≤ N := by rw [nF, lU.u.f a h1]; exact zf a c
        have x4 := Int.natAbs_sub_le (rdD U'.F a c) (qAt top k U' a * rdD U'.F top c)
        have x5 : (qAt top k U' a * rdD U'.F top c).natAbs ≤ (N + 1) * P := by rw [Int.natAbs_mul]; exact Nat.mul_le_mul x1 x2
        omega
      · rw [p2.F, if_neg (by rw [List.mem_range]; omega), nF]
        by_cases h2 : a < n
        · have := lU.w.f a (by omega) h2 c
          have : 1 * P ≤ (N + 1) * P := Nat.mul_le_mul_right P (by omega)
          omega
        · rw [(oU.out (c := c) (by omega : n ≤ a)).1]; exact Nat.zero_le _
    · by_cases h1 : a < top
      · rw [p2.R, if_pos (List.mem_range.mpr h1)]
        have x1 := hqa a (List.mem_range.mpr h1)
        have x2 : (rdD U'.R top c).natAbs ≤ P := by rw [nR]; exact lU.w.r top (Nat.le_refl _) ht c
        have x3 : (rdD U'.R a c).natAbs ≤ N := by rw [nR, lU.u.r a h1]; exact zr a c
        have x4 := Int.natAbs_sub_le (rdD U'.R a c) (qAt top k U' a * rdD U'.R top c)
        have x5 : (qAt top k U' a * rdD U'.R top c).natAbs ≤ (N + 1) * P := by rw [Int.natAbs_mul]; exact Nat.mul_le_mul x1 x2
        omega
      · rw [p2.R, if_neg (by rw [List.mem_range]; omega), nR]
        by_cases h2 : a < n
        · have := lU.w.r a (by omega) h2 c
          have : 1 * P ≤ (N + 1) * P := Nat.mul_le_mul_right P (by omega)
          omega
        · rw [(oU.out (c := c) (by omega : n ≤ a)).2.1]; exact Nat.zero_le _
    · have big : W + top * ((N + 1) * W) ≤ 2 ^ (v + 16 * b + 21) := by
        have x1 : 2 ^ (v + 16 * b + 21) = 128 * (N * W) := by
          rw [← hN, ← hW, ← Nat.pow_add]
          rw [show v + 16 * b + 21 = b + (v + 15 * b + 14) + 7 by omega, Nat.pow_add _ _ 7]; omega
        have x2 : W + top * ((N + 1) * W) = (1 + top * (N + 1)) * W := by grind
        have x3 : 1 + top * (N + 1) ≤ 128 * N := by
          have := Nat.mul_le_mul (show top ≤ 63 by omega) (Nat.le_refl (N + 1)); omega
        have x4 := Nat.mul_le_mul_right W x3
        have x5 : 128 * N * W = 128 * (N * W) := Nat.mul_assoc _ _ _
        omega
      by_cases h1 : a = top
      · rw [h1]
        have := p3 c
        rw [List.length_range] at this
        omega
      · rw [p2.C a c h1, nC]
        have := lU.w.c a c
        omega
end
end DL

/-! DSt: stairs as a whole. -/
namespace DL
open PySem PySem.Spec PyProof.Rows L2
/-! ### the columns one after another -/
structure Stp (n m : Nat) (X : Mx) (k : Nat) (ps : List Nat) (S : Tri) : Prop where
  o : Okt n m X S
  le : ps.length ≤ n
  lk : ∀ p ∈ ps, p < k
  inc : ∀ (a b : Nat) (p q : Nat), ps[a]? = some p → ps[b]? = some q → a < b → p < q
  lead : ∀ (t p : Nat), ps[t]? = some p → 0 < rdD S.F t p ∧ (∀ c, c < p → rdD S.F t c = 0) ∧ ∀ a, a < t → 0 ≤ rdD S.F a p ∧ rdD S.F a p < rdD S.F t p
  z : ∀ a, ps.length ≤ a → a < n → ∀ c, c < k → rdD S.F a c = 0
theorem Stp.skip {n m k : Nat} {X : Mx} {ps : List Nat} {S : Tri} (s : Stp n m X k ps S) (h : ∀ a, ps.length ≤ a → a < n → rdD S.F a k = 0) : Stp n m X (k + 1) ps S :=
  ⟨s.o, s.le, fun p hp => by have := s.lk p hp; omega, s.inc, s.lead, fun a h1 h2 c hc => by
    by_cases e : c = k
    · rw [e]; exact h a h1 h2
    · exact s.z a h1 h2 c (by omega)⟩
theorem Stp.next {n m k : Nat} {X : Mx} {ps : List Nat} {S T : Tri} (s : Stp n m X k ps S) (ht : ps.length < n) (b : Brt n m X ps.length k S T) : Stp n m X (k + 1) (ps ++ [k]) T := by
  have at' : ∀ (t p : Nat), (ps ++ [k])[t]? = some p → (t < ps.length ∧ ps[t]? = some p) ∨ (t = ps.length ∧ p = k) := fun t p h => by
    by_cases z : t < ps.length
    · rw [List.getElem?_append_left z] at h; exact .inl ⟨z, h⟩
    · rw [List.getElem?_append_right (by omega)] at h
      have : t - ps.length = 0 := by
        have := (List.getElem?_eq_some_iff.mp h).1; simp at this; omega
      rw [this] at h; cases h; exact .inr ⟨by omega, rfl⟩
  refine ⟨b.o, by rw [List.length_append]; simp; omega, fun p hp => ?_, fun i j p q h1 h2 hij => ?_, fun t p h => ?_, fun a h1 h2 c hc => ?_⟩
  · rcases List.mem_append.mp hp with h | h
    · have := s.lk p h; omega
    · rw [List.mem_singleton.mp h]; omega
  · rcases at' i p h1 with ⟨x1, x2⟩ | ⟨x1, x2⟩
    · rcases at' j q h2 with ⟨y1, y2⟩ | ⟨y1, y2⟩
      · exact s.inc i j p q x2 y2 hij
      · rw [y2]; exact s.lk p (List.mem_of_getElem? x2)
    · rcases at' j q h2 with ⟨y1, _⟩ | ⟨y1, _⟩ <;> omega
  · rcases at' t p h with ⟨x1, x2⟩ | ⟨x1, x2⟩
    · obtain ⟨g1, g2, g3⟩ := s.lead t p x2
      have hp := s.lk p (List.mem_of_getElem? x2)
      refine ⟨by rw [b.s t x1 p hp]; exact g1, fun c hc => by rw [b.s t x1 c (by omega)]; exact g2 c hc, fun a ha => ?_⟩
      rw [b.s t x1 p hp, b.s a (by omega) p hp]; exact g3 a ha
    · rw [x1, x2]
      exact ⟨b.u, fun c hc => b.z ps.length (Nat.le_refl _) ht c hc, fun a ha => b.up a ha⟩
  · rw [List.length_append] at h1
    have h1 : ps.length + 1 ≤ a := h1
    by_cases e : c = k
    · rw [e]; exact b.lo a (by omega) h2
    · exact b.z a (by omega) h2 c (by omega)
/-! ### sizes -/
def szb (b : Nat) : Nat → Nat
  | 0 => b
  | t + 1 => 4 * szb b t + 5
def szv (b : Nat) : Nat → Nat
  | 0 => 0
  | t + 1 => szv b t + 16 * szb b t + 21
theorem szb_le (b : Nat) : ∀ t, szb b t + 2 ≤ (b + 2) * 4 ^ t
  | 0 => by simp [szb]
  | t + 1 => by
    have := szb_le b t
    rw [Nat.pow_succ, ← Nat.mul_assoc]
    show 4 * szb b t + 5 + 2 ≤ _
    omega
theorem szv_le (b : Nat) : ∀ t, szv b t ≤ 6 * ((b + 2) * 4 ^ t)
  | 0 => by simp [szv]
  | t + 1 => by
    have h1 := szv_le b t
    have h2 := szb_le b t
    have e : (b + 2) * 4 ^ (t + 1) = 4 * ((b + 2) * 4 ^ t) := by rw [Nat.pow_succ, ← Nat.mul_assoc, Nat.mul_comm]
    rw [e]
    show szv b t + 16 * szb b t + 21 ≤ _
    omega
theorem sz_room {b r t : Nat} (h : (b + 2) * 4 ^ r ≤ 12000000) (ht : t < r) : 20 * szb b t + szv b t + 40 ≤ 134217728 := by
  have h1 := szb_le b t
  have h2 := szv_le b t
  have h3 : (b + 2) * 4 ^ (t + 1) ≤ (b + 2) * 4 ^ r := Nat.mul_le_mul_left _ (Nat.pow_le_pow_right (by decide) ht)
  rw [Nat.pow_succ, ← Nat.mul_assoc] at h3
  omega
theorem szb_mono {b t r : Nat} (h : t ≤ r) : szb b t ≤ szb b r := by
  induction h with
  | refl => exact Nat.le_refl _
  | step _ ih => exact Nat.le_trans ih (by show _ ≤ 4 * szb b _ + 5; omega)
/-! ### the start -/
def idM (n : Nat) : Mx := (List.range n).map fun i => (List.range n).map fun j => if i = j then 1 else 0
theorem idM_shp (n : Nat) : Shp n n (idM n) := by
  refine ⟨by unfold idM; simp, fun i r h => ?_⟩
  unfold idM at h
  rw [List.getElem?_map] at h
  cases q : (List.range n)[i]? with
  | none => rw [q] at h; cases h
  | some a => rw [q] at h; cases h; simp
theorem idM_at {n i j : Nat} (hi : i < n) (hj : j < n) : rdD (idM n) i j = if i = j then 1 else 0 := by
  have : (idM n)[i]? = some ((List.range n).map fun j => if i = j then 1 else 0) := by
    unfold idM; rw [List.getElem?_map, List.getElem?_range hi]; rfl
  rw [rd_at this, List.getD_eq_getElem?_getD, List.getElem?_map, List.getElem?_range hj]; rfl
theorem ok_start {n m : Nat} {X : Mx} (h : Shp n m X) : Okt n m X ⟨X, idM n, idM n⟩ := by
  refine ⟨h, idM_shp n, idM_shp n, fun i hi c => ?_, fun i hi k hk => ?_, fun x hx y hy => ?_⟩
  rotate_left 2
  · show sm n (fun a => rdD (idM n) a x * rdD (idM n) a y) = _
    rw [sm_one hx fun j hj hn => by rw [idM_at hj hx, if_neg hn]; omega, idM_at hx hx, if_pos rfl, idM_at hx hy]; omega
  · show sm n (fun j => rdD (idM n) i j * rdD X j c) = rdD X i c
    rw [sm_one hi fun j hj hn => by rw [idM_at hi hj, if_neg (fun z => hn z.symm)]; omega, idM_at hi hi, if_pos rfl]; omega
  · show sm n (fun j => rdD (idM n) i j * rdD (idM n) k j) = _
    rw [sm_one hi fun j hj hn => by rw [idM_at hi hj, if_neg (fun z => hn z.symm)]; omega, idM_at hi hi, if_pos rfl, idM_at hk hi]
    by_cases e : i = k
    · rw [if_pos e, if_pos e.symm]; rfl
    · rw [if_neg e, if_neg (fun z => e z.symm)]; rfl
theorem sized_start {n m b : Nat} {X : Mx} (hb : ∀ i c, (rdD X i c).natAbs ≤ 2 ^ b) : Sized (szb b 0) (szv b 0) ⟨X, idM n, idM n⟩ := by
  have id1 : ∀ i c, (rdD (idM n) i c).natAbs ≤ 1 := fun i c => by
    by_cases hi : i < n
    · by_cases hc : c < n
      · rw [idM_at hi hc]; split <;> decide
      · rw [(idM_shp n).out (by omega)]; decide
    · rw [rd_big (idM_shp n) (by omega)]; decide
  exact ⟨hb, fun i c => Nat.le_trans (id1 i c) (Nat.two_pow_pos _), fun i c => Nat.le_trans (id1 i c) (Nat.two_pow_pos _)⟩
/-! ### the program's walk -/
theorem mxD_inj : ∀ {L M : Mx}, mxD L = mxD M → L = M
  | [], [], _ => rfl
  | [], _ :: _, h => by cases h
  | _ :: _, [], h => by cases h
  | a :: L, b :: M, h => by
    unfold mxD at h
    rw [List.map_cons, List.map_cons] at h
    injection h with h1 h2
    have e : ∀ {r s : List Int}, r.map D.int = s.map D.int → r = s := by
      intro r
      induction r with
      | nil => intro s h; cases s with
        | nil => rfl
        | cons _ _ => cases h
      | cons x r ih => intro s h; cases s with
        | nil => cases h
        | cons y s => rw [List.map_cons, List.map_cons] at h; injection h with g1 g2; injection g1 with g1; rw [g1, ih g2]
    rw [e h1, mxD_inj h2]
theorem br_eq {e : DEnv} {S T : Tri} {top k : Nat} {d : D} (h1 : e[1]? = some (.own none (rw3 S.F))) (h2 : e[3]? = some (.own none (rw3 S.R))) (h3 : e[4]? = some (.own none (rw3 S.C))) (h4 : e[5]? = some (.val (.int top))) (h5 : e[6]? = some (.val (.int k)))
    (hR : rBring S [(top : Int), (k : Int)] d T) (hd : d.plain = true) : mBr rBring 1 3 4 5 6 e = .ok d (((e.set 1 (.own none (rw3 T.F))).set 3 (.own none (rw3 T.R))).set 4 (.own none (rw3 T.C))) := by
  obtain ⟨d', e', ⟨S', T', n1, n2, g1, g2, g3, g4, g5, gR, _, ge⟩, gm⟩ := mBr_of (R := rBring) (i1 := 1) (i2 := 3) (i3 := 4) (j1 := 5) (j2 := 6) (env := e) ⟨S, T, _, _, h1, h2, h3, h4, h5, hR, hd, rfl⟩
  rw [h1] at g1; rw [h2] at g2; rw [h3] at g3; rw [h4] at g4; rw [h5] at g5
  have e1 : S.F = S'.F := by injection g1 with g1; injection g1 with _ g1; injection g1 with g1; exact mxD_inj g1
  have e2 : S.R = S'.R := by injection g2 with g1; injection g1 with _ g1; injection g1 with g1; exact mxD_inj g1
  have e3 : S.C = S'.C := by injection g3 with g1; injection g1 with _ g1; injection g1 with g1; exact mxD_inj g1
  have eS : S = S' := by cases S; cases S'; simp_all
  have m1 : (top : Int) = n1 := by injection g4 with g; injection g with g; injection g
  have m2 : (k : Int) = n2 := by injection g5 with g; injection g with g; injection g
  subst m1; subst m2; subst eS
  obtain ⟨x1, x2⟩ := bring_fun hR gR
  rw [gm, ge, x1, x2]
noncomputable def bStLoop : M Fl := (mIf (bAnd (bnd (m2 (mVar 5) (mLend (has 1 (onSl 1 fun d => cLen [d]))) (g2i (iCmp fun i j => decide (i < j)))) mB) (bnd (mBr rBring 1 3 4 5 6) mTru)) (mAug 5 (ret (.int 1)) fun a b => .int (a + b)) nx)
noncomputable def bStairs (RR : List D → Res (List (List D))) : M Fl :=
  (sq (mOwnR 1 (mLcR [2] (mSeq (mVar 0)) (gN 2) (bnd (aCons (mVar 2) aNil) cListF)))
  (sq (mOwnR 3 (mCallRR (aCons (mLend (has 1 (onSl 1 fun d => cLen [d]))) aNil) RR))
  (sq (mOwnR 4 (mCallRR (aCons (mLend (has 1 (onSl 1 fun d => cLen [d]))) aNil) RR))
  (sq (mAsg 5 (ret (.int 0)))
  (sq (bnd (mRng1 (aCons (bnd (aCons (mIxN 0 (ret (.int 0))) aNil) cLen) aNil)) (forL (gN 6) bStLoop))
  (sq (mAsg 7 (mLc [9] (mRng1 (aCons (mLend (has 4 (onSl 4 fun d => cLen [d]))) aNil)) (gN 9) (ret true) (mLc [8] (mSeq (mVar 4)) (gN 8) (ret true) (mIxN 8 (mVar 9)))))
  (mRet (mTup (aCons (mVar 1) (aCons (mVar 3) (aCons (mVar 7) aNil)))))))))))
noncomputable def bRStill : M (List (List D)) :=
  (mLcR [2] (mRng1 (aCons (mVar 0) aNil)) (gN 2) (unL (mLc [1] (mRng1 (aCons (mVar 0) aNil)) (gN 1) (ret true) (bnd (aCons (m2 (mVar 2) (mVar 1) mEq) aNil) cInt))))
theorem rstill_eq {n : Nat} (hn : n ≤ 10000) : ∃ e, runRR 3 bRStill [.int n] = .ok (mxD (idM n)) e := by
  have inner : ∀ i, i < n → ∀ x1 : Sl, (x1 = .no) → unL (mLc [1] (mRng1 (aCons (mVar 0) aNil)) (gN 1) (ret true) (bnd (aCons (m2 (mVar 2) (mVar 1) mEq) aNil) cInt)) [.val (.int n), x1, .val (.int (i : Nat))] = .ok (((List.range n).map fun j => if i = j then (1 : Int) else 0).map .int) [.val (.int n), .no, .val (.int (i : Nat))] := by
    intro i hi x1 hx
    subst hx
    have k := mLc_rng (vs := [1]) (fi := mRng1 (aCons (mVar 0) aNil)) (g := gN 1) (el := bnd (aCons (m2 (mVar 2) (mVar 1) mEq) aNil) cInt) (e := [.val (.int n), .no, .val (.int (i : Nat))]) (e0 := [.val (.int n), .no, .val (.int (i : Nat))]) (m := n) (fun j => if i = j then (1 : Int) else 0) (by
      walk_at "dl"
      rw [if_pos (by unfold rOk; omega), Int.toNat_natCast]) rfl rfl (le_size (by omega)) fun j hj => ⟨_, [.val (.int n), .val (.int (j : Nat)), .val (.int (i : Nat))], rfl, by
        walk_at "dl"
        by_cases h : i = j
        · simp [h]
        · have : ¬ ((i : Int) = (j : Int)) := by omega
          simp [h, this], by rfl⟩
    rw [a_unL, k]; rfl
  refine ⟨[.val (.int n), .no, .no], ?_⟩
  · unfold runRR bRStill
    have k := mLcR_gen (vs := [2]) (fi := mRng1 (aCons (mVar 0) aNil)) (g := gN 2) (el := unL (mLc [1] (mRng1 (aCons (mVar 0) aNil)) (gN 1) (ret true) (bnd (aCons (m2 (mVar 2) (mVar 1) mEq) aNil) cInt))) (e := envOf 3 [.int n]) (e0 := [.val (.int n), .no, .no]) (List.range n) (fun i => .int ((i : Nat) : Int)) (fun i => ((List.range n).map fun j => if i = j then (1 : Int) else 0).map .int) (by
      walk_at "dl"
      rw [if_pos (by unfold rOk; omega), Int.toNat_natCast]
      unfold rngD
      congr 1
      apply List.map_congr_left
      intro k _
      rw [Int.zero_add]) rfl rfl (le_size (by rw [List.length_range]; omega)) fun i hi => ⟨_, _, rfl, inner i (List.mem_range.mp hi) .no rfl, rfl⟩
    rw [k]
    unfold mxD idM
    rw [List.map_map]
    rfl
/-! ### the whole -/
/-- a comprehension whose first item turns the environment -/
theorem mLc_two {α : Type} {vs : List Nat} {fi : M (List D)} {g : D → M Unit} {el : M D} {e e0 w1 : DEnv} (xs : List α) (F f : α → D) (hf : fi e = .ok (xs.map F) e0) (hn : noOwn e0 vs = true) (hl : xs.length ≤ sizeLine) (hx : xs ≠ [])
    (h : ∀ x ∈ xs, ∀ w, w = wipeE e0 vs ∨ w = w1 → ∃ e1 e3, g (F x) w = .ok () e1 ∧ el e1 = .ok (f x) e3 ∧ wipeE e3 vs = w1) : mLc vs fi g (DL.ret true) el e = .ok (.lst (xs.map f)) (backE e0 w1 vs) := by
  have lc : ∀ (ys : List α) (acc : List D) (w : DEnv), (w = wipeE e0 vs ∨ w = w1) → (ys = [] → w = w1) → (∀ x ∈ ys, ∀ w, w = wipeE e0 vs ∨ w = w1 → ∃ e1 e3, g (F x) w = .ok () e1 ∧ el e1 = .ok (f x) e3 ∧ wipeE e3 vs = w1) → acc.length + ys.length ≤ sizeLine → lcL vs g (DL.ret true) el (ys.map F) acc w = .ok (acc ++ ys.map f) w1 := by
    intro ys
    induction ys with
    | nil => intro acc w _ hw _ _; rw [hw rfl, List.map_nil, List.map_nil, List.append_nil]; rfl
    | cons y r ih =>
      intro acc w hw _ h hl
      obtain ⟨e1, e3, h1, h2, h3⟩ := h y List.mem_cons_self w hw
      rw [List.length_cons] at hl
      rw [List.map_cons, List.map_cons]
      unfold lcL
      rw [bnd_ok h1, bnd_ok (show DL.ret true e1 = .ok true e1 from rfl), if_pos rfl, bnd_ok h2]
      rw [if_pos (by omega), h3, ih (acc ++ [f y]) w1 (.inr rfl) (fun _ => rfl) (fun x m => h x (List.mem_cons_of_mem _ m)) (by rw [List.length_append]; show acc.length + 1 + r.length ≤ _; omega), List.append_assoc, List.singleton_append]
  unfold mLc
  rw [bnd_ok hf, if_pos hn, lc xs [] _ (.inl rfl) (fun z => absurd z hx) h (by rw [List.length_nil, Nat.zero_add]; exact hl)]
  dsimp only
  rw [List.nil_append]
def trM (n : Nat) (C : Mx) : Mx := (List.range n).map fun i => C.map fun r => r.getD i 0
theorem trM_row {n i : Nat} {C : Mx} (hi : i < n) : (trM n C)[i]? = some (C.map fun r => r.getD i 0) := by
  unfold trM; rw [List.getElem?_map, List.getElem?_range hi]; rfl
theorem trM_shp {n : Nat} {C : Mx} (h : Shp n n C) : Shp n n (trM n C) := by
  refine ⟨by unfold trM; simp, fun i r hr => ?_⟩
  have hi : i < n := by have := (List.getElem?_eq_some_iff.mp hr).1; unfold trM at this; simpa using this
  rw [trM_row hi] at hr; cases hr
  rw [List.length_map, h.l]
theorem trM_at {n i j : Nat} {C : Mx} (h : Shp n n C) (hi : i < n) (hj : j < n) : rdD (trM n C) i j = rdD C j i := by
  obtain ⟨r, hr, _⟩ := h.at hj
  rw [rd_at (trM_row hi), rd_at hr, List.getD_eq_getElem?_getD, List.getElem?_map, hr]; rfl
structure Leads (n m : Nat) (ps : List Nat) (F : Mx) : Prop where
  le : ps.length ≤ n
  lk : ∀ p ∈ ps, p < m
  inc : ∀ (a b : Nat) (p q : Nat), ps[a]? = some p → ps[b]? = some q → a < b → p < q
  lead : ∀ (t p : Nat), ps[t]? = some p → 0 < rdD F t p ∧ (∀ c, c < p → rdD F t c = 0) ∧ ∀ a, a < t → 0 ≤ rdD F a p ∧ rdD F a p < rdD F t p
  z : ∀ a, ps.length ≤ a → a < n → ∀ c, rdD F a c = 0
/-- what stairs tells of the rows X -/
structure Stair (n m b : Nat) (X F R B : Mx) : Prop where
  f : Shp n m F
  r : Shp n n R
  bk : Shp n n B
  mul : ∀ i, i < n → ∀ c, sm n (fun j => rdD R i j * rdD X j c) = rdD F i c
  inv : ∀ i, i < n → ∀ k, k < n → sm n (fun j => rdD R i j * rdD B j k) = if i = k then 1 else 0
  vni : ∀ x, x < n → ∀ y, y < n → sm n (fun a => rdD B x a * rdD R a y) = if x = y then 1 else 0
  ld : ∃ ps, Leads n m ps F
  sf : ∀ i c, (rdD F i c).natAbs ≤ 2 ^ ((b + 2) * 4 ^ min n m)
  sr : ∀ i c, (rdD R i c).natAbs ≤ 2 ^ ((b + 2) * 4 ^ min n m)
  sb : ∀ i c, (rdD B i c).natAbs ≤ 2 ^ (6 * ((b + 2) * 4 ^ min n m))
theorem stp_ps {n m k : Nat} {X : Mx} {ps : List Nat} {S : Tri} (s : Stp n m X k ps S) : ps.length ≤ k := by
  -- rising numbers below k
  have key : ∀ t, t < ps.length → t ≤ ps.getD t 0 := by
    intro t
    induction t with
    | zero => intro _; exact Nat.zero_le _
    | succ t ih =>
      intro h
      have := ih (by omega)
      have := s.inc t (t + 1) (ps.getD t 0) (ps.getD (t + 1) 0) (by rw [List.getD_eq_getElem?_getD, List.getElem?_eq_getElem (by omega)]; rfl) (by rw [List.getD_eq_getElem?_getD, List.getElem?_eq_getElem h]; rfl) (by omega)
      omega
  by_cases h : ps.length = 0
  · omega
  · have h1 := key (ps.length - 1) (by omega)
    have h2 := s.lk (ps.getD (ps.length - 1) 0) (by rw [List.getD_eq_getElem?_getD, List.getElem?_eq_getElem (by omega)]; exact List.getElem_mem _)
    omega
theorem stair_of {n m b : Nat} {X : Mx} {ps : List Nat} {S : Tri} (s : Stp n m X m ps S) (z : Sized (szb b ps.length) (szv b ps.length) S) : Stair n m b X S.F S.R (trM n S.C) := by
  have hr : ps.length ≤ min n m := Nat.le_min.mpr ⟨s.le, stp_ps s⟩
  have h1 := szb_le b ps.length
  have h2 := szv_le b ps.length
  have h3 : (b + 2) * 4 ^ ps.length ≤ (b + 2) * 4 ^ min n m := Nat.mul_le_mul_left _ (Nat.pow_le_pow_right (by decide) hr)
  refine ⟨s.o.f, s.o.r, trM_shp s.o.c, s.o.mul, fun i hi k hk => ?_, fun x hx y hy => ?_, ⟨ps, s.le, fun p hp => s.lk p hp, s.inc, s.lead, fun a x y c => ?_⟩, fun i c => Nat.le_trans (z.f i c) (Nat.pow_le_pow_right (by decide) (by omega)), fun i c => Nat.le_trans (z.r i c) (Nat.pow_le_pow_right (by decide) (by omega)), fun i c => ?_⟩
  · rw [← s.o.inv i hi k hk]
    exact sm_congr fun j hj => by rw [trM_at s.o.c hj hk]
  · rw [← s.o.vni x hx y hy]
    exact sm_congr fun a ha => by rw [trM_at s.o.c hx ha]
  · by_cases hc : c < m
    · exact s.z a x y c hc
    · exact s.o.f.out (by omega)
  · by_cases hi : i < n
    · by_cases hc : c < n
      · rw [trM_at s.o.c hi hc]
        exact Nat.le_trans (z.c c i) (Nat.pow_le_pow_right (by decide) (by omega))
      · rw [(trM_shp s.o.c).out (by omega)]; exact Nat.zero_le _
    · rw [rd_big (trM_shp s.o.c) (by omega)]; exact Nat.zero_le _
theorem mx_rows {L : Mx} : (mxD L).map D.lst = L.map (rowD true) := by unfold mxD; rw [List.map_map]; rfl
theorem stairs_eq {RR : List D → Res (List (List D))} {kk jj : Bool} {n m b : Nat} {X : Mx} (hRR : ∃ e, RR [.int n] = .ok (mxD (idM n)) e) (h : Shp n m X) (hn0 : 0 < n) (hn : n ≤ 63) (hm : m ≤ 63) (hb : ∀ i c, (rdD X i c).natAbs ≤ 2 ^ b) (hs : (b + 2) * 4 ^ min n m ≤ 12000000) :
    ∃ F R B, runF 10 (bStairs RR) [rowsD kk jj X] = .ok (.tup [rowsD true true F, rowsD true true R, rowsD true true B]) ∧ Stair n m b X F R B := by
  obtain ⟨e0, hRR⟩ := hRR
  have lX : X.length = n := h.l
  have row0 : ∃ r0, X[0]? = some r0 ∧ r0.length = m := h.at hn0
  obtain ⟨r0, hr0, hl0⟩ := row0
  have at0 : atI (X.map (rowD jj)) 0 = some (rowD jj r0) := atI_nat (j := 0) (by rw [List.getElem?_map, hr0]; rfl)
  have lc1 : mLcR [2] (mSeq (mVar 0)) (gN 2) (bnd (aCons (mVar 2) aNil) cListF) [.val (rowsD kk jj X), .no, .no, .no, .no, .no, .no, .no, .no, .no] = .ok (mxD X) [.val (rowsD kk jj X), .no, .no, .no, .no, .no, .no, .no, .no, .no] :=
    mLcR_gen X (rowD jj) (fun r => r.map D.int) (by walk_at "dl") rfl rfl (le_size (by omega)) fun r m => ⟨_, [.val (rowsD kk jj X), .no, .val (rowD jj r), .no, .no, .no, .no, .no, .no, .no], rfl, by
      cases jj <;> (walk_at "dl"; rfl), by rfl⟩
  have len1 : (mxD X).length = n := by unfold mxD; rw [List.length_map, lX]
  -- the loop
  obtain ⟨e', q1, ps, S, x6, rfl, st, sz⟩ := forL_rng0 (g := gN 6) (b := bStLoop) (m := m) (fun k e => ∃ ps S x6, e = [.val (rowsD kk jj X), .own none (rw3 S.F), .no, .own none (rw3 S.R), .own none (rw3 S.C), .val (.int (ps.length : Nat)), x6, .no, .no, .no] ∧ Stp n m X k ps S ∧ Sized (szb b ps.length) (szv b ps.length) S)
      (e := [.val (rowsD kk jj X), .own none (rw3 X), .no, .own none (rw3 (idM n)), .own none (rw3 (idM n)), .val (.int 0), .no, .no, .no, .no])
      ⟨[], ⟨X, idM n, idM n⟩, .no, rfl, ⟨ok_start h, Nat.zero_le _, fun p hp => (by cases hp), fun a b p q h1 => (by cases h1), fun t p h1 => (by cases h1), fun a _ _ c hc => absurd hc (by omega)⟩, sized_start (m := m) hb⟩ (fun k hk e he => by
    obtain ⟨ps, S, x6, rfl, st, sz⟩ := he
    have lS : (mxD S.F).length = n := by unfold mxD; rw [List.length_map, st.o.f.l]
    have hlen := stp_ps st
    by_cases ht : ps.length < n
    · rcases bring_ok (top := ps.length) hm hn hk ht st.o sz st.z (sz_room hs (by omega)) with ⟨hR, hz⟩ | ⟨T, hR, hB, hZ⟩
      · refine ⟨[.val (rowsD kk jj X), .own none (rw3 S.F), .no, .own none (rw3 S.R), .own none (rw3 S.C), .val (.int (ps.length : Nat)), .val (.int (k : Nat)), .no, .no, .no], [.val (rowsD kk jj X), .own none (rw3 S.F), .no, .own none (rw3 S.R), .own none (rw3 S.C), .val (.int (ps.length : Nat)), .val (.int (k : Nat)), .no, .no, .no], rfl, .inl ?_, ps, S, _, rfl, st.skip hz, sz⟩
        have hbr := br_eq (e := [.val (rowsD kk jj X), .own none (rw3 S.F), .no, .own none (rw3 S.R), .own none (rw3 S.C), .val (.int (ps.length : Nat)), .val (.int (k : Nat)), .no, .no, .no]) rfl rfl rfl rfl rfl hR rfl
        have c1 : ((ps.length : Int) < (n : Int)) = True := eq_true (by omega)
        clear hR hz
        unfold bStLoop
        walk_at "dl"
        rw [lS, hbr]
        simp only [c1]
        walk_at "dl"
      · refine ⟨[.val (rowsD kk jj X), .own none (rw3 S.F), .no, .own none (rw3 S.R), .own none (rw3 S.C), .val (.int (ps.length : Nat)), .val (.int (k : Nat)), .no, .no, .no], [.val (rowsD kk jj X), .own none (rw3 T.F), .no, .own none (rw3 T.R), .own none (rw3 T.C), .val (.int ((ps.length : Nat) + 1 : Int)), .val (.int (k : Nat)), .no, .no, .no], rfl, .inl ?_, ps ++ [k], T, .val (.int (k : Nat)), ?_, st.next ht hB, ?_⟩
        · have hbr := br_eq (e := [.val (rowsD kk jj X), .own none (rw3 S.F), .no, .own none (rw3 S.R), .own none (rw3 S.C), .val (.int (ps.length : Nat)), .val (.int (k : Nat)), .no, .no, .no]) rfl rfl rfl rfl rfl hR rfl
          have c1 : ((ps.length : Int) < (n : Int)) = True := eq_true (by omega)
          clear hR hB hZ
          unfold bStLoop
          walk_at "dl"
          rw [lS, hbr]
          simp only [c1]
          walk_at "dl"
        · rw [List.length_append]; rfl
        · rw [List.length_append]; exact hZ
    · refine ⟨[.val (rowsD kk jj X), .own none (rw3 S.F), .no, .own none (rw3 S.R), .own none (rw3 S.C), .val (.int (ps.length : Nat)), .val (.int (k : Nat)), .no, .no, .no], [.val (rowsD kk jj X), .own none (rw3 S.F), .no, .own none (rw3 S.R), .own none (rw3 S.C), .val (.int (ps.length : Nat)), .val (.int (k : Nat)), .no, .no, .no], rfl, .inl ?_, ps, S, _, rfl, st.skip (fun a h1 h2 => absurd h2 (by omega)), sz⟩
      have c1 : ((ps.length : Int) < (n : Int)) = False := eq_false (by omega)
      unfold bStLoop
      walk_at "dl"
      rw [lS]
      simp only [c1]
      walk_at "dl")
  have lC : (mxD S.C).length = n := by unfold mxD; rw [List.length_map, st.o.c.l]
  have lc2 : mLc [9] (mRng1 (aCons (mLend (has 4 (onSl 4 fun d => cLen [d]))) aNil)) (gN 9) (ret true) (mLc [8] (mSeq (mVar 4)) (gN 8) (ret true) (mIxN 8 (mVar 9))) [.val (rowsD kk jj X), .own none (rw3 S.F), .no, .own none (rw3 S.R), .own none (rw3 S.C), .val (.int (ps.length : Nat)), x6, .no, .no, .no] = .ok (rowsD true true (trM n S.C)) [.val (rowsD kk jj X), .own none (rw3 S.F), .no, .own none (rw3 S.R), .val (.lst ((mxD S.C).map .lst)), .val (.int (ps.length : Nat)), x6, .no, .no, .no] := by
    have k := mLc_two (vs := [9]) (fi := mRng1 (aCons (mLend (has 4 (onSl 4 fun d => cLen [d]))) aNil)) (g := gN 9) (el := mLc [8] (mSeq (mVar 4)) (gN 8) (ret true) (mIxN 8 (mVar 9))) (e := [.val (rowsD kk jj X), .own none (rw3 S.F), .no, .own none (rw3 S.R), .own none (rw3 S.C), .val (.int (ps.length : Nat)), x6, .no, .no, .no]) (e0 := [.val (rowsD kk jj X), .own none (rw3 S.F), .no, .own none (rw3 S.R), .own none (rw3 S.C), .val (.int (ps.length : Nat)), x6, .no, .no, .no]) (w1 := [.val (rowsD kk jj X), .own none (rw3 S.F), .no, .own none (rw3 S.R), .val (.lst ((mxD S.C).map .lst)), .val (.int (ps.length : Nat)), x6, .no, .no, .no])
      (List.range n) (fun i => .int ((i : Nat) : Int)) (fun i => .lst ((S.C.map fun r => r.getD i 0).map .int)) (by
        walk_at "dl"
        rw [lC, if_pos (by unfold rOk; omega), Int.toNat_natCast]
        unfold rngD
        congr 1
        apply List.map_congr_left
        intro k _
        rw [Int.zero_add]) rfl (le_size (by rw [List.length_range]; omega)) (by intro z; have := congrArg List.length z; simp at this; omega) fun i hi w hw => by
      have hi := List.mem_range.mp hi
      have inner : ∀ x4 : Sl, (x4 = .own none (rw3 S.C) ∨ x4 = .val (.lst ((mxD S.C).map .lst))) → mLc [8] (mSeq (mVar 4)) (gN 8) (ret true) (mIxN 8 (mVar 9)) [.val (rowsD kk jj X), .own none (rw3 S.F), .no, .own none (rw3 S.R), x4, .val (.int (ps.length : Nat)), x6, .no, .no, .val (.int (i : Nat))] = .ok (.lst ((S.C.map fun r => r.getD i 0).map .int)) [.val (rowsD kk jj X), .own none (rw3 S.F), .no, .own none (rw3 S.R), .val (.lst ((mxD S.C).map .lst)), .val (.int (ps.length : Nat)), x6, .no, .no, .val (.int (i : Nat))] := by
        intro x4 hx
        have k := mLc_gen (vs := [8]) (fi := mSeq (mVar 4)) (g := gN 8) (el := mIxN 8 (mVar 9)) (e := [.val (rowsD kk jj X), .own none (rw3 S.F), .no, .own none (rw3 S.R), x4, .val (.int (ps.length : Nat)), x6, .no, .no, .val (.int (i : Nat))]) (e0 := [.val (rowsD kk jj X), .own none (rw3 S.F), .no, .own none (rw3 S.R), .val (.lst ((mxD S.C).map .lst)), .val (.int (ps.length : Nat)), x6, .no, .no, .val (.int (i : Nat))])
          S.C (fun r => .lst (r.map .int)) (fun r => .int (r.getD i 0)) (by
            rcases hx with rfl | rfl
            · walk_at "dl"
              unfold mxD; rw [List.map_map]; rfl
            · walk_at "dl"
              unfold mxD; rw [List.map_map]; rfl) rfl rfl (le_size (by rw [st.o.c.l]; omega)) fun r hr => by
          obtain ⟨a, ha, hra⟩ := List.mem_iff_getElem.mp hr
          have hl := st.o.c.w a r (by rw [List.getElem?_eq_getElem ha, hra])
          have g := atK (ns := r) (k := i) (by omega)
          refine ⟨_, [.val (rowsD kk jj X), .own none (rw3 S.F), .no, .own none (rw3 S.R), .val (.lst ((mxD S.C).map .lst)), .val (.int (ps.length : Nat)), x6, .no, .val (.lst (r.map .int)), .val (.int (i : Nat))], rfl, ?_, rfl⟩
          walk_at "dl"
          rw [g]
          walk_at "dl"
        rw [k, List.map_map]; rfl
      rcases hw with rfl | rfl
      · exact ⟨_, _, rfl, inner _ (.inl rfl), rfl⟩
      · exact ⟨_, _, rfl, inner _ (.inr rfl), rfl⟩
    rw [k]
    unfold trM
    show Res.ok (D.lst _) _ = Res.ok (D.lst _) _
    rw [List.map_map]
    rfl
  refine ⟨S.F, S.R, trM n S.C, ?_, stair_of st sz⟩
  unfold bStairs
  walk_at "dl"
  rw [lc1]
  walk_at "dl"
  have cr : ∀ x3 : Sl, mCallRR (aCons (mLend (has 1 (onSl 1 fun d => cLen [d]))) aNil) RR [.val (rowsD kk jj X), .own none (.rows (mxD X)), .no, x3, .no, .no, .no, .no, .no, .no] = .ok (mxD (idM n)) [.val (rowsD kk jj X), .own none (.rows (mxD X)), .no, x3, .no, .no, .no, .no, .no, .no] := fun x3 => by
    unfold mCallRR
    rw [bnd_ok (show aCons (mLend (has 1 (onSl 1 fun d => cLen [d]))) aNil [.val (rowsD kk jj X), .own none (.rows (mxD X)), .no, x3, .no, .no, .no, .no, .no, .no] = .ok [.int n] [.val (rowsD kk jj X), .own none (.rows (mxD X)), .no, x3, .no, .no, .no, .no, .no, .no] from by
      walk_at "dl"
      rw [len1])]
    rw [hRR]
  rw [cr]
  walk_at "dl"
  rw [cr]
  walk_at "dl"
  rw [at0]
  walk_at "dl"
  rw [hl0, if_pos (by unfold rOk; omega), Int.toNat_natCast, q1]
  walk_at "dl"
  rw [lc2]
  walk_at "dl"
  rw [mx_rows, mx_rows]
  rfl
end DL

/-! DVb: stairs, as three lists of lists of its caller's own. -/
namespace DL
open PySem PySem.Spec PyProof.Rows L2
theorem sq3_ok {f : M Fl} {g : M R3} {e e' : DEnv} (h : f e = .ok .nx e') : sq3 f g e = g e' := by unfold sq3; rw [h]
/-- a comprehension of lists whose first item turns the environment -/
theorem mLcR_two {α : Type} {vs : List Nat} {fi : M (List D)} {g : D → M Unit} {el : M (List D)} {e e0 w1 : DEnv} (xs : List α) (F : α → D) (f : α → List D) (hf : fi e = .ok (xs.map F) e0) (hn : noOwn e0 vs = true) (hl : xs.length ≤ sizeLine) (hx : xs ≠ [])
    (h : ∀ x ∈ xs, ∀ w, w = wipeE e0 vs ∨ w = w1 → ∃ e1 e3, g (F x) w = .ok () e1 ∧ el e1 = .ok (f x) e3 ∧ wipeE e3 vs = w1) : mLcR vs fi g el e = .ok (xs.map f) (backE e0 w1 vs) := by
  have lc : ∀ (ys : List α) (acc : List (List D)) (w : DEnv), (w = wipeE e0 vs ∨ w = w1) → (ys = [] → w = w1) → (∀ x ∈ ys, ∀ w, w = wipeE e0 vs ∨ w = w1 → ∃ e1 e3, g (F x) w = .ok () e1 ∧ el e1 = .ok (f x) e3 ∧ wipeE e3 vs = w1) → acc.length + ys.length ≤ sizeLine → lcR vs g el (ys.map F) acc w = .ok (acc ++ ys.map f) w1 := by
    intro ys
    induction ys with
    | nil => intro acc w _ hw _ _; rw [hw rfl, List.map_nil, List.map_nil, List.append_nil]; rfl
    | cons y r ih =>
      intro acc w hw _ h hl
      obtain ⟨e1, e3, h1, h2, h3⟩ := h y List.mem_cons_self w hw
      rw [List.length_cons] at hl
      rw [List.map_cons, List.map_cons]
      unfold lcR
      rw [bnd_ok h1, bnd_ok h2]
      rw [if_pos (by omega), h3, ih (acc ++ [f y]) w1 (.inr rfl) (fun _ => rfl) (fun x m => h x (List.mem_cons_of_mem _ m)) (by rw [List.length_append]; show acc.length + 1 + r.length ≤ _; omega), List.append_assoc, List.singleton_append]
  unfold mLcR
  rw [bnd_ok hf, if_pos hn, lc xs [] _ (.inl rfl) (fun z => absurd z hx) h (by rw [List.length_nil, Nat.zero_add]; exact hl)]
  dsimp only
  rw [List.nil_append]
noncomputable def bStairs3 (RR : List D → Res (List (List D))) : M R3 :=
  (sq3 (mOwnR 1 (mLcR [2] (mSeq (mVar 0)) (gN 2) (bnd (aCons (mVar 2) aNil) cListF)))
  (sq3 (mOwnR 3 (mCallRR (aCons (mLend (has 1 (onSl 1 fun d => cLen [d]))) aNil) RR))
  (sq3 (mOwnR 4 (mCallRR (aCons (mLend (has 1 (onSl 1 fun d => cLen [d]))) aNil) RR))
  (sq3 (mAsg 5 (ret (.int 0)))
  (sq3 (bnd (mRng1 (aCons (bnd (aCons (mIxN 0 (ret (.int 0))) aNil) cLen) aNil)) (forL (gN 6) bStLoop))
  (sq3 (mOwnR 7 (mLcR [9] (mRng1 (aCons (mLend (has 4 (onSl 4 fun d => cLen [d]))) aNil)) (gN 9) (unL (mLc [8] (mSeq (mVar 4)) (gN 8) (ret true) (mIxN 8 (mVar 9))))))
  (ret3 1 3 7)))))))
theorem stairs3_eq {RR : List D → Res (List (List D))} {kk jj : Bool} {n m b : Nat} {X : Mx} (hRR : ∃ e, RR [.int n] = .ok (mxD (idM n)) e) (h : Shp n m X) (hn0 : 0 < n) (hn : n ≤ 63) (hm : m ≤ 63) (hb : ∀ i c, (rdD X i c).natAbs ≤ 2 ^ b) (hs : (b + 2) * 4 ^ min n m ≤ 12000000) :
    ∃ F R B e, runR3 10 (bStairs3 RR) [rowsD kk jj X] = .ok (mxD F, mxD R, mxD B) e ∧ Stair n m b X F R B := by
  obtain ⟨e0, hRR⟩ := hRR
  have lX : X.length = n := h.l
  have row0 : ∃ r0, X[0]? = some r0 ∧ r0.length = m := h.at hn0
  obtain ⟨r0, hr0, hl0⟩ := row0
  have at0 : atI (X.map (rowD jj)) 0 = some (rowD jj r0) := atI_nat (j := 0) (by rw [List.getElem?_map, hr0]; rfl)
  have lc1 : mLcR [2] (mSeq (mVar 0)) (gN 2) (bnd (aCons (mVar 2) aNil) cListF) [.val (rowsD kk jj X), .no, .no, .no, .no, .no, .no, .no, .no, .no] = .ok (mxD X) [.val (rowsD kk jj X), .no, .no, .no, .no, .no, .no, .no, .no, .no] :=
    mLcR_gen X (rowD jj) (fun r => r.map D.int) (by walk_at "dl") rfl rfl (le_size (by omega)) fun r m => ⟨_, [.val (rowsD kk jj X), .no, .val (rowD jj r), .no, .no, .no, .no, .no, .no, .no], rfl, by
      cases jj <;> (walk_at "dl"; rfl), by rfl⟩
  have len1 : (mxD X).length = n := by unfold mxD; rw [List.length_map, lX]
  -- the loop
  obtain ⟨e', q1, ps, S, x6, rfl, st, sz⟩ := forL_rng0 (g := gN 6) (b := bStLoop) (m := m) (fun k e => ∃ ps S x6, e = [.val (rowsD kk jj X), .own none (rw3 S.F), .no, .own none (rw3 S.R), .own none (rw3 S.C), .val (.int (ps.length : Nat)), x6, .no, .no, .no] ∧ Stp n m X k ps S ∧ Sized (szb b ps.length) (szv b ps.length) S)
      (e := [.val (rowsD kk jj X), .own none (rw3 X), .no, .own none (rw3 (idM n)), .own none (rw3 (idM n)), .val (.int 0), .no, .no, .no, .no])
      ⟨[], ⟨X, idM n, idM n⟩, .no, rfl, ⟨ok_start h, Nat.zero_le _, fun p hp => (by cases hp), fun a b p q h1 => (by cases h1), fun t p h1 => (by cases h1), fun a _ _ c hc => absurd hc (by omega)⟩, sized_start (m := m) hb⟩ (fun k hk e he => by
    obtain ⟨ps, S, x6, rfl, st, sz⟩ := he
    have lS : (mxD S.F).length = n := by unfold mxD; rw [List.length_map, st.o.f.l]
    have hlen := stp_ps st
    by_cases ht : ps.length < n
    · rcases bring_ok (top := ps.length) hm hn hk ht st.o sz st.z (sz_room hs (by omega)) with ⟨hR, hz⟩ | ⟨T, hR, hB, hZ⟩
      · refine ⟨[.val (rowsD kk jj X), .own none (rw3 S.F), .no, .own none (rw3 S.R), .own none (rw3 S.C), .val (.int (ps.length : Nat)), .val (.int (k : Nat)), .no, .no, .no], [.val (rowsD kk jj X), .own none (rw3 S.F), .no, .own none (rw3 S.R), .own none (rw3 S.C), .val (.int (ps.length : Nat)), .val (.int (k : Nat)), .no, .no, .no], rfl, .inl ?_, ps, S, _, rfl, st.skip hz, sz⟩
        have hbr := br_eq (e := [.val (rowsD kk jj X), .own none (rw3 S.F), .no, .own none (rw3 S.R), .own none (rw3 S.C), .val (.int (ps.length : Nat)), .val (.int (k : Nat)), .no, .no, .no]) rfl rfl rfl rfl rfl hR rfl
        have c1 : ((ps.length : Int) < (n : Int)) = True := eq_true (by omega)
        clear hR hz
        unfold bStLoop
        walk_at "dl"
        rw [lS, hbr]
        simp only [c1]
        walk_at "dl"
      · refine ⟨[.val (rowsD kk jj X), .own none (rw3 S.F), .no, .own none (rw3 S.R), .own none (rw3 S.C), .val (.int (ps.length : Nat)), .val (.int (k : Nat)), .no, .no, .no], [.val (rowsD kk jj X), .own none (rw3 T.F), .no, .own none (rw3 T.R), .own none (rw3 T.C), .val (.int ((ps.length : Nat) + 1 : Int)), .val (.int (k : Nat)), .no, .no, .no], rfl, .inl ?_, ps ++ [k], T, .val (.int (k : Nat)), ?_, st.next ht hB, ?_⟩
        · have hbr := br_eq (e := [.val (rowsD kk jj X), .own none (rw3 S.F), .no, .own none (rw3 S.R), .own none (rw3 S.C), .val (.int (ps.length : Nat)), .val (.int (k : Nat)), .no, .no, .no]) rfl rfl rfl rfl rfl hR rfl
          have c1 : ((ps.length : Int) < (n : Int)) = True := eq_true (by omega)
          clear hR hB hZ
          unfold bStLoop
          walk_at "dl"
          rw [lS, hbr]
          simp only [c1]
          walk_at "dl"
        · rw [List.length_append]; rfl
        · rw [List.length_append]; exact hZ
    · refine ⟨[.val (rowsD kk jj X), .own none (rw3 S.F), .no, .own none (rw3 S.R), .own none (rw3 S.C), .val (.int (ps.length : Nat)), .val (.int (k : Nat)), .no, .no, .no], [.val (rowsD kk jj X), .own none (rw3 S.F), .no, .own none (rw3 S.R), .own none (rw3 S.C), .val (.int (ps.length : Nat)), .val (.int (k : Nat)), .no, .no, .no], rfl, .inl ?_, ps, S, _, rfl, st.skip (fun a h1 h2 => absurd h2 (by omega)), sz⟩
      have c1 : ((ps.length : Int) < (n : Int)) = False := eq_false (by omega)
      unfold bStLoop
      walk_at "dl"
      rw [lS]
      simp only [c1]
      walk_at "dl")
  have lC : (mxD S.C).length = n := by unfold mxD; rw [List.length_map, st.o.c.l]
  have lc2 : mLcR [9] (mRng1 (aCons (mLend (has 4 (onSl 4 fun d => cLen [d]))) aNil)) (gN 9) (unL (mLc [8] (mSeq (mVar 4)) (gN 8) (ret true) (mIxN 8 (mVar 9)))) [.val (rowsD kk jj X), .own none (rw3 S.F), .no, .own none (rw3 S.R), .own none (rw3 S.C), .val (.int (ps.length : Nat)), x6, .no, .no, .no] = .ok (mxD (trM n S.C)) [.val (rowsD kk jj X), .own none (rw3 S.F), .no, .own none (rw3 S.R), .val (.lst ((mxD S.C).map .lst)), .val (.int (ps.length : Nat)), x6, .no, .no, .no] := by
    have k := mLcR_two (vs := [9]) (fi := mRng1 (aCons (mLend (has 4 (onSl 4 fun d => cLen [d]))) aNil)) (g := gN 9) (el := unL (mLc [8] (mSeq (mVar 4)) (gN 8) (ret true) (mIxN 8 (mVar 9)))) (e := [.val (rowsD kk jj X), .own none (rw3 S.F), .no, .own none (rw3 S.R), .own none (rw3 S.C), .val (.int (ps.length : Nat)), x6, .no, .no, .no]) (e0 := [.val (rowsD kk jj X), .own none (rw3 S.F), .no, .own none (rw3 S.R), .own none (rw3 S.C), .val (.int (ps.length : Nat)), x6, .no, .no, .no]) (w1 := [.val (rowsD kk jj X), .own none (rw3 S.F), .no, .own none (rw3 S.R), .val (.lst ((mxD S.C).map .lst)), .val (.int (ps.length : Nat)), x6, .no, .no, .no])
      (List.range n) (fun i => .int ((i : Nat) : Int)) (fun i => (S.C.map fun r => r.getD i 0).map .int) (by
        walk_at "dl"
        rw [lC, if_pos (by unfold rOk; omega), Int.toNat_natCast]
        unfold rngD
        congr 1
        apply List.map_congr_left
        intro k _
        rw [Int.zero_add]) rfl (le_size (by rw [List.length_range]; omega)) (by intro z; have := congrArg List.length z; simp at this; omega) fun i hi w hw => by
      have hi := List.mem_range.mp hi
      have inner : ∀ x4 : Sl, (x4 = .own none (rw3 S.C) ∨ x4 = .val (.lst ((mxD S.C).map .lst))) → mLc [8] (mSeq (mVar 4)) (gN 8) (ret true) (mIxN 8 (mVar 9)) [.val (rowsD kk jj X), .own none (rw3 S.F), .no, .own none (rw3 S.R), x4, .val (.int (ps.length : Nat)), x6, .no, .no, .val (.int (i : Nat))] = .ok (.lst ((S.C.map fun r => r.getD i 0).map .int)) [.val (rowsD kk jj X), .own none (rw3 S.F), .no, .own none (rw3 S.R), .val (.lst ((mxD S.C).map .lst)), .val (.int (ps.length : Nat)), x6, .no, .no, .val (.int (i : Nat))] := by
        intro x4 hx
        have k := mLc_gen (vs := [8]) (fi := mSeq (mVar 4)) (g := gN 8) (el := mIxN 8 (mVar 9)) (e := [.val (rowsD kk jj X), .own none (rw3 S.F), .no, .own none (rw3 S.R), x4, .val (.int (ps.length : Nat)), x6, .no, .no, .val (.int (i : Nat))]) (e0 := [.val (rowsD kk jj X), .own none (rw3 S.F), .no, .own none (rw3 S.R), .val (.lst ((mxD S.C).map .lst)), .val (.int (ps.length : Nat)), x6, .no, .no, .val (.int (i : Nat))])
          S.C (fun r => .lst (r.map .int)) (fun r => .int (r.getD i 0)) (by
            rcases hx with rfl | rfl
            · walk_at "dl"
              unfold mxD; rw [List.map_map]; rfl
            · walk_at "dl"
              unfold mxD; rw [List.map_map]; rfl) rfl rfl (le_size (by rw [st.o.c.l]; omega)) fun r hr => by
          obtain ⟨a, ha, hra⟩ := List.mem_iff_getElem.mp hr
          have hl := st.o.c.w a r (by rw [List.getElem?_eq_getElem ha, hra])
          have g := atK (ns := r) (k := i) (by omega)
          refine ⟨_, [.val (rowsD kk jj X), .own none (rw3 S.F), .no, .own none (rw3 S.R), .val (.lst ((mxD S.C).map .lst)), .val (.int (ps.length : Nat)), x6, .no, .val (.lst (r.map .int)), .val (.int (i : Nat))], rfl, ?_, rfl⟩
          walk_at "dl"
          rw [g]
          walk_at "dl"
        rw [k, List.map_map]; rfl
      rcases hw with rfl | rfl
      · exact ⟨_, _, rfl, by rw [a_unL, show wipeE [.val (rowsD kk jj X), .own none (rw3 S.F), .no, .own none (rw3 S.R), .own none (rw3 S.C), .val (.int (ps.length : Nat)), x6, .no, .no, .no] [9] = [.val (rowsD kk jj X), .own none (rw3 S.F), .no, .own none (rw3 S.R), .own none (rw3 S.C), .val (.int (ps.length : Nat)), x6, .no, .no, .no] from rfl]; erw [inner _ (.inl rfl)]; rfl, rfl⟩
      · exact ⟨_, _, rfl, by rw [a_unL]; erw [inner _ (.inr rfl)]; rfl, rfl⟩
    rw [k]
    have et : mxD (trM n S.C) = (List.range n).map fun i => (S.C.map fun r => r.getD i 0).map .int := by
      unfold trM mxD
      rw [List.map_map]
      rfl
    rw [et]
    rfl
  refine ⟨S.F, S.R, trM n S.C, [.val (rowsD kk jj X), .no, .no, .no, .val (.lst ((mxD S.C).map .lst)), .val (.int (ps.length : Nat)), x6, .no, .no, .no], ?_, stair_of st sz⟩
  have cr : ∀ x3 : Sl, mCallRR (aCons (mLend (has 1 (onSl 1 fun d => cLen [d]))) aNil) RR [.val (rowsD kk jj X), .own none (.rows (mxD X)), .no, x3, .no, .no, .no, .no, .no, .no] = .ok (mxD (idM n)) [.val (rowsD kk jj X), .own none (.rows (mxD X)), .no, x3, .no, .no, .no, .no, .no, .no] := fun x3 => by
    unfold mCallRR
    rw [bnd_ok (show aCons (mLend (has 1 (onSl 1 fun d => cLen [d]))) aNil [.val (rowsD kk jj X), .own none (.rows (mxD X)), .no, x3, .no, .no, .no, .no, .no, .no] = .ok [.int n] [.val (rowsD kk jj X), .own none (.rows (mxD X)), .no, x3, .no, .no, .no, .no, .no, .no] from by
      walk_at "dl"
      rw [len1])]
    rw [hRR]
  show bStairs3 RR [.val (rowsD kk jj X), .no, .no, .no, .no, .no, .no, .no, .no, .no] = _
  unfold bStairs3
  rw [sq3_ok (e' := [.val (rowsD kk jj X), .own none (.rows (mxD X)), .no, .no, .no, .no, .no, .no, .no, .no]) (by
    walk_at "dl"
    rw [lc1]
    walk_at "dl")]
  rw [sq3_ok (e' := [.val (rowsD kk jj X), .own none (.rows (mxD X)), .no, .own none (.rows (mxD (idM n))), .no, .no, .no, .no, .no, .no]) (by
    walk_at "dl"
    rw [cr]
    walk_at "dl")]
  rw [sq3_ok (e' := [.val (rowsD kk jj X), .own none (.rows (mxD X)), .no, .own none (.rows (mxD (idM n))), .own none (.rows (mxD (idM n))), .no, .no, .no, .no, .no]) (by
    walk_at "dl"
    rw [cr]
    walk_at "dl")]
  rw [sq3_ok (e' := [.val (rowsD kk jj X), .own none (.rows (mxD X)), .no, .own none (.rows (mxD (idM n))), .own none (.rows (mxD (idM n))), .val (.int 0), .no, .no, .no, .no]) (by walk_at "dl")]
  rw [sq3_ok (e' := [.val (rowsD kk jj X), .own none (rw3 S.F), .no, .own none (rw3 S.R), .own none (rw3 S.C), .val (.int (ps.length : Nat)), x6, .no, .no, .no]) (by
    walk_at "dl"
    rw [at0]
    walk_at "dl"
    rw [hl0, if_pos (by unfold rOk; omega), Int.toNat_natCast, q1]
    walk_at "dl")]
  rw [sq3_ok (e' := [.val (rowsD kk jj X), .own none (rw3 S.F), .no, .own none (rw3 S.R), .val (.lst ((mxD S.C).map .lst)), .val (.int (ps.length : Nat)), x6, .own none (rw3 (trM n S.C)), .no, .no]) (by
    walk_at "dl"
    rw [lc2]
    walk_at "dl")]
  rfl
end DL

/-! DVc: `for row in x: row[j] = e` over own rows of whole numbers, once for all (as in DTa). -/
namespace DL
open PySem PySem.Spec PyProof.Rows L2
theorem rowG_map {n r : Nat} {fj fe : M D} {E : Sl → Sl → DEnv} (hEn : ∀ a b, (E a b)[n]? = some a) (hEr : ∀ a b, (E a b)[r]? = some b) (hsn : ∀ a b c, (E a b).set n c = E c b) (hsr : ∀ a b c, (E a b).set r c = E a c) {R : Mt} {j : Nat} {g : List Int → Int}
    (h2 : ∀ row ∈ R, j < row.length ∧ fe (E .no (.own none (.lst (row.map .int)))) = .ok (.int (g row)) (E .no (.own none (.lst (row.map .int)))) ∧ fj (E .no (.own none (.lst (row.map .int)))) = .ok (.int (j : Nat)) (E .no (.own none (.lst (row.map .int))))) :
    ∀ (k m : Nat) (b : Sl), m + k = R.length → 0 < k → rowG n r fj fe k m (E (.own none (.rows (((R.take m).map (fun row => row.set j (g row)) ++ R.drop m).map (List.map .int)))) b) = .ok .nx (E (.own none (.rows ((R.map fun row => row.set j (g row)).map (List.map .int)))) .no)
  | k + 1, m, b, h, _ => by
    have hm : m < R.length := by omega
    obtain ⟨row, hrow⟩ : ∃ row, R[m]? = some row := ⟨R[m], List.getElem?_eq_getElem hm⟩
    obtain ⟨hj, e1, e2⟩ := h2 row (List.mem_of_getElem? hrow)
    have lt : ((R.take m).map fun row => row.set j (g row)).length = m := by rw [List.length_map, List.length_take]; omega
    have hd : R.drop m = row :: R.drop (m + 1) := by
      rw [List.drop_eq_getElem_cons hm]
      congr 1
      exact (List.getElem?_eq_some_iff.mp hrow).2
    obtain ⟨P, hP⟩ : ∃ P, ((R.take m).map (fun row => row.set j (g row)) ++ R.drop m).map (List.map D.int) = P := ⟨_, rfl⟩
    have gP : P[m]? = some (row.map D.int) := by
      rw [← hP, List.getElem?_map, List.getElem?_append_right (by omega), lt, Nat.sub_self, hd]; rfl
    have sP : P.set m ((row.map D.int).set j (.int (g row))) = ((R.take (m + 1)).map (fun row => row.set j (g row)) ++ R.drop (m + 1)).map (List.map D.int) := by
      rw [← hP, hd, List.map_append, List.set_append_right _ _ (by rw [List.length_map, lt]; exact Nat.le_refl _), List.length_map, lt, Nat.sub_self, List.map_cons]
      show _ ++ ((row.map D.int).set j (.int (g row)) :: _) = _
      rw [List.take_add_one, hrow, List.map_append, List.map_append, List.map_append, List.append_assoc]
      congr 1
      show _ = (((row.set j (g row)) : List Int).map D.int :: (R.drop (m + 1)).map (List.map D.int))
      rw [List.map_set]
    rw [hP]
    have r1 : row1 n r fj fe m (E (.own none (.rows P)) b) = .ok () (E (.own none (.rows (P.set m ((row.map D.int).set j (.int (g row)))))) .no) := by
      have ra : rowsAt (E (.own none (.rows P)) b) n = some (none, P) := by unfold rowsAt; rw [hEn]
      unfold row1
      rw [ra, hEr]
      dsimp only
      rw [gP]
      dsimp only
      rw [hsn, hsr, e1]
      dsimp only
      rw [e2]
      dsimp only
      have oa : ownAt (E .no (.own none (.lst (row.map .int)))) r = some (none, row.map .int) := by unfold ownAt; rw [hEr]
      rw [oa, hEn]
      dsimp only
      have ix : ixN (row.map D.int).length ((j : Nat) : Int) = some j := by
        unfold ixN
        rw [if_pos (by omega), if_pos (by rw [List.length_map]; omega)]
        simp
      rw [ix]
      dsimp only
      rw [hsr, hsn]
    show bnd (row1 n r fj fe m) (fun _ => rowG n r fj fe k (m + 1)) _ = _
    rw [bnd_ok r1, sP]
    cases k with
    | zero =>
      show Res.ok _ _ = _
      rw [List.take_of_length_le (by omega), List.drop_eq_nil_of_le (by omega), List.append_nil]
    | succ k => exact rowG_map hEn hEr hsn hsr h2 (k + 1) (m + 1) .no (by omega) (by omega)
theorem forR_map {n r : Nat} {fj fe : M D} {E : Sl → Sl → DEnv} (hEn : ∀ a b, (E a b)[n]? = some a) (hEr : ∀ a b, (E a b)[r]? = some b) (hsn : ∀ a b c, (E a b).set n c = E c b) (hsr : ∀ a b c, (E a b).set r c = E a c) {R : Mt} {j : Nat} {g : List Int → Int} (hR : R ≠ [])
    (h2 : ∀ row ∈ R, j < row.length ∧ fe (E .no (.own none (.lst (row.map .int)))) = .ok (.int (g row)) (E .no (.own none (.lst (row.map .int)))) ∧ fj (E .no (.own none (.lst (row.map .int)))) = .ok (.int (j : Nat)) (E .no (.own none (.lst (row.map .int))))) (b : Sl) :
    mForR n r fj fe (E (.own none (.rows (R.map (List.map .int)))) b) = .ok .nx (E (.own none (.rows ((R.map fun row => row.set j (g row)).map (List.map .int)))) .no) := by
  have ra : rowsAt (E (.own none (.rows (R.map (List.map .int)))) b) n = some (none, R.map (List.map .int)) := by unfold rowsAt; rw [hEn]
  have h := rowG_map hEn hEr hsn hsr h2 R.length 0 b (by omega) (by cases R with | nil => exact absurd rfl hR | cons _ _ => simp)
  unfold mForR
  rw [ra]
  dsimp only
  rw [List.length_map]
  rw [List.take_zero, List.drop_zero] at h
  exact h
end DL

local macro_rules | `(tactic| walk_at "dl") => `(tactic| try simp -implicitDefEqProofs only [Bool.true_eq_false, DL.wipeE, DL.at0, DL.at1, DL.at2, DL.nc0, DL.nc1, DL.nc2, DL.nc3, DL.nc4, DL.nc5, not_true_eq_false, not_false_eq_true, eq_self, ne_eq,  DL.sz0, DL.sz1, DL.sz2, DL.sz3, DL.sz4, DL.sz5, DL.sz6, DL.a_listL, DL.a_listT, DL.a_tupleL, DL.a_tupleT, DL.a_sum, DL.a_isiT, DL.a_isiL, DL.a_isiS, DL.k_tt, DL.k_lt, DL.k_tl, DL.k_ll, DL.k_it, DL.k_il, DL.k_ss, DL.k_st, DL.k_ti, DL.k_li, DL.k_tb, DL.k_lb, DL.a_isE, DL.a_callE, DL.a_reok, DL.a_try, DL.a_tok, DL.a_texc, DL.a_cT, DL.a_cF, DL.a_unN, DL.a_unR, DL.a_slice, DL.a_oNone, DL.a_oSome, DL.a_dSlL, DL.a_dSlT, DL.a_ret, DL.a_stk, DL.a_bnd, DL.a_rok, DL.a_rexc, DL.a_rst, DL.a_rite, DL.a_var, DL.a_oval, DL.a_oown, DL.a_m2, DL.a_g2i, DL.a_add, DL.a_mAdd, DL.a_sub, DL.a_mul, DL.a_div, DL.a_mod, DL.a_pow, DL.a_shr, DL.a_cmp, DL.a_eq, DL.a_ne, DL.eqOk_ii, DL.deq_ii, DL.a_u1i, DL.a_mB, DL.a_truB, DL.a_truI, DL.a_truN, DL.a_truL, DL.a_truT, DL.a_bAnd, DL.a_bOr, DL.a_bNot, DL.a_vAnd, DL.a_vOr, DL.a_vNot, DL.a_if, DL.a_ite, DL.a_aNil, DL.a_aCons, DL.a_tup, DL.a_lst, DL.a_c1i, DL.a_c2i, DL.a_cIntI, DL.a_cIntB, DL.a_lenL, DL.a_lenT, DL.a_lenS, DL.a_nx, DL.a_sq, DL.a_snx, DL.a_srt, DL.a_sbk, DL.a_sct, DL.a_sexc, DL.a_sst, DL.a_site, DL.a_asg, DL.a_mRet, DL.a_drop, DL.a_aug, DL.a_oA, DL.a_gN, DL.a_gsNil, DL.a_gsCons, DL.a_gTpT, DL.a_gTpL, DL.a_asgT, DL.a_par, DL.a_again, DL.a_gnx, DL.a_gct, DL.a_gbk, DL.a_grt, DL.a_gexc, DL.a_gite, DL.a_rng1, DL.a_rng2, DL.a_raise, DL.a_call, DL.a_rsok, DL.a_rsexc, DL.a_rsst, DL.a_has, DL.a_hval, DL.a_hown, DL.a_onSl, DL.a_slD, DL.a_oDv, DL.a_oDo, DL.a_oDs, DL.a_ixN, DL.a_mIxI, DL.a_dIxL, DL.a_dIxT, DL.a_oM, DL.a_isiI, DL.a_isiB, DL.a_kM, DL.k_ii, DL.k_ib, DL.k_bi, DL.k_bb, DL.a_runF, DL.a_rFrt, DL.a_rFnx, DL.a_rFexc, DL.a_rFite, DL.envOf, List.map_cons, List.map_nil, List.length_cons, List.length_nil, List.cons_append, List.nil_append, List.getElem?_cons_zero, List.getElem?_cons_succ, List.set_cons_zero, List.set_cons_succ, List.replicate, if_true, if_false, Bool.false_eq_true, reduceIte, List.length_map, Nat.reduceAdd, Nat.reduceSub, Nat.zero_add, decide_eq_true_eq, Bool.not_eq_true', decide_eq_false_iff_not, Bool.not_true, Bool.not_false, DL.a_xStr, DL.a_dSplit, DL.a_dJoinL, DL.a_dJoinT, DL.a_dIn, DL.a_inF, DL.a_inT, DL.sgn_one, DL.a_mOwn, DL.a_mFl, DL.a_unL, DL.a_uLok, DL.a_ownAt, DL.a_oOw, DL.a_app, DL.a_aP, DL.a_kApp, DL.a_kA, DL.a_setI, DL.a_sI, DL.a_kSet, DL.a_kS, DL.a_kN, DL.a_frz1, DL.a_fZ, DL.a_rng3, DL.a_mAddS, DL.a_mAddL, DL.a_dIxS, DL.a_dSlS, DL.isN_n, DL.isN_t, DL.isN_l, DL.isN_i, DL.isN_s, DL.at3, DL.at4, DL.at5, DL.at6, DL.at7, DL.a_cStr, DL.a_cMaxL, DL.a_ext, DL.a_eP, DL.a_kExt, DL.a_kE, DL.a_sro, DL.a_gro, DL.a_rFro, DL.a_retF, DL.a_take, DL.a_oT, DL.a_callO, DL.a_rsOok, DL.a_rsOexc, DL.a_runO, DL.a_rOro, DL.a_rOexc, DL.a_lend, DL.a_lDi, DL.a_lDb, DL.a_lDn, DL.a_lDx, DL.a_shn, DL.a_shc, DL.a_sh1v, DL.a_sh1n, DL.a_sh1o, DL.a_clr, DL.a_cM, DL.a_enu, DL.a_enO, DL.a_cListFl, DL.a_cListFt, DL.a_try1, DL.a_tok1, DL.a_texc1, DL.a_cT1, DL.a_cF1, DL.a_unTok, DL.a_zipM, DL.a_itL, DL.a_itT, DL.a_zip2, DL.a_itK, DL.a_dIxK, DL.a_lenK, DL.a_tupleK, DL.a_listK, DL.a_seqN, DL.a_sqL, DL.a_sqT, DL.a_sqS, DL.a_sqK, DL.a_oownR, DL.a_rowsAt, DL.a_rA, DL.a_ownR, DL.a_setRR, DL.a_rowIx, DL.a_rIx, DL.a_kRow, DL.a_kRw, DL.a_oNt, DL.a_hid, DL.a_hD, DL.a_hE, DL.a_hN, DL.a_kSetRR, DL.a_kSr, DL.a_kSl, DL.a_kSi, DL.a_sh1r, DL.a_fZr, DL.a_forR, DL.a_fRw, DL.a_rowG0, DL.a_rowG1, DL.a_rowG2, DL.a_rowG3, DL.a_row1, DL.a_r1s, DL.a_r1o, DL.a_r1a, DL.a_r1b, DL.a_r1c, DL.a_r1e, DL.ix20, DL.ix21, DL.ix30, DL.ix31, DL.ix32, G_crystalwords_k23_whole_stairs.dv_5, G_crystalwords_k23_whole_stairs.dv_40, G_crystalwords_k23_whole_stairs.dv_80, G_crystalwords_k23_whole_stairs.dv_280, G_crystalwords_k23_whole_stairs.dv_1400, G_crystalwords_k23_whole_stairs.dv_22400, G_crystalwords_k23_whole_stairs.nz_2, G_crystalwords_k23_whole_stairs.nz_4, G_crystalwords_k23_whole_stairs.nz_5, G_crystalwords_k23_whole_stairs.nz_7, G_crystalwords_k23_whole_stairs.nz_8, G_crystalwords_k23_whole_stairs.nz_16, G_crystalwords_k23_whole_stairs.pw_10_18, G_crystalwords_k23_whole_stairs.pw_10_60, G_crystalwords_k23_whole_stairs.pw_10_9])
local macro_rules | `(tactic| walk_at "dx") => `(tactic| try simp -implicitDefEqProofs only [Bool.true_eq_false, DL.wipeE, DL.at0, DL.at1, DL.at2, DL.nc0, DL.nc1, DL.nc2, DL.nc3, DL.nc4, DL.nc5, not_true_eq_false, not_false_eq_true, eq_self, ne_eq,  DL.sz0, DL.sz1, DL.sz2, DL.sz3, DL.sz4, DL.sz5, DL.sz6, DL.a_listL, DL.a_listT, DL.a_tupleL, DL.a_tupleT, DL.a_sum, DL.a_isiT, DL.a_isiL, DL.a_isiS, DL.k_tt, DL.k_lt, DL.k_tl, DL.k_ll, DL.k_it, DL.k_il, DL.k_ss, DL.k_st, DL.k_ti, DL.k_li, DL.k_tb, DL.k_lb, DL.a_isE, DL.a_callE, DL.a_reok, DL.a_try, DL.a_tok, DL.a_texc, DL.a_cT, DL.a_cF, DL.a_unN, DL.a_unR, DL.a_slice, DL.a_oNone, DL.a_oSome, DL.a_dSlL, DL.a_dSlT, DL.a_ret, DL.a_stk, DL.a_bnd, DL.a_rok, DL.a_rexc, DL.a_rst, DL.a_rite, DL.a_var, DL.a_oval, DL.a_oown, DL.a_m2, DL.a_g2i, DL.a_add, DL.a_mAdd, DL.a_sub, DL.a_mul, DL.a_div, DL.a_mod, DL.a_pow, DL.a_shr, DL.a_cmp, DL.a_eq, DL.a_ne, DL.eqOk_ii, DL.deq_ii, DL.a_u1i, DL.a_mB, DL.a_truB, DL.a_truI, DL.a_truN, DL.a_truL, DL.a_truT, DL.a_bAnd, DL.a_bOr, DL.a_bNot, DL.a_vAnd, DL.a_vOr, DL.a_vNot, DL.a_if, DL.a_ite, DL.a_aNil, DL.a_aCons, DL.a_tup, DL.a_lst, DL.a_c1i, DL.a_c2i, DL.a_cIntI, DL.a_cIntB, DL.a_lenL, DL.a_lenT, DL.a_lenS, DL.a_nx, DL.a_sq, DL.a_snx, DL.a_srt, DL.a_sbk, DL.a_sct, DL.a_sexc, DL.a_sst, DL.a_site, DL.a_asg, DL.a_mRet, DL.a_drop, DL.a_aug, DL.a_oA, DL.a_gN, DL.a_gsNil, DL.a_gsCons, DL.a_gTpT, DL.a_gTpL, DL.a_asgT, DL.a_par, DL.a_again, DL.a_gnx, DL.a_gct, DL.a_gbk, DL.a_grt, DL.a_gexc, DL.a_gite, DL.a_rng1, DL.a_rng2, DL.a_raise, DL.a_call, DL.a_rsok, DL.a_rsexc, DL.a_rsst, DL.a_has, DL.a_hval, DL.a_hown, DL.a_onSl, DL.a_slD, DL.a_oDv, DL.a_oDo, DL.a_oDs, DL.a_ixN, DL.a_mIxI, DL.a_dIxL, DL.a_dIxT, DL.a_oM, DL.a_isiI, DL.a_isiB, DL.a_kM, DL.k_ii, DL.k_ib, DL.k_bi, DL.k_bb, DL.a_runF, DL.a_rFrt, DL.a_rFnx, DL.a_rFexc, DL.a_rFite, DL.envOf, List.map_cons, List.map_nil, List.length_cons, List.length_nil, List.cons_append, List.nil_append, List.getElem?_cons_zero, List.getElem?_cons_succ, List.set_cons_zero, List.set_cons_succ, List.replicate, if_true, if_false, Bool.false_eq_true, reduceIte, List.length_map, Nat.reduceAdd, Nat.reduceSub, Nat.zero_add, decide_eq_true_eq, Bool.not_eq_true', decide_eq_false_iff_not, Bool.not_true, Bool.not_false, DL.a_xStr, DL.a_dSplit, DL.a_dJoinL, DL.a_dJoinT, DL.a_dIn, DL.a_inF, DL.a_inT, DL.sgn_one, DL.a_mOwn, DL.a_mFl, DL.a_unL, DL.a_uLok, DL.a_ownAt, DL.a_oOw, DL.a_app, DL.a_aP, DL.a_kApp, DL.a_kA, DL.a_setI, DL.a_sI, DL.a_kSet, DL.a_kS, DL.a_kN, DL.a_frz1, DL.a_fZ, DL.a_rng3, DL.a_mAddS, DL.a_mAddL, DL.a_dIxS, DL.a_dSlS, DL.isN_n, DL.isN_t, DL.isN_l, DL.isN_i, DL.isN_s, DL.at3, DL.at4, DL.at5, DL.at6, DL.at7, DL.a_cStr, DL.a_cMaxL, DL.a_ext, DL.a_eP, DL.a_kExt, DL.a_kE, DL.a_sro, DL.a_gro, DL.a_rFro, DL.a_retF, DL.a_take, DL.a_oT, DL.a_callO, DL.a_rsOok, DL.a_rsOexc, DL.a_runO, DL.a_rOro, DL.a_rOexc, DL.a_lend, DL.a_lDi, DL.a_lDb, DL.a_lDn, DL.a_lDx, DL.a_shn, DL.a_shc, DL.a_sh1v, DL.a_sh1n, DL.a_sh1o, DL.a_clr, DL.a_cM, DL.a_enu, DL.a_enO, DL.a_cListFl, DL.a_cListFt, DL.a_try1, DL.a_tok1, DL.a_texc1, DL.a_cT1, DL.a_cF1, DL.a_unTok, DL.a_zipM, DL.a_itL, DL.a_itT, DL.a_zip2, DL.a_itK, DL.a_dIxK, DL.a_lenK, DL.a_tupleK, DL.a_listK, DL.a_seqN, DL.a_sqL, DL.a_sqT, DL.a_sqS, DL.a_sqK, DL.a_oownR, DL.a_rowsAt, DL.a_rA, DL.a_ownR, DL.a_setRR, DL.a_rowIx, DL.a_rIx, DL.a_kRow, DL.a_kRw, DL.a_oNt, DL.a_hid, DL.a_hD, DL.a_hE, DL.a_hN, DL.a_kSetRR, DL.a_kSr, DL.a_kSl, DL.a_kSi, DL.a_sh1r, DL.a_fZr, DL.a_forR, DL.a_fRw, DL.a_rowG0, DL.a_rowG1, DL.a_rowG2, DL.a_rowG3, DL.a_row1, DL.a_r1s, DL.a_r1o, DL.a_r1a, DL.a_r1b, DL.a_r1c, DL.a_r1e, DL.ix20, DL.ix21, DL.ix30, DL.ix31, DL.ix32, G_crystalwords_k23_whole_stairs.dv_5, G_crystalwords_k23_whole_stairs.dv_40, G_crystalwords_k23_whole_stairs.dv_80, G_crystalwords_k23_whole_stairs.dv_280, G_crystalwords_k23_whole_stairs.dv_1400, G_crystalwords_k23_whole_stairs.dv_22400, G_crystalwords_k23_whole_stairs.nz_2, G_crystalwords_k23_whole_stairs.nz_4, G_crystalwords_k23_whole_stairs.nz_5, G_crystalwords_k23_whole_stairs.nz_7, G_crystalwords_k23_whole_stairs.nz_8, G_crystalwords_k23_whole_stairs.nz_16, G_crystalwords_k23_whole_stairs.pw_10_18, G_crystalwords_k23_whole_stairs.pw_10_60, G_crystalwords_k23_whole_stairs.pw_10_9, and_self, *])
namespace G_crystalwords_k23_whole_stairs
open PySem PySem.Spec PyProof.Rows L2 DL
theorem szk {n : Nat} (h : n ≤ 100000) : szOk n := le_size h
theorem rngN {n : Nat} (hn : n ≤ 100000) : rOk (n : Int) := by unfold rOk; omega
theorem sl_ok {n : Nat} (h : n < 10000) : n < sizeLine := Nat.lt_of_lt_of_le h (by decide)
def cellOf (ns : List Int) (k : Int) : Int := if k < ns.length then ns.getD k.toNat 0 else 0
theorem e_cell (ns : List Int) (k : Int) (h : 0 ≤ k) : F_law_cell [iL ns, .int k] = .ok (.int (cellOf ns k)) := by
  unfold F_law_cell b_law_cell cellOf
  walk_at "dl"
  split
  · rename_i h1
    rw [atI_ints h h1]
    walk_at "dl"
  · walk_at "dl"
theorem e_int (a : Int) : F_law_int [.int a] = .ok (.bl true) := by
  unfold F_law_int b_law_int
  walk_at "dl"
def kK : Nat → Int
  | 0 => 2
  | 1 => 9
  | 2 => (10 : Int) ^ Int.toNat 9
  | 3 => (10 : Int) ^ Int.toNat 60
  | _ => 2
def kM : Nat → Int
  | 4 => 6
  | _ => 1
def bW : Nat → Nat
  | 0 => 2
  | 1 => 4
  | 2 => 30
  | 3 => 200
  | _ => 4
def numW (w : Nat) (c : Int) : Int := ((c + kK w).fmod (2 * kK w + 1) - kK w) * kM w
theorem num_b {w : Nat} (hw : w < 5) (c : Int) : (numW w c).natAbs ≤ 2 ^ bW w := by
  have e9 : (10 : Int) ^ Int.toNat 9 = 1000000000 := by decide
  have e60 : (10 : Int) ^ Int.toNat 60 = 1000000000000000000000000000000000000000000000000000000000000 := by decide
  have key : ∀ K : Int, 0 < K → -K ≤ (c + K).fmod (2 * K + 1) - K ∧ (c + K).fmod (2 * K + 1) - K ≤ K := fun K hK => by
    have := fmod_rng (a := c + K) (v := 2 * K + 1) (by omega)
    omega
  rcases (by omega : w = 0 ∨ w = 1 ∨ w = 2 ∨ w = 3 ∨ w = 4) with rfl | rfl | rfl | rfl | rfl
  · have := key 2 (by decide)
    show (((c + 2).fmod (2 * 2 + 1) - 2) * 1).natAbs ≤ 2 ^ 2
    omega
  · have := key 9 (by decide)
    show (((c + 9).fmod (2 * 9 + 1) - 9) * 1).natAbs ≤ 2 ^ 4
    omega
  · have := key ((10 : Int) ^ Int.toNat 9) (by decide)
    show (((c + (10 : Int) ^ Int.toNat 9).fmod (2 * (10 : Int) ^ Int.toNat 9 + 1) - (10 : Int) ^ Int.toNat 9) * 1).natAbs ≤ 2 ^ 30
    rw [e9] at this ⊢
    omega
  · have := key ((10 : Int) ^ Int.toNat 60) (by decide)
    show (((c + (10 : Int) ^ Int.toNat 60).fmod (2 * (10 : Int) ^ Int.toNat 60 + 1) - (10 : Int) ^ Int.toNat 60) * 1).natAbs ≤ 2 ^ 200
    rw [e60] at this ⊢
    omega
  · have := key 2 (by decide)
    show (((c + 2).fmod (2 * 2 + 1) - 2) * 6).natAbs ≤ 2 ^ 4
    omega
theorem e_number {w : Nat} (hw : w < 5) (c : Int) : F_law_number [.int c, .int (w : Nat)] = .ok (.int (numW w c)) := by
  have nb := num_b hw c
  have p9 : PowOk 10 9 := by decide
  have p60 : PowOk 10 60 := by decide
  have key : ∀ K : Int, 0 < K → K ≤ (10 : Int) ^ Int.toNat 60 → ∀ M : Int, (M = 1 ∨ M = 6) → IntMulOk ((c + K).fmod (2 * K + 1) - K) M := fun K hK hK2 M hM => by
    have := fmod_rng (a := c + K) (v := 2 * K + 1) (by omega)
    have e60 : (10 : Int) ^ Int.toNat 60 = 1000000000000000000000000000000000000000000000000000000000000 := by decide
    rw [e60] at hK2
    refine mi (m := 201) (n := 3) (ib_of (by omega)) ?_
    rcases hM with rfl | rfl <;> decide
  have z5 : szOk (0 + 1 + 1 + 1 + 1 + 1) := szk (by decide)
  have t9 : IntMulOk 2 ((10 : Int) ^ Int.toNat 9) := mi (m := 2) (n := 31) (by decide) (by decide)
  have t60 : IntMulOk 2 ((10 : Int) ^ Int.toNat 60) := mi (m := 2) (n := 201) (by decide) (by decide)
  rcases (by omega : w = 0 ∨ w = 1 ∨ w = 2 ∨ w = 3 ∨ w = 4) with rfl | rfl | rfl | rfl | rfl
  · have m1 := key 2 (by decide) (by decide) 1 (.inl rfl)
    have a1 : atI [D.int 2, .int 9, .int ((10 : Int) ^ Int.toNat 9), .int ((10 : Int) ^ Int.toNat 60), .int 2] ((0 : Nat) : Int) = some (.int 2) := rfl
    have a2 : atI [D.int 1, .int 1, .int 1, .int 1, .int 6] ((0 : Nat) : Int) = some (.int 1) := rfl
    have d : ¬ 2 * (2 : Int) + 1 = 0 := by decide
    have q2 : IntMulOk 2 2 := by decide
    have en : numW 0 c = ((c + 2).fmod (2 * 2 + 1) - 2) * 1 := rfl
    rw [en]
    clear key nb en
    unfold F_law_number b_law_number
    walk_at "dx"
  · have m1 := key 9 (by decide) (by decide) 1 (.inl rfl)
    have a1 : atI [D.int 2, .int 9, .int ((10 : Int) ^ Int.toNat 9), .int ((10 : Int) ^ Int.toNat 60), .int 2] ((1 : Nat) : Int) = some (.int 9) := rfl
    have a2 : atI [D.int 1, .int 1, .int 1, .int 1, .int 6] ((1 : Nat) : Int) = some (.int 1) := rfl
    have d : ¬ 2 * (9 : Int) + 1 = 0 := by decide
    have q2 : IntMulOk 2 9 := by decide
    have en : numW 1 c = ((c + 9).fmod (2 * 9 + 1) - 9) * 1 := rfl
    rw [en]
    clear key nb en
    unfold F_law_number b_law_number
    walk_at "dx"
  · have m1 := key ((10 : Int) ^ Int.toNat 9) (by decide) (by decide) 1 (.inl rfl)
    have a1 : atI [D.int 2, .int 9, .int ((10 : Int) ^ Int.toNat 9), .int ((10 : Int) ^ Int.toNat 60), .int 2] ((2 : Nat) : Int) = some (.int ((10 : Int) ^ Int.toNat 9)) := rfl
    have a2 : atI [D.int 1, .int 1, .int 1, .int 1, .int 6] ((2 : Nat) : Int) = some (.int 1) := rfl
    have d : ¬ 2 * ((10 : Int) ^ Int.toNat 9) + 1 = 0 := by decide
    have en : numW 2 c = ((c + (10 : Int) ^ Int.toNat 9).fmod (2 * (10 : Int) ^ Int.toNat 9 + 1) - (10 : Int) ^ Int.toNat 9) * 1 := rfl
    rw [en]
    clear key nb en
    unfold F_law_number b_law_number
    walk_at "dx"
  · have m1 := key ((10 : Int) ^ Int.toNat 60) (by decide) (by decide) 1 (.inl rfl)
    have a1 : atI [D.int 2, .int 9, .int ((10 : Int) ^ Int.toNat 9), .int ((10 : Int) ^ Int.toNat 60), .int 2] ((3 : Nat) : Int) = some (.int ((10 : Int) ^ Int.toNat 60)) := rfl
    have a2 : atI [D.int 1, .int 1, .int 1, .int 1, .int 6] ((3 : Nat) : Int) = some (.int 1) := rfl
    have d : ¬ 2 * ((10 : Int) ^ Int.toNat 60) + 1 = 0 := by decide
    have en : numW 3 c = ((c + (10 : Int) ^ Int.toNat 60).fmod (2 * (10 : Int) ^ Int.toNat 60 + 1) - (10 : Int) ^ Int.toNat 60) * 1 := rfl
    rw [en]
    clear key nb en
    unfold F_law_number b_law_number
    walk_at "dx"
  · have m1 := key 2 (by decide) (by decide) 6 (.inr rfl)
    have a1 : atI [D.int 2, .int 9, .int ((10 : Int) ^ Int.toNat 9), .int ((10 : Int) ^ Int.toNat 60), .int 2] ((4 : Nat) : Int) = some (.int 2) := rfl
    have a2 : atI [D.int 1, .int 1, .int 1, .int 1, .int 6] ((4 : Nat) : Int) = some (.int 6) := rfl
    have d : ¬ 2 * (2 : Int) + 1 = 0 := by decide
    have q2 : IntMulOk 2 2 := by decide
    have en : numW 4 c = ((c + 2).fmod (2 * 2 + 1) - 2) * 6 := rfl
    rw [en]
    clear key nb en
    unfold F_law_number b_law_number
    walk_at "dx"
end G_crystalwords_k23_whole_stairs

namespace G_crystalwords_k23_whole_stairs
open PySem PySem.Spec PyProof.Rows L2 DL
/-! the drawn rows -/
def mostW : Nat → Nat
  | 2 => 4
  | 3 => 3
  | _ => 40
def sizeB (w m n : Nat) : Bool := !(decide (0 < n) && decide (0 < m) && (decide (n = 1) || decide (n * m ≤ 62)) && decide (n ≤ mostW w)) || decide ((bW w + 3 * n + 2) * 4 ^ min n m ≤ 1000000)
theorem rows_size_b : ((List.range 5).all fun w => (List.range 13).all fun m => (List.range 41).all fun n => sizeB w m n) = true := by decide +kernel
theorem rows_size {w m n : Nat} (hw : w < 5) (hm : m < 13) (hn : n < 41) (n0 : 0 < n) (m0 : 0 < m) (h : n = 1 ∨ n * m ≤ 62) (hs : n ≤ mostW w) : (bW w + 3 * n + 2) * 4 ^ min n m ≤ 1000000 := by
  have a := List.all_eq_true.mp rows_size_b w (List.mem_range.mpr hw)
  have a := List.all_eq_true.mp a m (List.mem_range.mpr hm)
  have a := List.all_eq_true.mp a n (List.mem_range.mpr hn)
  unfold sizeB at a
  simp only [Bool.or_eq_true, Bool.not_eq_true', Bool.and_eq_false_iff, Bool.or_eq_false_iff, decide_eq_true_eq, decide_eq_false_iff_not] at a
  omega
structure RowsOk (n m b : Nat) (X : Mt) : Prop where
  shp : Shp n m X
  n0 : 0 < n
  nn : n ≤ 40
  m0 : 0 < m
  mm : m ≤ 12
  bd : ∀ i c, (rdD X i c).natAbs ≤ 2 ^ b
  bb : b ≤ 330
  sz : (b + 2) * 4 ^ min n m ≤ 1000000
def Rk (m w i : Nat) (R : Mt) : Prop := R.length = i ∧ ∀ (j : Nat) (r : List Int), R[j]? = some r → r.length = m ∧ ∀ x ∈ r, x.natAbs ≤ 2 ^ (bW w + 3 * j)
theorem ib_pow {x : Int} {m : Nat} (h : x.natAbs ≤ 2 ^ m) : ib x ≤ m + 1 := by
  refine PySem.intBits_le_iff.mpr (Nat.lt_of_le_of_lt h ?_)
  rw [Nat.pow_succ]
  have := Nat.two_pow_pos m
  omega
theorem bW_le : ∀ w < 5, bW w ≤ 200 := by decide
theorem row_c1 {ns cells : List Int} {m w i : Nat} (hw : w < 5) (hm : m ≤ 12) (hi : i < 100) (x1 x4 x6 x8 x10 : Sl) : (mLc [9] (mRng1 (aCons (mVar 2) aNil)) (gN 9) (ret true) (mCall (aCons (mCall (aCons (mVar 5) (aCons (m2 (m2 (mVar 7) (mVar 2) (g2i iMul)) (mVar 9) mAdd) aNil)) F_law_cell) (aCons (mVar 3) aNil)) F_law_number)) [.val (iL ns), x1, .val (.int (m : Nat)), .val (.int (w : Nat)), x4, .val (iL cells), x6, .val (.int (i : Nat)), x8, .no, x10, .no, .no] = .ok (iL ((List.range m).map fun (k : Nat) => numW w (cellOf cells ((i : Int) * m + k)))) [.val (iL ns), x1, .val (.int (m : Nat)), .val (.int (w : Nat)), x4, .val (iL cells), x6, .val (.int (i : Nat)), x8, .no, x10, .no, .no] := by
  have rm := rngN (n := m) (by omega)
  have mm : ((m : Nat) : Int).toNat = m := Int.toNat_natCast m
  have q : IntMulOk (i : Int) (m : Int) := mi (m := 7) (n := 4) (ib_of (by omega)) (ib_of (by omega))
  refine mLc_rng (m := m) (fun (k : Nat) => numW w (cellOf cells ((i : Int) * m + k))) ?_ rfl rfl (le_size (by omega)) fun k hk => ?_
  · walk_at "dx"
  · have im : 0 ≤ (i : Int) * m := Int.mul_nonneg (by omega) (by omega)
    have c1 := e_cell cells ((i : Int) * m + (k : Int)) (by omega)
    have c2 := e_number hw (cellOf cells ((i : Int) * m + (k : Int)))
    refine ⟨[.val (iL ns), x1, .val (.int (m : Nat)), .val (.int (w : Nat)), x4, .val (iL cells), x6, .val (.int (i : Nat)), x8, .val (.int (k : Nat)), x10, .no, .no], [.val (iL ns), x1, .val (.int (m : Nat)), .val (.int (w : Nat)), x4, .val (iL cells), x6, .val (.int (i : Nat)), x8, .val (.int (k : Nat)), x10, .no, .no], rfl, ?_, rfl⟩
    clear im
    walk_at "dx"
theorem row_c2 {ns cells : List Int} {m w i : Nat} {R : Mt} {r1 r2 : List Int} {by_ : Int} {B : Nat} (hB : B ≤ 400) (a1 : R[i - 1]? = some r1) (a2 : R[i - 2]? = some r2) (hi : 2 ≤ i) (l1 : r1.length ≤ 12) (b1 : ∀ x ∈ r1, x.natAbs ≤ 2 ^ B) (b2 : ∀ x ∈ r2, x.natAbs ≤ 2 ^ B) (hb : by_.natAbs ≤ 3) (x1 x2 x3 x4 x8 : Sl) : (mLc [11, 12] (mZipM (aCons (mIxN 6 (m2 (mVar 7) (ret (.int 1)) (g2i iSub))) (aCons (mIxN 6 (m2 (mVar 7) (ret (.int 2)) (g2i iSub))) aNil))) (gTp 2 (gsCons (gN 11) (gsCons (gN 12) gsNil))) (ret true) (m2 (m2 (ret (.int 2)) (mVar 11) (g2i iMul)) (m2 (mVar 10) (mVar 12) (g2i iMul)) mAdd)) [.val (iL ns), x1, x2, x3, x4, .val (iL cells), .own none (.lst (R.map iL)), .val (.int (i : Nat)), x8, .no, .val (.int by_), .no, .no] = .ok (iL ((r1.zip r2).map fun p => 2 * p.1 + by_ * p.2)) [.val (iL ns), x1, x2, x3, x4, .val (iL cells), .own none (.lst (R.map iL)), .val (.int (i : Nat)), x8, .no, .val (.int by_), .no, .no] := by
  have e1 : atI (R.map iL) ((i : Int) - 1) = some (iL r1) := by
    rw [show (i : Int) - 1 = ((i - 1 : Nat) : Int) by omega]
    exact atI_nat (by rw [List.getElem?_map, a1]; rfl)
  have e2 : atI (R.map iL) ((i : Int) - 2) = some (iL r2) := by
    rw [show (i : Int) - 2 = ((i - 2 : Nat) : Int) by omega]
    exact atI_nat (by rw [List.getElem?_map, a2]; rfl)
  have h := mLc_gen (vs := [11, 12]) (fi := mZipM (aCons (mIxN 6 (m2 (mVar 7) (ret (.int 1)) (g2i iSub))) (aCons (mIxN 6 (m2 (mVar 7) (ret (.int 2)) (g2i iSub))) aNil))) (g := gTp 2 (gsCons (gN 11) (gsCons (gN 12) gsNil))) (el := m2 (m2 (ret (.int 2)) (mVar 11) (g2i iMul)) (m2 (mVar 10) (mVar 12) (g2i iMul)) mAdd) (e := [.val (iL ns), x1, x2, x3, x4, .val (iL cells), .own none (.lst (R.map iL)), .val (.int (i : Nat)), x8, .no, .val (.int by_), .no, .no]) (e0 := [.val (iL ns), x1, x2, x3, x4, .val (iL cells), .own none (.lst (R.map iL)), .val (.int (i : Nat)), x8, .no, .val (.int by_), .no, .no])
    (r1.zip r2) (fun q => .tup [.int q.1, .int q.2]) (fun q => .int (2 * q.1 + by_ * q.2)) (by
      clear a1 a2 b1 b2
      walk_at "dl"
      rw [e1]
      walk_at "dl"
      rw [e2]
      walk_at "dl"
      rw [zipD_map]) rfl rfl (le_size (by rw [List.length_zip]; omega)) fun p hp => by
      obtain ⟨h1, h2⟩ := List.of_mem_zip (a := p.1) (b := p.2) hp
      have q1 : IntMulOk 2 p.1 := mi (m := 2) (n := 500) (by decide) (Nat.le_trans (ib_pow (b1 _ h1)) (by omega))
      have q2 : IntMulOk by_ p.2 := mi (m := 2) (n := 500) (ib_of (by omega)) (Nat.le_trans (ib_pow (b2 _ h2)) (by omega))
      refine ⟨[.val (iL ns), x1, x2, x3, x4, .val (iL cells), .own none (.lst (R.map iL)), .val (.int (i : Nat)), x8, .no, .val (.int by_), .val (.int p.1), .val (.int p.2)], [.val (iL ns), x1, x2, x3, x4, .val (iL cells), .own none (.lst (R.map iL)), .val (.int (i : Nat)), x8, .no, .val (.int by_), .val (.int p.1), .val (.int p.2)], rfl, ?_, rfl⟩
      clear a1 a2 b1 b2 e1 e2 h1 h2 hp
      walk_at "dx"
  rw [h]
  show Res.ok (D.lst _) _ = Res.ok (D.lst _) _
  rw [List.map_map]; rfl
theorem row_turn {ns cells : List Int} {m w i : Nat} {R : Mt} (hw : w < 5) (hm0 : 0 < m) (hm : m ≤ 12) (hi : i < 41) (hR : Rk m w i R) (x1 x4 x7 x8 x10 : Sl) : ∃ r x10', Rk m w (i + 1) (R ++ [r]) ∧ (sq (mAsg 8 (mLc [9] (mRng1 (aCons (mVar 2) aNil)) (gN 9) (ret true) (mCall (aCons (mCall (aCons (mVar 5) (aCons (m2 (m2 (mVar 7) (mVar 2) (g2i iMul)) (mVar 9) mAdd) aNil)) F_law_cell) (aCons (mVar 3) aNil)) F_law_number)))
  (sq (mIf (bAnd (bnd (m2 (mVar 7) (ret (.int 1)) (g2i (iCmp fun i j => decide (j < i)))) mB) (bnd (m2 (m2 (mIxN 8 (ret (.int 0))) (ret (.int 4)) (g2i iMod)) (ret (.int 1)) mEq) mB)) (sq (mAsg 10 (m2 (m2 (mIxN 8 (bnd (ret (.int 1)) (u1i fun i => ret (.int (-i))))) (ret (.int 7)) (g2i iMod)) (ret (.int 3)) (g2i iSub)))
  (mAsg 8 (mLc [11, 12] (mZipM (aCons (mIxN 6 (m2 (mVar 7) (ret (.int 1)) (g2i iSub))) (aCons (mIxN 6 (m2 (mVar 7) (ret (.int 2)) (g2i iSub))) aNil))) (gTp 2 (gsCons (gN 11) (gsCons (gN 12) gsNil))) (ret true) (m2 (m2 (ret (.int 2)) (mVar 11) (g2i iMul)) (m2 (mVar 10) (mVar 12) (g2i iMul)) mAdd)))) nx)
  (mApp 6 (mVar 8)))) [.val (iL ns), x1, .val (.int (m : Nat)), .val (.int (w : Nat)), x4, .val (iL cells), .own none (.lst (R.map iL)), .val (.int (i : Nat)), x8, .no, x10, .no, .no] = .ok .nx [.val (iL ns), x1, .val (.int (m : Nat)), .val (.int (w : Nat)), x4, .val (iL cells), .own none (.lst ((R ++ [r]).map iL)), .val (.int (i : Nat)), .val (iL r), .no, x10', .no, .no] := by
  have C1 := row_c1 (ns := ns) (cells := cells) hw hm (i := i) (by omega) x1 x4 (.own none (.lst (R.map iL))) x8 x10
  obtain ⟨r0, hr0⟩ : ∃ r0, ((List.range m).map fun (k : Nat) => numW w (cellOf cells ((i : Int) * m + k))) = r0 := ⟨_, rfl⟩
  have l0 : r0.length = m := by rw [← hr0, List.length_map, List.length_range]
  have b0 : ∀ x ∈ r0, x.natAbs ≤ 2 ^ bW w := fun x hx => by
    rw [← hr0] at hx
    obtain ⟨k, _, rfl⟩ := List.mem_map.mp hx
    exact num_b hw _
  rw [hr0] at C1
  clear hr0
  have snoc : ∀ r : List Int, r.length = m → (∀ x ∈ r, x.natAbs ≤ 2 ^ (bW w + 3 * i)) → Rk m w (i + 1) (R ++ [r]) := fun r h1 h2 => by
    refine ⟨by rw [List.length_append, hR.1]; rfl, fun j q hq => ?_⟩
    by_cases hj : j < i
    · rw [List.getElem?_append_left (by rw [hR.1]; exact hj)] at hq
      exact hR.2 j q hq
    · have hj2 : j < i + 1 := by
        have := (List.getElem?_eq_some_iff.mp hq).1
        rw [List.length_append, hR.1] at this; exact this
      have : j = i := by omega
      subst this
      rw [List.getElem?_append_right (by rw [hR.1]; exact Nat.le_refl _), hR.1, Nat.sub_self] at hq
      cases hq
      exact ⟨h1, h2⟩
  have sl : (R.map iL).length < sizeLine := by rw [List.length_map, hR.1]; exact sl_ok (by omega)
  have f0 : atI (r0.map D.int) 0 = some (.int (r0.getD 0 0)) := atK (k := 0) (by omega)
  have d4 : ¬ (4 : Int) = 0 := by decide
  have d7 : ¬ (7 : Int) = 0 := by decide
  have ap : ∀ r : List Int, R.map iL ++ [iL r] = (R ++ [r]).map iL := fun r => by rw [List.map_append]; rfl
  by_cases c1 : 1 < i
  · have c1' : (1 : Int) < (i : Int) := by omega
    by_cases c2 : (r0.getD 0 0).fmod 4 = 1
    · have fl : atI (r0.map D.int) (-1) = some (.int (r0.getD (m - 1) 0)) := by
        unfold atI ixN
        rw [List.length_map, l0, if_neg (by decide), if_pos (by omega)]
        show (r0.map D.int)[((-1 : Int) + (m : Int)).toNat]? = _
        rw [show ((-1 : Int) + (m : Int)).toNat = m - 1 by omega, List.getElem?_map, List.getD_eq_getElem?_getD, List.getElem?_eq_getElem (by omega)]; rfl
      obtain ⟨by_, hby⟩ : ∃ z, (r0.getD (m - 1) 0).fmod 7 - 3 = z := ⟨_, rfl⟩
      have f7 := fmod_rng (a := r0.getD (m - 1) 0) (v := 7) (by decide)
      have bb : by_.natAbs ≤ 3 := by omega
      obtain ⟨r1, h1⟩ : ∃ r1, R[i - 1]? = some r1 := ⟨R[i - 1]'(by rw [hR.1]; omega), List.getElem?_eq_getElem _⟩
      obtain ⟨r2, h2⟩ : ∃ r2, R[i - 2]? = some r2 := ⟨R[i - 2]'(by rw [hR.1]; omega), List.getElem?_eq_getElem _⟩
      obtain ⟨l1, b1⟩ := hR.2 _ _ h1
      obtain ⟨l2, b2⟩ := hR.2 _ _ h2
      have bw := bW_le w hw
      have b2' : ∀ x ∈ r2, x.natAbs ≤ 2 ^ (bW w + 3 * (i - 1)) := fun x hx => Nat.le_trans (b2 x hx) (Nat.pow_le_pow_right (by decide) (by omega))
      have C2 := row_c2 (ns := ns) (cells := cells) (m := m) (w := w) (by omega) h1 h2 (by omega) (by omega) b1 b2' bb x1 (.val (.int (m : Nat))) (.val (.int (w : Nat))) x4 (.val (iL r0))
      obtain ⟨rn, hrn⟩ : ∃ rn, ((r1.zip r2).map fun p => 2 * p.1 + by_ * p.2) = rn := ⟨_, rfl⟩
      have ln : rn.length = m := by rw [← hrn, List.length_map, List.length_zip, l1, l2, Nat.min_self]
      have bn : ∀ x ∈ rn, x.natAbs ≤ 2 ^ (bW w + 3 * i) := fun x hx => by
        rw [← hrn] at hx
        obtain ⟨p, hp, rfl⟩ := List.mem_map.mp hx
        obtain ⟨p1, p2⟩ := List.of_mem_zip (a := p.1) (b := p.2) hp
        have q1 := b1 _ p1
        have q2 := b2' _ p2
        have e : 2 ^ (bW w + 3 * i) = 8 * 2 ^ (bW w + 3 * (i - 1)) := by
          rw [show bW w + 3 * i = bW w + 3 * (i - 1) + 3 by omega, Nat.pow_add]; omega
        have m1 := Int.natAbs_add_le (2 * p.1) (by_ * p.2)
        rw [Int.natAbs_mul, Int.natAbs_mul] at m1
        have m2' : by_.natAbs * p.2.natAbs ≤ 3 * 2 ^ (bW w + 3 * (i - 1)) := Nat.mul_le_mul bb q2
        have : (2 : Int).natAbs = 2 := rfl
        rw [this] at m1
        rw [e]
        omega
      rw [hrn] at C2
      refine ⟨rn, .val (.int by_), snoc rn ln bn, ?_⟩
      rw [← ap]
      clear hrn b1 b2 b2' h1 h2 l1 l2 bn snoc b0 hR ln f7 bb bw ap
      generalize R.map iL = RL at *
      walk_at "dl"
      rw [C1]
      walk_at "dl"
      rw [if_pos c1', f0]
      walk_at "dl"
      rw [c2]
      walk_at "dl"
      rw [fl]
      walk_at "dl"
      rw [hby, C2]
      walk_at "dl"
      rw [if_pos sl]
    · refine ⟨r0, x10, snoc r0 l0 fun x hx => Nat.le_trans (b0 x hx) (Nat.pow_le_pow_right (by decide) (by omega)), ?_⟩
      rw [← ap]
      clear snoc b0 hR l0 ap
      generalize R.map iL = RL at *
      walk_at "dl"
      rw [C1]
      walk_at "dl"
      rw [if_pos c1', f0]
      walk_at "dl"
      rw [if_neg c2]
      walk_at "dl"
      rw [if_pos sl]
  · have c1' : ¬ (1 : Int) < (i : Int) := by omega
    refine ⟨r0, x10, snoc r0 l0 fun x hx => Nat.le_trans (b0 x hx) (Nat.pow_le_pow_right (by decide) (by omega)), ?_⟩
    rw [← ap]
    clear snoc b0 hR l0 ap
    generalize R.map iL = RL at *
    walk_at "dl"
    rw [C1]
    walk_at "dl"
    rw [if_neg c1']
    walk_at "dl"
    rw [if_pos sl]
end G_crystalwords_k23_whole_stairs

namespace G_crystalwords_k23_whole_stairs
open PySem PySem.Spec PyProof.Rows L2 DL
noncomputable def rowsTail : M Fl := (sq (mAsg 5 (mSlice (mVar 0) (oSome (ret (.int 1))) (oSome (m2 (ret (.int 1)) (m2 (mVar 2) (mVar 4) (g2i iMul)) mAdd))))
  (sq (mOwn 6 (mFl aNil))
  (sq (bnd (mRng1 (aCons (bnd (aCons (ret (.int 1)) (aCons (m2 (has 5 (onSl 5 fun d => cLen [d])) (mVar 2) (g2i iDiv)) aNil)) (c2i fun i j => ret (.int (if j > i then j else i)))) aNil)) (forL (gN 7) (sq (mAsg 8 (mLc [9] (mRng1 (aCons (mVar 2) aNil)) (gN 9) (ret true) (mCall (aCons (mCall (aCons (mVar 5) (aCons (m2 (m2 (mVar 7) (mVar 2) (g2i iMul)) (mVar 9) mAdd) aNil)) F_law_cell) (aCons (mVar 3) aNil)) F_law_number)))
  (sq (mIf (bAnd (bnd (m2 (mVar 7) (ret (.int 1)) (g2i (iCmp fun i j => decide (j < i)))) mB) (bnd (m2 (m2 (mIxN 8 (ret (.int 0))) (ret (.int 4)) (g2i iMod)) (ret (.int 1)) mEq) mB)) (sq (mAsg 10 (m2 (m2 (mIxN 8 (bnd (ret (.int 1)) (u1i fun i => ret (.int (-i))))) (ret (.int 7)) (g2i iMod)) (ret (.int 3)) (g2i iSub)))
  (mAsg 8 (mLc [11, 12] (mZipM (aCons (mIxN 6 (m2 (mVar 7) (ret (.int 1)) (g2i iSub))) (aCons (mIxN 6 (m2 (mVar 7) (ret (.int 2)) (g2i iSub))) aNil))) (gTp 2 (gsCons (gN 11) (gsCons (gN 12) gsNil))) (ret true) (m2 (m2 (ret (.int 2)) (mVar 11) (g2i iMul)) (m2 (mVar 10) (mVar 12) (g2i iMul)) mAdd)))) nx)
  (mApp 6 (mVar 8))))))
  (mRet (mVar 6)))))
noncomputable def rowsMid : M Fl := (sq (mAsg 2 (m2 (ret (.int 1)) (m2 (mVar 1) (ret (.int 5)) (g2i iMod)) mAdd))
  (sq (mIf (bnd (m2 (m2 (m2 (mVar 1) (ret (.int 5)) (g2i iDiv)) (ret (.int 8)) (g2i iMod)) (ret (.int 3)) mEq) mB) (mAsg 2 (m2 (ret (.int 6)) (m2 (m2 (mVar 1) (ret (.int 40)) (g2i iDiv)) (ret (.int 7)) (g2i iMod)) mAdd)) nx)
  (sq (mAsg 3 (m2 (m2 (mVar 1) (ret (.int 280)) (g2i iDiv)) (ret (.int 5)) (g2i iMod)))
  (sq (mAsg 4 (m2 (mLst (aCons (ret (.int 14)) (aCons (ret (.int 10)) (aCons (ret (.int 4)) (aCons (ret (.int 3)) (aCons (ret (.int 8)) aNil)))))) (mVar 3) mIx))
  (sq (mIf (bAnd (bnd (m2 (m2 (m2 (mVar 1) (ret (.int 1400)) (g2i iDiv)) (ret (.int 16)) (g2i iMod)) (ret (.int 5)) mEq) mB) (bnd (m2 (m2 (mVar 3) (ret (.int 4)) (g2i iMod)) (ret (.int 2)) (g2i (iCmp fun i j => decide (i < j)))) mB)) (mAsg 4 (ret (.int 40))) nx)
  rowsTail)))))
theorem cut_ints (ns : List Int) (k : Nat) : ∃ cells : List Int, DL.cutD (ns.map D.int) (some 1) (some ((1 + k : Nat) : Int)) = cells.map .int ∧ cells.length ≤ k ∧ cells.length ≤ ns.length - 1 := by
  refine ⟨(ns.drop (min 1 ns.length)).take (min (1 + k) ns.length - min 1 ns.length), ?_, ?_, ?_⟩
  · unfold DL.cutD
    rw [List.length_map, show HT.sIx ns.length 0 (some 1) = min 1 ns.length from HT.sIx_nat _ _ 1, show HT.sIx ns.length ns.length (some ((1 + k : Nat) : Int)) = min (1 + k) ns.length from HT.sIx_nat _ _ (1 + k), ← List.map_drop, ← List.map_take]
  · rw [List.length_take, List.length_drop]; omega
  · rw [List.length_take, List.length_drop]; omega
theorem rows_tail {ns : List Int} (hl : ns.length ≤ 63) {m w most : Nat} (hw : w < 5) (hm0 : 0 < m) (hm : m ≤ 12) (hs : most ≤ mostW w) (x1 : Sl) : ∃ n b X, RowsOk n m b X ∧ rF (rowsTail [.val (iL ns), x1, .val (.int (m : Nat)), .val (.int (w : Nat)), .val (.int (most : Nat)), .no, .no, .no, .no, .no, .no, .no, .no]) = .ok (rowsD true true X) := by
  have hs40 : most ≤ 40 := by
    refine Nat.le_trans hs ?_
    rcases (by omega : w = 0 ∨ w = 1 ∨ w = 2 ∨ w = 3 ∨ w = 4) with rfl | rfl | rfl | rfl | rfl <;> decide
  have one : 1 ≤ mostW w := by
    rcases (by omega : w = 0 ∨ w = 1 ∨ w = 2 ∨ w = 3 ∨ w = 4) with rfl | rfl | rfl | rfl | rfl <;> decide
  obtain ⟨cells, hc, l1, l2⟩ := cut_ints ns (m * most)
  have q : IntMulOk (m : Int) (most : Int) := mi (m := 4) (n := 6) (ib_of (by omega)) (ib_of (by omega))
  have ek : (1 : Int) + (m : Int) * (most : Int) = ((1 + m * most : Nat) : Int) := by push_cast; rfl
  obtain ⟨n, hn⟩ : ∃ n, max 1 (cells.length / m) = n := ⟨_, rfl⟩
  have n0 : 0 < n := by omega
  have cm : cells.length / m ≤ most := by
    have := Nat.div_le_div_right (c := m) l1
    rw [Nat.mul_div_cancel_left most hm0] at this; exact this
  have nm : n = 1 ∨ n * m ≤ 62 := by
    by_cases z : cells.length / m ≤ 1
    · exact .inl (by omega)
    · refine .inr ?_
      have : n = cells.length / m := by omega
      rw [this]
      exact Nat.le_trans (Nat.div_mul_le_self _ _) (by omega)
  have nw : n ≤ mostW w := by omega
  have n40 : n ≤ 40 := by omega
  have rn := rngN (n := n) (by omega)
  have nn : ((n : Nat) : Int).toNat = n := Int.toNat_natCast n
  have dv : DivOk (m : Int) := divOk_of (m := 4) (by omega) (ib_of (by omega)) (by decide)
  have ed : ((cells.length : Nat) : Int).fdiv (m : Int) = ((cells.length / m : Nat) : Int) := by rw [Int.fdiv_eq_ediv_of_nonneg _ (by omega)]; rfl
  have em : (if ((cells.length / m : Nat) : Int) > 1 then ((cells.length / m : Nat) : Int) else 1) = (n : Int) := by
    split
    · omega
    · omega
  obtain ⟨e', L, R, x7, x8, x10, rfl, hR⟩ := forL_rng0 (g := gN 7) (b := (sq (mAsg 8 (mLc [9] (mRng1 (aCons (mVar 2) aNil)) (gN 9) (ret true) (mCall (aCons (mCall (aCons (mVar 5) (aCons (m2 (m2 (mVar 7) (mVar 2) (g2i iMul)) (mVar 9) mAdd) aNil)) F_law_cell) (aCons (mVar 3) aNil)) F_law_number)))
  (sq (mIf (bAnd (bnd (m2 (mVar 7) (ret (.int 1)) (g2i (iCmp fun i j => decide (j < i)))) mB) (bnd (m2 (m2 (mIxN 8 (ret (.int 0))) (ret (.int 4)) (g2i iMod)) (ret (.int 1)) mEq) mB)) (sq (mAsg 10 (m2 (m2 (mIxN 8 (bnd (ret (.int 1)) (u1i fun i => ret (.int (-i))))) (ret (.int 7)) (g2i iMod)) (ret (.int 3)) (g2i iSub)))
  (mAsg 8 (mLc [11, 12] (mZipM (aCons (mIxN 6 (m2 (mVar 7) (ret (.int 1)) (g2i iSub))) (aCons (mIxN 6 (m2 (mVar 7) (ret (.int 2)) (g2i iSub))) aNil))) (gTp 2 (gsCons (gN 11) (gsCons (gN 12) gsNil))) (ret true) (m2 (m2 (ret (.int 2)) (mVar 11) (g2i iMul)) (m2 (mVar 10) (mVar 12) (g2i iMul)) mAdd)))) nx)
  (mApp 6 (mVar 8))))) (m := n) (fun i e => ∃ R x7 x8 x10, e = [Sl.val (iL ns), x1, .val (.int (m : Nat)), .val (.int (w : Nat)), .val (.int (most : Nat)), .val (iL cells), .own none (.lst (R.map iL)), x7, x8, .no, x10, .no, .no] ∧ Rk m w i R) (e := [Sl.val (iL ns), x1, .val (.int (m : Nat)), .val (.int (w : Nat)), .val (.int (most : Nat)), .val (iL cells), .own none (.lst (([] : Mt).map iL)), .no, .no, .no, .no, .no, .no]) ⟨[], .no, .no, .no, rfl, rfl, fun j r h => by cases h⟩ (fun i hi e he => by
    obtain ⟨R, x7, x8, x10, rfl, hR⟩ := he
    obtain ⟨r, x10', h1, h2⟩ := row_turn (ns := ns) (cells := cells) hw hm0 hm (by omega : i < 41) hR x1 (.val (.int (most : Nat))) x7 x8 x10
    exact ⟨_, _, rfl, .inl h2, R ++ [r], _, _, x10', rfl, h1⟩)
  refine ⟨n, bW w + 3 * n, R, ⟨⟨hR.1, fun i r hr => (hR.2 i r hr).1⟩, n0, n40, hm0, hm, fun i c => ?_, ?_, rows_size hw (by omega) (by omega) n0 hm0 nm nw⟩, ?_⟩
  · cases q : R[i]? with
    | none => rw [rd_out (List.getElem?_eq_none_iff.mp q)]; exact Nat.zero_le _
    | some r =>
      have hi := (List.getElem?_eq_some_iff.mp q).1
      have hl' := hR.1
      rw [rd_at q, List.getD_eq_getElem?_getD]
      cases z : r[c]? with
      | none => exact Nat.zero_le _
      | some x => exact Nat.le_trans ((hR.2 i r q).2 x (List.mem_of_getElem? z)) (Nat.pow_le_pow_right (by decide) (by omega))
  · have := bW_le w hw
    omega
  · have z0 : szOk 0 := szk (by decide)
    have L : forL (gN 7) (sq (mAsg 8 (mLc [9] (mRng1 (aCons (mVar 2) aNil)) (gN 9) (ret true) (mCall (aCons (mCall (aCons (mVar 5) (aCons (m2 (m2 (mVar 7) (mVar 2) (g2i iMul)) (mVar 9) mAdd) aNil)) F_law_cell) (aCons (mVar 3) aNil)) F_law_number)))
  (sq (mIf (bAnd (bnd (m2 (mVar 7) (ret (.int 1)) (g2i (iCmp fun i j => decide (j < i)))) mB) (bnd (m2 (m2 (mIxN 8 (ret (.int 0))) (ret (.int 4)) (g2i iMod)) (ret (.int 1)) mEq) mB)) (sq (mAsg 10 (m2 (m2 (mIxN 8 (bnd (ret (.int 1)) (u1i fun i => ret (.int (-i))))) (ret (.int 7)) (g2i iMod)) (ret (.int 3)) (g2i iSub)))
  (mAsg 8 (mLc [11, 12] (mZipM (aCons (mIxN 6 (m2 (mVar 7) (ret (.int 1)) (g2i iSub))) (aCons (mIxN 6 (m2 (mVar 7) (ret (.int 2)) (g2i iSub))) aNil))) (gTp 2 (gsCons (gN 11) (gsCons (gN 12) gsNil))) (ret true) (m2 (m2 (ret (.int 2)) (mVar 11) (g2i iMul)) (m2 (mVar 10) (mVar 12) (g2i iMul)) mAdd)))) nx)
  (mApp 6 (mVar 8)))) (rngD 0 n) [Sl.val (iL ns), x1, .val (.int (m : Nat)), .val (.int (w : Nat)), .val (.int (most : Nat)), .val (iL cells), .own none (.lst []), .no, .no, .no, .no, .no, .no] = _ := L
    clear hR nm nw n40 n0 cm hs hs40 one hm hm0 hw
    unfold rowsTail
    walk_at "dl"
    rw [if_pos q]
    walk_at "dl"
    rw [ek, hc]
    walk_at "dl"
    rw [if_pos dv]
    walk_at "dl"
    rw [ed, em]
    rw [if_pos rn]
    walk_at "dl"
    rw [nn, L]
    walk_at "dl"
    rfl
theorem mo_ok {w : Nat} (hw : w < 5) : ∃ mo : Nat, atI [D.int 14, .int 10, .int 4, .int 3, .int 8] ((w : Nat) : Int) = some (.int (mo : Nat)) ∧ mo ≤ mostW w := by
  rcases (by omega : w = 0 ∨ w = 1 ∨ w = 2 ∨ w = 3 ∨ w = 4) with rfl | rfl | rfl | rfl | rfl
  · exact ⟨14, rfl, by decide⟩
  · exact ⟨10, rfl, by decide⟩
  · exact ⟨4, rfl, by decide⟩
  · exact ⟨3, rfl, by decide⟩
  · exact ⟨8, rfl, by decide⟩
theorem rows_head {ns : List Int} (hlt : cellOf ns 0 < 1000000000000000000) : ∃ m w most : Nat, w < 5 ∧ 0 < m ∧ m ≤ 12 ∧ most ≤ mostW w ∧ ∃ x1, ∀ R : Rs, rF (rowsTail [.val (iL ns), x1, .val (.int (m : Nat)), .val (.int (w : Nat)), .val (.int (most : Nat)), .no, .no, .no, .no, .no, .no, .no, .no]) = R → F_law_rows [iL ns] = R := by
  have c0 := e_cell ns 0 (by decide)
  obtain ⟨st, hst⟩ : ∃ st, cellOf ns 0 = st := ⟨_, rfl⟩
  rw [hst] at c0 hlt
  have e18 : (10 : Int) ^ Int.toNat 18 = 1000000000000000000 := by decide
  have hlt : ¬ (10 : Int) ^ Int.toNat 18 ≤ st := by rw [e18]; omega
  have p18 : PowOk 10 18 := by decide
  have go : ∀ R : Rs, rF (rowsMid [.val (iL ns), .val (.int st), .no, .no, .no, .no, .no, .no, .no, .no, .no, .no, .no]) = R → F_law_rows [iL ns] = R := fun R hR => by
    show rF ((sq (mAsg 1 (mCall (aCons (mVar 0) (aCons (ret (.int 0)) aNil)) F_law_cell))
  (sq (mIf (bnd (m2 (mVar 1) (m2 (ret (.int 10)) (ret (.int 18)) (g2i iPow)) (g2i (iCmp fun i j => decide (j ≤ i)))) mB) (mRet (mCall (aCons (m2 (mVar 1) (m2 (ret (.int 10)) (ret (.int 18)) (g2i iPow)) (g2i iSub)) aNil) F_law_told_rows)) nx)
  rowsMid)) _) = R
    clear e18
    walk_at "dx"
  clear hst e18
  have f1 := fmod_rng (a := st) (v := 5) (by decide)
  have f2 := fmod_rng (a := st.fdiv 40) (v := 7) (by decide)
  have f3 := fmod_rng (a := st.fdiv 280) (v := 5) (by decide)
  obtain ⟨w, hw⟩ : ∃ w : Nat, (st.fdiv 280).fmod 5 = (w : Int) := ⟨((st.fdiv 280).fmod 5).toNat, by omega⟩
  obtain ⟨m1, h1⟩ : ∃ m1 : Nat, 1 + st.fmod 5 = (m1 : Int) := ⟨(1 + st.fmod 5).toNat, by omega⟩
  obtain ⟨m2', h2⟩ : ∃ m2' : Nat, 6 + (st.fdiv 40).fmod 7 = (m2' : Int) := ⟨(6 + (st.fdiv 40).fmod 7).toNat, by omega⟩
  have w5 : w < 5 := by omega
  obtain ⟨mo, hmo, lmo⟩ := mo_ok w5
  have d5 : DivOk (5 : Int) := divOk_of (m := 3) (by decide) (by decide) (by decide)
  have d40 : DivOk (40 : Int) := divOk_of (m := 6) (by decide) (by decide) (by decide)
  have d280 : DivOk (280 : Int) := divOk_of (m := 9) (by decide) (by decide) (by decide)
  have d1400 : DivOk (1400 : Int) := divOk_of (m := 11) (by decide) (by decide) (by decide)
  have n5 : ¬ (5 : Int) = 0 := by decide
  have n8 : ¬ (8 : Int) = 0 := by decide
  have n7 : ¬ (7 : Int) = 0 := by decide
  have n16 : ¬ (16 : Int) = 0 := by decide
  have n4 : ¬ (4 : Int) = 0 := by decide
  have z5 : szOk (0 + 1 + 1 + 1 + 1 + 1) := szk (by decide)
  have w4 : ((w : Nat) : Int).fmod 4 = ((w % 4 : Nat) : Int) := by rw [Int.fmod_eq_emod_of_nonneg _ (by omega)]; rfl
  have ws : w % 4 < 2 → 40 ≤ mostW w := fun h => by
    rcases (by omega : w = 0 ∨ w = 1 ∨ w = 2 ∨ w = 3 ∨ w = 4) with rfl | rfl | rfl | rfl | rfl
    · decide
    · decide
    · exact absurd h (by decide)
    · exact absurd h (by decide)
    · decide
  by_cases q1 : (st.fdiv 5).fmod 8 = 3
  · by_cases q2 : (st.fdiv 1400).fmod 16 = 5
    · by_cases q3 : w % 4 < 2
      · refine ⟨m2', w, 40, w5, by omega, by omega, ws q3, .val (.int st), fun R hR => ?_⟩
        have q3' : ((w % 4 : Nat) : Int) < 2 := by omega
        have hR : rF (rowsTail [.val (iL ns), .val (.int st), .val (.int (m2' : Nat)), .val (.int (w : Nat)), .val (.int 40), .no, .no, .no, .no, .no, .no, .no, .no]) = R := hR
        clear f1 f2 f3 ws lmo w5 q3
        refine go R ?_
        unfold rowsMid
        clear go hlt
        walk_at "dx"
      · refine ⟨m2', w, mo, w5, by omega, by omega, lmo, .val (.int st), fun R hR => ?_⟩
        have q3' : ¬ ((w % 4 : Nat) : Int) < 2 := by omega
        clear f1 f2 f3 ws lmo w5 q3
        refine go R ?_
        unfold rowsMid
        clear go hlt
        walk_at "dx"
    · refine ⟨m2', w, mo, w5, by omega, by omega, lmo, .val (.int st), fun R hR => ?_⟩
      clear f1 f2 f3 ws lmo w5
      refine go R ?_
      unfold rowsMid
      clear go hlt
      walk_at "dx"
  · by_cases q2 : (st.fdiv 1400).fmod 16 = 5
    · by_cases q3 : w % 4 < 2
      · refine ⟨m1, w, 40, w5, by omega, by omega, ws q3, .val (.int st), fun R hR => ?_⟩
        have q3' : ((w % 4 : Nat) : Int) < 2 := by omega
        have hR : rF (rowsTail [.val (iL ns), .val (.int st), .val (.int (m1 : Nat)), .val (.int (w : Nat)), .val (.int 40), .no, .no, .no, .no, .no, .no, .no, .no]) = R := hR
        clear f1 f2 f3 ws lmo w5 q3
        refine go R ?_
        unfold rowsMid
        clear go hlt
        walk_at "dx"
      · refine ⟨m1, w, mo, w5, by omega, by omega, lmo, .val (.int st), fun R hR => ?_⟩
        have q3' : ¬ ((w % 4 : Nat) : Int) < 2 := by omega
        clear f1 f2 f3 ws lmo w5 q3
        refine go R ?_
        unfold rowsMid
        clear go hlt
        walk_at "dx"
    · refine ⟨m1, w, mo, w5, by omega, by omega, lmo, .val (.int st), fun R hR => ?_⟩
      clear f1 f2 f3 ws lmo w5
      refine go R ?_
      unfold rowsMid
      clear go hlt
      walk_at "dx"

/-! rows told by one number -/
def Tk (m i : Nat) (R : Mt) : Prop := R.length = i ∧ ∀ (j : Nat) (r : List Int), R[j]? = some r → r.length = m ∧ ∀ x ∈ r, x.natAbs ≤ 2 ^ 30
theorem told_num {K : Int} (hK : K = 9 ∨ K = (10 : Int) ^ Int.toNat 9) (a : Int) : (a.fmod (2 * K + 1) - K).natAbs ≤ 2 ^ 30 := by
  have e9 : (10 : Int) ^ Int.toNat 9 = 1000000000 := by decide
  rw [e9] at hK
  have := fmod_rng (a := a) (v := 2 * K + 1) (by omega)
  omega
theorem told_row {m n : Nat} {K : Int} (hm : m ≤ 5) (hK : K = 9 ∨ K = (10 : Int) ^ Int.toNat 9) (left : Int) (x4 x5 x7 : Sl) : ∃ (r : List Int) (left' : Int) (x7' : Sl), r.length = m ∧ (∀ x ∈ r, x.natAbs ≤ 2 ^ 30) ∧ forL (gN 7) (sq (mApp 6 (m2 (m2 (mVar 0) (m2 (m2 (ret (.int 2)) (mVar 3) (g2i iMul)) (ret (.int 1)) mAdd) (g2i iMod)) (mVar 3) (g2i iSub)))
  (mAsg 0 (m2 (mVar 0) (m2 (m2 (ret (.int 2)) (mVar 3) (g2i iMul)) (ret (.int 1)) mAdd) (g2i iDiv)))) (rngD 0 m) [.val (.int left), .val (.int (m : Nat)), .val (.int (n : Nat)), .val (.int K), x4, x5, .own none (.lst []), x7] = .ok .nx [.val (.int left'), .val (.int (m : Nat)), .val (.int (n : Nat)), .val (.int K), x4, x5, .own none (.lst (r.map .int)), x7'] := by
  have e9 : (10 : Int) ^ Int.toNat 9 = 1000000000 := by decide
  have q2 : IntMulOk 2 K := by
    refine mi (m := 2) (n := 31) (by decide) ?_
    rcases hK with rfl | rfl <;> decide
  have d : ¬ 2 * K + 1 = 0 := by rw [e9] at hK; omega
  have dv : DivOk (2 * K + 1) := d
  obtain ⟨e', L, r, left', x7', rfl, h1, h2⟩ := forL_rng0 (g := gN 7) (b := (sq (mApp 6 (m2 (m2 (mVar 0) (m2 (m2 (ret (.int 2)) (mVar 3) (g2i iMul)) (ret (.int 1)) mAdd) (g2i iMod)) (mVar 3) (g2i iSub)))
  (mAsg 0 (m2 (mVar 0) (m2 (m2 (ret (.int 2)) (mVar 3) (g2i iMul)) (ret (.int 1)) mAdd) (g2i iDiv))))) (m := m) (fun i e => ∃ (r : List Int) (left' : Int) (x7' : Sl), e = [Sl.val (.int left'), .val (.int (m : Nat)), .val (.int (n : Nat)), .val (.int K), x4, x5, .own none (.lst (r.map .int)), x7'] ∧ r.length = i ∧ ∀ x ∈ r, x.natAbs ≤ 2 ^ 30) (e := [.val (.int left), .val (.int (m : Nat)), .val (.int (n : Nat)), .val (.int K), x4, x5, .own none (.lst (([] : List Int).map .int)), x7]) ⟨[], left, x7, rfl, rfl, fun x h => by cases h⟩ (fun i hi e he => by
    obtain ⟨r, left', x7', rfl, h1, h2⟩ := he
    refine ⟨[.val (.int left'), .val (.int (m : Nat)), .val (.int (n : Nat)), .val (.int K), x4, x5, .own none (.lst (r.map .int)), .val (.int (i : Nat))], [.val (.int (left'.fdiv (2 * K + 1))), .val (.int (m : Nat)), .val (.int (n : Nat)), .val (.int K), x4, x5, .own none (.lst ((r ++ [left'.fmod (2 * K + 1) - K]).map .int)), .val (.int (i : Nat))], rfl, .inl ?_, r ++ [left'.fmod (2 * K + 1) - K], _, _, rfl, by rw [List.length_append, h1]; rfl, fun x hx => ?_⟩
    · have sl : (r.map D.int).length < sizeLine := by rw [List.length_map, h1]; exact sl_ok (by omega)
      have ap : (r ++ [left'.fmod (2 * K + 1) - K]).map D.int = r.map D.int ++ [.int (left'.fmod (2 * K + 1) - K)] := by rw [List.map_append]; rfl
      rw [ap]
      generalize r.map D.int = rl at *
      clear h1 h2 hK e9 ap
      walk_at "dx"
    · rcases List.mem_append.mp hx with h | h
      · exact h2 x h
      · rw [List.mem_singleton] at h
        subst h
        exact told_num hK _)
  exact ⟨r, left', x7', h1, h2, L⟩
theorem e_told_rows (left : Int) : ∃ n m b X, RowsOk n m b X ∧ F_law_told_rows [.int left] = .ok (rowsD true true X) := by
  have f1 := fmod_rng (a := left) (v := 5) (by decide)
  have f2 := fmod_rng (a := left.fdiv 5) (v := 8) (by decide)
  have f3 := fmod_rng (a := left.fdiv 40) (v := 2) (by decide)
  obtain ⟨m, hm⟩ : ∃ m : Nat, 1 + left.fmod 5 = (m : Int) := ⟨(1 + left.fmod 5).toNat, by omega⟩
  obtain ⟨n, hn⟩ : ∃ n : Nat, 1 + (left.fdiv 5).fmod 8 = (n : Int) := ⟨(1 + (left.fdiv 5).fmod 8).toNat, by omega⟩
  have m5 : m ≤ 5 := by omega
  have m0 : 0 < m := by omega
  have n8 : n ≤ 8 := by omega
  have n0 : 0 < n := by omega
  obtain ⟨K, aK, hK⟩ : ∃ K : Int, atI [D.int 9, .int ((10 : Int) ^ Int.toNat 9)] ((left.fdiv 40).fmod 2) = some (.int K) ∧ (K = 9 ∨ K = (10 : Int) ^ Int.toNat 9) := by
    by_cases z : (left.fdiv 40).fmod 2 = 0
    · exact ⟨9, by rw [z]; rfl, .inl rfl⟩
    · exact ⟨(10 : Int) ^ Int.toNat 9, by rw [show (left.fdiv 40).fmod 2 = 1 by omega]; rfl, .inr rfl⟩
  have rm := rngN (n := m) (by omega)
  have mm : ((m : Nat) : Int).toNat = m := Int.toNat_natCast m
  have rn := rngN (n := n) (by omega)
  have nn : ((n : Nat) : Int).toNat = n := Int.toNat_natCast n
  have z0 : szOk 0 := szk (by decide)
  obtain ⟨e', L, R, left', x5, x6, x7, rfl, hR⟩ := forL_rng0 (g := gN 5) (b := (sq (mOwn 6 (mFl aNil))
  (sq (bnd (mRng1 (aCons (mVar 1) aNil)) (forL (gN 7) (sq (mApp 6 (m2 (m2 (mVar 0) (m2 (m2 (ret (.int 2)) (mVar 3) (g2i iMul)) (ret (.int 1)) mAdd) (g2i iMod)) (mVar 3) (g2i iSub)))
  (mAsg 0 (m2 (mVar 0) (m2 (m2 (ret (.int 2)) (mVar 3) (g2i iMul)) (ret (.int 1)) mAdd) (g2i iDiv))))))
  (mApp 4 (mVar 6))))) (m := n) (fun i e => ∃ (R : Mt) (left' : Int) (x5 x6 x7 : Sl), e = [Sl.val (.int left'), .val (.int (m : Nat)), .val (.int (n : Nat)), .val (.int K), .own none (.lst (R.map iL)), x5, x6, x7] ∧ Tk m i R) (e := [.val (.int (left.fdiv 80)), .val (.int (m : Nat)), .val (.int (n : Nat)), .val (.int K), .own none (.lst (([] : Mt).map iL)), .no, .no, .no]) ⟨[], left.fdiv 80, .no, .no, .no, rfl, rfl, fun j r h => by cases h⟩ (fun i hi e he => by
    obtain ⟨R, left', x5, x6, x7, rfl, hR⟩ := he
    obtain ⟨r, left2, x7', h1, h2, h3⟩ := told_row (m := m) (n := n) m5 hK left' (.own none (.lst (R.map iL))) (.val (.int (i : Nat))) x7
    refine ⟨[.val (.int left'), .val (.int (m : Nat)), .val (.int (n : Nat)), .val (.int K), .own none (.lst (R.map iL)), .val (.int (i : Nat)), x6, x7], [.val (.int left2), .val (.int (m : Nat)), .val (.int (n : Nat)), .val (.int K), .own none (.lst ((R ++ [r]).map iL)), .val (.int (i : Nat)), .val (iL r), x7'], rfl, .inl ?_, R ++ [r], _, _, _, _, rfl, by rw [List.length_append, hR.1]; rfl, fun j q hq => ?_⟩
    · have sl : (R.map iL).length < sizeLine := by rw [List.length_map, hR.1]; exact sl_ok (by omega)
      have ap : (R ++ [r]).map iL = R.map iL ++ [iL r] := by rw [List.map_append]; rfl
      rw [ap]
      generalize R.map iL = RL at *
      clear h1 h2 hK ap hR aK hm hn f1 f2 f3
      walk_at "dl"
      try rw [if_pos z0]
      walk_at "dl"
      rw [if_pos rm]
      walk_at "dl"
      rw [mm, h3]
      walk_at "dl"
      rw [if_pos sl]
      try rfl
    · by_cases hj : j < i
      · rw [List.getElem?_append_left (by rw [hR.1]; exact hj)] at hq
        exact hR.2 j q hq
      · have hj2 : j < i + 1 := by
          have := (List.getElem?_eq_some_iff.mp hq).1
          rw [List.length_append, hR.1] at this; exact this
        have : j = i := by omega
        subst this
        rw [List.getElem?_append_right (by rw [hR.1]; exact Nat.le_refl _), hR.1, Nat.sub_self] at hq
        cases hq
        exact ⟨h1, h2⟩)
  refine ⟨n, m, 30, R, ⟨⟨hR.1, fun i r hr => (hR.2 i r hr).1⟩, n0, by omega, m0, by omega, fun i c => ?_, by decide, ?_⟩, ?_⟩
  · cases q : R[i]? with
    | none => rw [rd_out (List.getElem?_eq_none_iff.mp q)]; exact Nat.zero_le _
    | some r =>
      rw [rd_at q, List.getD_eq_getElem?_getD]
      cases z : r[c]? with
      | none => exact Nat.zero_le _
      | some x => exact (hR.2 i r q).2 x (List.mem_of_getElem? z)
  · have : 4 ^ min n m ≤ 4 ^ 5 := Nat.pow_le_pow_right (by decide) (by omega)
    omega
  · have L : forL (gN 5) (sq (mOwn 6 (mFl aNil))
  (sq (bnd (mRng1 (aCons (mVar 1) aNil)) (forL (gN 7) (sq (mApp 6 (m2 (m2 (mVar 0) (m2 (m2 (ret (.int 2)) (mVar 3) (g2i iMul)) (ret (.int 1)) mAdd) (g2i iMod)) (mVar 3) (g2i iSub)))
  (mAsg 0 (m2 (mVar 0) (m2 (m2 (ret (.int 2)) (mVar 3) (g2i iMul)) (ret (.int 1)) mAdd) (g2i iDiv))))))
  (mApp 4 (mVar 6)))) (rngD 0 n) [.val (.int (left.fdiv 80)), .val (.int (m : Nat)), .val (.int (n : Nat)), .val (.int K), .own none (.lst []), .no, .no, .no] = _ := L
    have d5 : DivOk (5 : Int) := divOk_of (m := 3) (by decide) (by decide) (by decide)
    have d40 : DivOk (40 : Int) := divOk_of (m := 6) (by decide) (by decide) (by decide)
    have d80 : DivOk (80 : Int) := divOk_of (m := 9) (by decide) (by decide) (by decide)
    have n5 : ¬ (5 : Int) = 0 := by decide
    have n8' : ¬ (8 : Int) = 0 := by decide
    have n2 : ¬ (2 : Int) = 0 := by decide
    have p9 : PowOk 10 9 := by decide
    have z2 : szOk (0 + 1 + 1) := szk (by decide)
    clear hR hK f1 f2 f3 m5 m0 n8 n0
    unfold F_law_told_rows b_law_told_rows
    walk_at "dx"
    try rfl
theorem e_rows {ns : List Int} (hl : ns.length ≤ 63) : ∃ n m b X, RowsOk n m b X ∧ F_law_rows [iL ns] = .ok (rowsD true true X) := by
  by_cases hlt : cellOf ns 0 < 1000000000000000000
  · obtain ⟨m, w, most, h1, h2, h3, h4, x1, h5⟩ := rows_head (ns := ns) hlt
    obtain ⟨n, b, X, h6, h7⟩ := rows_tail hl h1 h2 h3 h4 x1
    exact ⟨n, m, b, X, h6, h5 _ h7⟩
  · have c0 := e_cell ns 0 (by decide)
    obtain ⟨st, hst⟩ : ∃ st, cellOf ns 0 = st := ⟨_, rfl⟩
    rw [hst] at c0 hlt
    have e18 : (10 : Int) ^ Int.toNat 18 = 1000000000000000000 := by decide
    have hge : (10 : Int) ^ Int.toNat 18 ≤ st := by rw [e18]; omega
    have p18 : PowOk 10 18 := by decide
    obtain ⟨n, m, b, X, h6, h7⟩ := e_told_rows (st - (10 : Int) ^ Int.toNat 18)
    refine ⟨n, m, b, X, h6, ?_⟩
    show rF ((sq (mAsg 1 (mCall (aCons (mVar 0) (aCons (ret (.int 0)) aNil)) F_law_cell))
  (sq (mIf (bnd (m2 (mVar 1) (m2 (ret (.int 10)) (ret (.int 18)) (g2i iPow)) (g2i (iCmp fun i j => decide (j ≤ i)))) mB) (mRet (mCall (aCons (m2 (mVar 1) (m2 (ret (.int 10)) (ret (.int 18)) (g2i iPow)) (g2i iSub)) aNil) F_law_told_rows)) nx)
  rowsMid)) _) = _
    clear e18 hlt h6 hst
    walk_at "dx"
end G_crystalwords_k23_whole_stairs

namespace G_crystalwords_k23_whole_stairs
open PySem PySem.Spec PyProof.Rows L2 DL
theorem rngD_cons {k : Int} {n : Nat} : rngD k (n + 1) = .int k :: rngD (k + 1) n := by
  unfold rngD
  rw [List.range_succ_eq_map, List.map_cons, List.map_map]
  congr 1
  · congr 1; omega
  · apply List.map_congr_left
    intro j _
    show D.int _ = D.int _
    congr 1
    push_cast
    omega
theorem isr_row {r : List Int} (x0 x1 x2 x3 : Sl) : ∀ (ns : List Int) (x4 : Sl), ∃ x4', forL (gN 4) (mIf (bNot (bnd (mCall (aCons (mVar 4) aNil) F_law_int) mTru)) (mRet (ret (.bl false))) nx) (ns.map .int) [x0, x1, x2, x3, x4] = .ok .nx [x0, x1, x2, x3, x4']
  | [], x4 => ⟨x4, rfl⟩
  | a :: ns, x4 => by
    obtain ⟨x4', h⟩ := isr_row (r := r) x0 x1 x2 x3 ns (.val (.int a))
    have hi := e_int a
    refine ⟨x4', ?_⟩
    rw [List.map_cons, forL_cons, ← h]
    clear h
    walk_at "dx"
theorem isr_rows {m n : Nat} (x0 : Sl) : ∀ (X : Mt) (x3 x4 : Sl), (∀ r ∈ X, r.length = m) → ∃ x3' x4', forL (gN 3) (sq (mIf (bOr (bNot (bnd (bnd (mVar 3) fun d => cIsi "list" [d]) mTru)) (bnd (m2 (has 3 (onSl 3 fun d => cLen [d])) (mVar 2) mNe) mB)) (mRet (ret (.bl false))) nx)
  (bnd (mSeq (mVar 3)) (forL (gN 4) (mIf (bNot (bnd (mCall (aCons (mVar 4) aNil) F_law_int) mTru)) (mRet (ret (.bl false))) nx)))) (X.map (rowD true)) [x0, .val (.int (n : Nat)), .val (.int (m : Nat)), x3, x4] = .ok .nx [x0, .val (.int (n : Nat)), .val (.int (m : Nat)), x3', x4']
  | [], x3, x4, _ => ⟨x3, x4, rfl⟩
  | r :: X, x3, x4, h => by
    obtain ⟨y4, h1⟩ := isr_row (r := r) x0 (.val (.int (n : Nat))) (.val (.int (m : Nat))) (.val (.lst (r.map .int))) r x4
    obtain ⟨x3', x4', h2⟩ := isr_rows x0 X (.val (.lst (r.map .int))) y4 (fun r m => h r (List.mem_cons_of_mem _ m))
    have hl : ((r.length : Nat) : Int) = (m : Nat) := by rw [h r List.mem_cons_self]
    have er : rowD true r = .lst (r.map .int) := rfl
    refine ⟨x3', x4', ?_⟩
    rw [List.map_cons, forL_cons, ← h2, er]
    clear h2 h er
    walk_at "dx"
theorem shp_len {n m : Nat} {X : Mt} (h : Shp n m X) : ∀ r ∈ X, r.length = m := fun r hr => by
  obtain ⟨i, hi, rfl⟩ := List.mem_iff_getElem.mp hr
  exact h.w i _ (List.getElem?_eq_getElem hi)
theorem e_isrows {n m : Nat} {X : Mt} (h : Shp n m X) : F_law_is_rows [rowsD true true X, .int (n : Nat), .int (m : Nat)] = .ok (.bl true) := by
  obtain ⟨x3, x4, h1⟩ := isr_rows (m := m) (n := n) (.val (rowsD true true X)) X .no .no (shp_len h)
  have hl : (((X.map (rowD true)).length : Nat) : Int) = (n : Nat) := by rw [List.length_map, h.l]
  have er : rowsD true true X = .lst (X.map (rowD true)) := rfl
  rw [er] at h1 ⊢
  generalize X.map (rowD true) = XX at *
  clear h er
  unfold F_law_is_rows b_law_is_rows
  walk_at "dx"
/-! ### products -/
def mulM (m : Nat) (A B : Mt) : Mt := A.map fun r => (List.range m).map fun c => sm r.length fun j => r.getD j 0 * rdD B j c
theorem row_rng {n m j : Nat} {B : Mt} {r : List Int} (h : Shp n m B) (hr : B[j]? = some r) : r = (List.range m).map fun c => rdD B j c := by
  have hl := h.w j r hr
  apply List.ext_getElem
  · rw [List.length_map, List.length_range, hl]
  · intro c h1 h2
    rw [List.getElem_map, List.getElem_range, rd_at hr, List.getD_eq_getElem?_getD, List.getElem?_eq_getElem h1, Option.getD_some]
theorem times_row {n m : Nat} {A B : Mt} {r : List Int} {k1 k2 k3 k4 : Bool} (hB : Shp n m B) (hn : 0 < n) (hn2 : n ≤ 100) (hm : m ≤ 100) (hr : r.length = n) (hq : ∀ x ∈ r, ∀ j c, IntMulOk x (rdD B j c)) (acc : List D) (x3 x4 x5 x6 x7 : Sl) :
    ∃ x6', forL (gN 6) (mIf (bnd (m2 (mIxN 3 (mVar 6)) (ret (.int 0)) mNe) mB) (mAsg 4 (mLc [5, 7] (mZipM (aCons (mVar 4) (aCons (mIxN 1 (mVar 6)) aNil))) (gTp 2 (gsCons (gN 5) (gsCons (gN 7) gsNil))) (ret true) (m2 (mVar 5) (m2 (mIxN 3 (mVar 6)) (mVar 7) (g2i iMul)) mAdd))) nx) (rngD 0 n) [.val (rowsD k1 k2 A), .val (rowsD k3 k4 B), .own none (.lst acc), .val (rowD k2 r), .val (iL ((List.range m).map fun c => sm 0 fun j => r.getD j 0 * rdD B j c)), .no, x6, .no] = .ok .nx [.val (rowsD k1 k2 A), .val (rowsD k3 k4 B), .own none (.lst acc), .val (rowD k2 r), .val (iL ((List.range m).map fun c => sm n fun j => r.getD j 0 * rdD B j c)), .no, x6', .no] := by
  obtain ⟨e', h1, x6', rfl⟩ := forL_rng0 (g := gN 6) (b := (mIf (bnd (m2 (mIxN 3 (mVar 6)) (ret (.int 0)) mNe) mB) (mAsg 4 (mLc [5, 7] (mZipM (aCons (mVar 4) (aCons (mIxN 1 (mVar 6)) aNil))) (gTp 2 (gsCons (gN 5) (gsCons (gN 7) gsNil))) (ret true) (m2 (mVar 5) (m2 (mIxN 3 (mVar 6)) (mVar 7) (g2i iMul)) mAdd))) nx)) (m := n) (fun k e => ∃ x6, e = [.val (rowsD k1 k2 A), .val (rowsD k3 k4 B), .own none (.lst acc), .val (rowD k2 r), .val (iL ((List.range m).map fun c => sm k fun j => r.getD j 0 * rdD B j c)), .no, x6, .no]) (e := [.val (rowsD k1 k2 A), .val (rowsD k3 k4 B), .own none (.lst acc), .val (rowD k2 r), .val (iL ((List.range m).map fun c => sm 0 fun j => r.getD j 0 * rdD B j c)), .no, x6, .no]) ⟨x6, rfl⟩ (fun k hk e he => by
    obtain ⟨x6, rfl⟩ := he
    obtain ⟨bk, hbk, lbk⟩ := hB.at hk
    have a1 : atI (r.map D.int) (k : Int) = some (.int (r.getD k 0)) := atK (by omega)
    have a2 : atI (B.map (rowD k4)) (k : Int) = some (rowD k4 bk) := atI_nat (by rw [List.getElem?_map, hbk]; rfl)
    have eb := row_rng hB hbk
    have e1 : (List.range m).map (fun c => sm (k + 1) fun j => r.getD j 0 * rdD B j c) = (List.range m).map fun c => (sm k fun j => r.getD j 0 * rdD B j c) + r.getD k 0 * rdD B k c := rfl
    by_cases hz : r.getD k 0 = 0
    · refine ⟨[.val (rowsD k1 k2 A), .val (rowsD k3 k4 B), .own none (.lst acc), .val (rowD k2 r), .val (iL ((List.range m).map fun c => sm k fun j => r.getD j 0 * rdD B j c)), .no, .val (.int (k : Nat)), .no], [.val (rowsD k1 k2 A), .val (rowsD k3 k4 B), .own none (.lst acc), .val (rowD k2 r), .val (iL ((List.range m).map fun c => sm k fun j => r.getD j 0 * rdD B j c)), .no, .val (.int (k : Nat)), .no], rfl, .inl ?_, .val (.int (k : Nat)), ?_⟩
      · clear e1 eb
        cases k2 <;> walk_at "dx"
      · rw [e1, hz]
        simp
    · have hq' : ∀ c, IntMulOk (r.getD k 0) (rdD B k c) := fun c => hq _ (by rw [List.getD_eq_getElem?_getD, List.getElem?_eq_getElem (by omega), Option.getD_some]; exact List.getElem_mem _) k c
      have C := mLc_gen (vs := [5, 7]) (fi := mZipM (aCons (mVar 4) (aCons (mIxN 1 (mVar 6)) aNil))) (g := gTp 2 (gsCons (gN 5) (gsCons (gN 7) gsNil))) (el := m2 (mVar 5) (m2 (mIxN 3 (mVar 6)) (mVar 7) (g2i iMul)) mAdd)
        (e := [.val (rowsD k1 k2 A), .val (rowsD k3 k4 B), .own none (.lst acc), .val (rowD k2 r), .val (iL ((List.range m).map fun c => sm k fun j => r.getD j 0 * rdD B j c)), .no, .val (.int (k : Nat)), .no])
        (e0 := [.val (rowsD k1 k2 A), .val (rowsD k3 k4 B), .own none (.lst acc), .val (rowD k2 r), .val (iL ((List.range m).map fun c => sm k fun j => r.getD j 0 * rdD B j c)), .no, .val (.int (k : Nat)), .no])
        (List.range m) (fun c => .tup [.int (sm k fun j => r.getD j 0 * rdD B j c), .int (rdD B k c)]) (fun c => .int ((sm k fun j => r.getD j 0 * rdD B j c) + r.getD k 0 * rdD B k c)) (by
          have ez : zipD (((List.range m).map fun c => sm k fun j => r.getD j 0 * rdD B j c).map D.int) (bk.map D.int) = (List.range m).map fun c => .tup [.int (sm k fun j => r.getD j 0 * rdD B j c), .int (rdD B k c)] := by
            rw [eb, zipD_map, List.zip_map', List.map_map]; rfl
          clear eb e1 a1
          cases k4 <;> (walk_at "dl"; rw [a2]; walk_at "dl"; rw [ez])) rfl rfl (le_size (by rw [List.length_range]; omega)) fun c hc => by
          have qc := hq' c
          refine ⟨[.val (rowsD k1 k2 A), .val (rowsD k3 k4 B), .own none (.lst acc), .val (rowD k2 r), .val (iL ((List.range m).map fun c => sm k fun j => r.getD j 0 * rdD B j c)), .val (.int (sm k fun j => r.getD j 0 * rdD B j c)), .val (.int (k : Nat)), .val (.int (rdD B k c))], [.val (rowsD k1 k2 A), .val (rowsD k3 k4 B), .own none (.lst acc), .val (rowD k2 r), .val (iL ((List.range m).map fun c => sm k fun j => r.getD j 0 * rdD B j c)), .val (.int (sm k fun j => r.getD j 0 * rdD B j c)), .val (.int (k : Nat)), .val (.int (rdD B k c))], rfl, ?_, rfl⟩
          clear e1 eb hz
          cases k2 <;> walk_at "dx"
      refine ⟨[.val (rowsD k1 k2 A), .val (rowsD k3 k4 B), .own none (.lst acc), .val (rowD k2 r), .val (iL ((List.range m).map fun c => sm k fun j => r.getD j 0 * rdD B j c)), .no, .val (.int (k : Nat)), .no], [.val (rowsD k1 k2 A), .val (rowsD k3 k4 B), .own none (.lst acc), .val (rowD k2 r), .val (iL ((List.range m).map fun c => (sm k fun j => r.getD j 0 * rdD B j c) + r.getD k 0 * rdD B k c)), .no, .val (.int (k : Nat)), .no], rfl, .inl ?_, .val (.int (k : Nat)), by rw [e1]⟩
      have eL : D.lst ((List.range m).map fun c => D.int ((sm k fun j => r.getD j 0 * rdD B j c) + r.getD k 0 * rdD B k c)) = iL ((List.range m).map fun c => (sm k fun j => r.getD j 0 * rdD B j c) + r.getD k 0 * rdD B k c) := by unfold iL; rw [List.map_map]; rfl
      rw [eL] at C
      clear e1 eb eL a2
      cases k2 <;> (walk_at "dl"; rw [a1]; walk_at "dl"; rw [if_pos hz]; erw [C]; walk_at "dl"))
  exact ⟨x6', h1⟩
end G_crystalwords_k23_whole_stairs

namespace G_crystalwords_k23_whole_stairs
open PySem PySem.Spec PyProof.Rows L2 DL
theorem mulM_shp {n m p : Nat} {A B : Mt} (hA : Shp p n A) : Shp p m (mulM m A B) := by
  refine ⟨by unfold mulM; rw [List.length_map, hA.l], fun i r hr => ?_⟩
  unfold mulM at hr
  rw [List.getElem?_map] at hr
  cases q : A[i]? with
  | none => rw [q] at hr; cases hr
  | some a => rw [q] at hr; cases hr; rw [List.length_map, List.length_range]
theorem mulM_at {n m p i c : Nat} {A B : Mt} (hA : Shp p n A) (hi : i < p) (hc : c < m) : rdD (mulM m A B) i c = sm n fun j => rdD A i j * rdD B j c := by
  obtain ⟨a, ha, la⟩ := hA.at hi
  have h : (mulM m A B)[i]? = some ((List.range m).map fun c => sm a.length fun j => a.getD j 0 * rdD B j c) := by unfold mulM; rw [List.getElem?_map, ha]; rfl
  rw [rd_at h, List.getD_eq_getElem?_getD, List.getElem?_map, List.getElem?_range hc, la]
  exact sm_congr fun j _ => by rw [rd_at ha]
theorem mt_ext {n m : Nat} {A B : Mt} (hA : Shp n m A) (hB : Shp n m B) (h : ∀ i, i < n → ∀ c, c < m → rdD A i c = rdD B i c) : A = B := by
  apply List.ext_getElem?
  intro i
  by_cases hi : i < n
  · obtain ⟨a, ha, la⟩ := hA.at hi
    obtain ⟨b, hb, lb⟩ := hB.at hi
    rw [ha, hb]
    congr 1
    apply List.ext_getElem
    · rw [la, lb]
    · intro c h1 h2
      have := h i hi c (by omega)
      rw [rd_at ha, rd_at hb, List.getD_eq_getElem?_getD, List.getD_eq_getElem?_getD, List.getElem?_eq_getElem h1, List.getElem?_eq_getElem h2] at this
      exact this
  · rw [List.getElem?_eq_none (by rw [hA.l]; omega), List.getElem?_eq_none (by rw [hB.l]; omega)]
theorem times_loop {n m : Nat} {A0 B : Mt} {k1 k2 k3 k4 : Bool} (hB : Shp n m B) (hn : 0 < n) (hn2 : n ≤ 100) (hm : m ≤ 100) : ∀ (A : Mt) (acc : List D) (x3 x4 x6 : Sl), (∀ r ∈ A, r.length = n ∧ ∀ x ∈ r, ∀ j c, IntMulOk x (rdD B j c)) → acc.length + A.length ≤ 1000 →
    ∃ x3' x4' x6', forL (gN 3) (sq (mAsg 4 (mLc [5] (mSeq (mIxN 1 (ret (.int 0)))) (gN 5) (ret true) (ret (.int 0))))
  (sq (bnd (mRng1 (aCons (has 3 (onSl 3 fun d => cLen [d])) aNil)) (forL (gN 6) (mIf (bnd (m2 (mIxN 3 (mVar 6)) (ret (.int 0)) mNe) mB) (mAsg 4 (mLc [5, 7] (mZipM (aCons (mVar 4) (aCons (mIxN 1 (mVar 6)) aNil))) (gTp 2 (gsCons (gN 5) (gsCons (gN 7) gsNil))) (ret true) (m2 (mVar 5) (m2 (mIxN 3 (mVar 6)) (mVar 7) (g2i iMul)) mAdd))) nx)))
  (mApp 2 (mVar 4)))) (A.map (rowD k2)) [.val (rowsD k1 k2 A0), .val (rowsD k3 k4 B), .own none (.lst acc), x3, x4, .no, x6, .no] = .ok .nx [.val (rowsD k1 k2 A0), .val (rowsD k3 k4 B), .own none (.lst (acc ++ (mulM m A B).map iL)), x3', x4', .no, x6', .no]
  | [], acc, x3, x4, x6, _, _ => ⟨x3, x4, x6, by
    show Res.ok Fl.nx _ = _
    unfold mulM
    rw [List.map_nil, List.map_nil, List.append_nil]⟩
  | r :: A, acc, x3, x4, x6, h, hl => by
    obtain ⟨hr, hq⟩ := h r List.mem_cons_self
    rw [List.length_cons] at hl
    obtain ⟨y6, h1⟩ := times_row (k1 := k1) (k2 := k2) (k3 := k3) (k4 := k4) (A := A0) hB hn hn2 hm hr hq acc .no .no .no x6 .no
    obtain ⟨x3', x4', x6', h2⟩ := times_loop (k1 := k1) (k2 := k2) (k3 := k3) (k4 := k4) (A0 := A0) hB hn hn2 hm A (acc ++ [iL ((List.range m).map fun c => sm n fun j => r.getD j 0 * rdD B j c)]) (.val (rowD k2 r)) (.val (iL ((List.range m).map fun c => sm n fun j => r.getD j 0 * rdD B j c))) y6 (fun r m => h r (List.mem_cons_of_mem _ m)) (by rw [List.length_append, List.length_singleton]; omega)
    obtain ⟨b0, hb0, lb0⟩ := hB.at hn
    have a1 : atI (B.map (rowD k4)) 0 = some (rowD k4 b0) := atI_nat (j := 0) (by rw [List.getElem?_map, hb0]; rfl)
    have C : (mLc [5] (mSeq (mIxN 1 (ret (.int 0)))) (gN 5) (ret true) (ret (.int 0))) [.val (rowsD k1 k2 A0), .val (rowsD k3 k4 B), .own none (.lst acc), .val (rowD k2 r), x4, .no, x6, .no] = .ok (iL ((List.range m).map fun c => sm 0 fun j => r.getD j 0 * rdD B j c)) [.val (rowsD k1 k2 A0), .val (rowsD k3 k4 B), .own none (.lst acc), .val (rowD k2 r), x4, .no, x6, .no] := by
      have k := mLc_gen (vs := [5]) (fi := mSeq (mIxN 1 (ret (.int 0)))) (g := gN 5) (el := ret (.int 0)) (e := [.val (rowsD k1 k2 A0), .val (rowsD k3 k4 B), .own none (.lst acc), .val (rowD k2 r), x4, .no, x6, .no]) (e0 := [.val (rowsD k1 k2 A0), .val (rowsD k3 k4 B), .own none (.lst acc), .val (rowD k2 r), x4, .no, x6, .no])
        b0 D.int (fun _ => .int 0) (by cases k4 <;> (walk_at "dl"; rw [a1]; walk_at "dl")) rfl rfl (le_size (by omega)) fun x hx => ⟨[.val (rowsD k1 k2 A0), .val (rowsD k3 k4 B), .own none (.lst acc), .val (rowD k2 r), x4, .val (.int x), x6, .no], [.val (rowsD k1 k2 A0), .val (rowsD k3 k4 B), .own none (.lst acc), .val (rowD k2 r), x4, .val (.int x), x6, .no], rfl, rfl, rfl⟩
      rw [k]
      have e : (b0.map fun _ => D.int 0) = ((List.range m).map fun c => sm 0 fun j => r.getD j 0 * rdD B j c).map D.int := by
        rw [List.map_map, ← lb0]
        apply List.ext_getElem
        · simp
        · intro i p1 p2; simp; rfl
      rw [e]
    have lr : (((r.map D.int).length : Nat) : Int) = (n : Nat) := by rw [List.length_map, hr]
    have lr2 : ((r.length : Nat) : Int) = (n : Nat) := by rw [hr]
    have rn := rngN (n := n) (by omega)
    have sa := sl_ok (n := acc.length) (by omega)
    have em : mulM m (r :: A) B = (List.range m).map (fun c => sm n fun j => r.getD j 0 * rdD B j c) :: mulM m A B := by
      unfold mulM; rw [List.map_cons, hr]
    refine ⟨x3', x4', x6', ?_⟩
    rw [em, List.map_cons, List.map_cons, forL_cons]
    rw [show acc ++ iL ((List.range m).map fun c => sm n fun j => r.getD j 0 * rdD B j c) :: (mulM m A B).map iL = (acc ++ [iL ((List.range m).map fun c => sm n fun j => r.getD j 0 * rdD B j c)]) ++ (mulM m A B).map iL by rw [List.append_assoc]; rfl]
    rw [← h2]
    clear h2 h hq a1 em
    generalize iL ((List.range m).map fun c => sm n fun j => r.getD j 0 * rdD B j c) = R1 at *
    generalize iL ((List.range m).map fun c => sm 0 fun j => r.getD j 0 * rdD B j c) = R0 at *
    cases k2 <;> (walk_at "dl"; erw [C]; walk_at "dl"; rw [lr2, if_pos rn, Int.toNat_natCast]; erw [h1]; walk_at "dl"; rw [if_pos sa]; walk_at "dl")
theorem e_times {p n m : Nat} {A B : Mt} {k1 k2 k3 k4 : Bool} (hA : Shp p n A) (hB : Shp n m B) (hn : 0 < n) (hp : p ≤ 100) (hn2 : n ≤ 100) (hm : m ≤ 100) (hq : ∀ i k j c, IntMulOk (rdD A i k) (rdD B j c)) : F_law_times [rowsD k1 k2 A, rowsD k3 k4 B] = .ok (rowsD true true (mulM m A B)) := by
  obtain ⟨x3, x4, x6, h1⟩ := times_loop (k1 := k1) (k2 := k2) (k3 := k3) (k4 := k4) (A0 := A) hB hn hn2 hm A [] .no .no .no (fun r hr => ⟨shp_len hA r hr, fun x hx j c => by
    obtain ⟨i, hi, rfl⟩ := List.mem_iff_getElem.mp hr
    obtain ⟨k, hk, rfl⟩ := List.mem_iff_getElem.mp hx
    have := hq i k j c
    rw [rd_at (List.getElem?_eq_getElem hi), List.getD_eq_getElem?_getD, List.getElem?_eq_getElem hk] at this
    exact this⟩) (by rw [List.length_nil, hA.l]; omega)
  have z0 : szOk 0 := szk (by decide)
  rw [List.nil_append] at h1
  have er : rowsD true true (mulM m A B) = .lst ((mulM m A B).map iL) := rfl
  rw [er]
  have h1 : forL (gN 3) (sq (mAsg 4 (mLc [5] (mSeq (mIxN 1 (ret (.int 0)))) (gN 5) (ret true) (ret (.int 0))))
  (sq (bnd (mRng1 (aCons (has 3 (onSl 3 fun d => cLen [d])) aNil)) (forL (gN 6) (mIf (bnd (m2 (mIxN 3 (mVar 6)) (ret (.int 0)) mNe) mB) (mAsg 4 (mLc [5, 7] (mZipM (aCons (mVar 4) (aCons (mIxN 1 (mVar 6)) aNil))) (gTp 2 (gsCons (gN 5) (gsCons (gN 7) gsNil))) (ret true) (m2 (mVar 5) (m2 (mIxN 3 (mVar 6)) (mVar 7) (g2i iMul)) mAdd))) nx)))
  (mApp 2 (mVar 4)))) (A.map (rowD k2)) [.val (rowsD k1 k2 A), .val (rowsD k3 k4 B), .own none (.lst []), .no, .no, .no, .no, .no] = .ok .nx [.val (rowsD k1 k2 A), .val (rowsD k3 k4 B), .own none (.lst ((mulM m A B).map iL)), x3, x4, .no, x6, .no] := h1
  clear hq er
  generalize (mulM m A B).map iL = RR at *
  unfold F_law_times b_law_times
  cases k1 <;> (walk_at "dl"; erw [h1]; walk_at "dl")
/-! ### leads -/
structure IsLead (r : List Int) (p : Nat) : Prop where
  le : p ≤ r.length
  z : ∀ j, j < p → r.getD j 0 = 0
  nz : p < r.length → r.getD p 0 ≠ 0
theorem lead_loop (r : List Int) (hl : r.length ≤ 1000) : ∀ (n k : Nat) (x1 : Sl), k + n = r.length → (∀ j, j < k → r.getD j 0 = 0) →
    (∃ x1', forL (gN 1) (mIf (bnd (m2 (mIxN 0 (mVar 1)) (ret (.int 0)) mNe) mB) (mRet (mVar 1)) nx) (rngD (k : Nat) n) [.val (rowD true r), x1] = .ok .nx [.val (rowD true r), x1'] ∧ IsLead r r.length) ∨ (∃ (p : Nat) (e' : DEnv), forL (gN 1) (mIf (bnd (m2 (mIxN 0 (mVar 1)) (ret (.int 0)) mNe) mB) (mRet (mVar 1)) nx) (rngD (k : Nat) n) [.val (rowD true r), x1] = .ok (.rt (.int (p : Nat))) e' ∧ IsLead r p)
  | 0, k, x1, hk, hz => .inl ⟨x1, rfl, Nat.le_refl _, fun j hj => hz j (by omega), fun h => absurd h (Nat.lt_irrefl _)⟩
  | n + 1, k, x1, hk, hz => by
    have a1 : atI (r.map D.int) (k : Int) = some (.int (r.getD k 0)) := atK (by omega)
    have er : rowD true r = .lst (r.map .int) := rfl
    rw [rngD_cons]
    by_cases h : r.getD k 0 = 0
    · have e1 : (((k : Nat) : Int) + 1) = ((k + 1 : Nat) : Int) := by omega
      have step : forL (gN 1) (mIf (bnd (m2 (mIxN 0 (mVar 1)) (ret (.int 0)) mNe) mB) (mRet (mVar 1)) nx) (.int (k : Nat) :: rngD (((k : Nat) : Int) + 1) n) [.val (rowD true r), x1] = forL (gN 1) (mIf (bnd (m2 (mIxN 0 (mVar 1)) (ret (.int 0)) mNe) mB) (mRet (mVar 1)) nx) (rngD ((k + 1 : Nat) : Int) n) [.val (rowD true r), .val (.int (k : Nat))] := by
        rw [forL_cons, e1, er]
        walk_at "dl"
        rw [a1]
        walk_at "dl"
        rw [if_neg (fun z => z h)]
      rcases lead_loop r hl n (k + 1) (.val (.int (k : Nat))) (by omega) (fun j hj => by
        by_cases e : j = k
        · rw [e]; exact h
        · exact hz j (by omega)) with ⟨x1', h1, h2⟩ | ⟨p, e', h1, h2⟩
      · exact .inl ⟨x1', by rw [step, h1], h2⟩
      · exact .inr ⟨p, e', by rw [step, h1], h2⟩
    · refine .inr ⟨k, [.val (rowD true r), .val (.int (k : Nat))], ?_, by omega, hz, fun _ => h⟩
      rw [forL_cons, er]
      walk_at "dl"
      rw [a1]
      walk_at "dl"
      rw [if_pos h]
theorem IsLead.uniq {r : List Int} {p q : Nat} (a : IsLead r p) (b : IsLead r q) : p = q := by
  rcases Nat.lt_trichotomy p q with h | h | h
  · exact absurd (b.z p h) (a.nz (Nat.lt_of_lt_of_le h b.le))
  · exact h
  · exact absurd (a.z q h) (b.nz (Nat.lt_of_lt_of_le h a.le))
theorem e_lead {r : List Int} {p : Nat} (hl : r.length ≤ 1000) (hp : IsLead r p) : F_law_lead [rowD true r] = .ok (.int (p : Nat)) := by
  have rn := rngN (n := r.length) (by omega)
  rcases lead_loop r hl r.length 0 .no (Nat.zero_add _) (fun j hj => absurd hj (Nat.not_lt_zero _)) with ⟨x1', h1, h2⟩ | ⟨q, e', h1, h2⟩
  · have e := hp.uniq h2
    subst e
    have h1 : forL (gN 1) (mIf (bnd (m2 (mIxN 0 (mVar 1)) (ret (.int 0)) mNe) mB) (mRet (mVar 1)) nx) (rngD 0 r.length) [.val (rowD true r), .no] = .ok .nx [.val (rowD true r), x1'] := h1
    have er : rowD true r = .lst (r.map .int) := rfl
    rw [er] at h1 ⊢
    unfold F_law_lead b_law_lead
    walk_at "dl"
    rw [if_pos rn, Int.toNat_natCast, h1]
    walk_at "dl"
  · have e := hp.uniq h2
    subst e
    have h1 : forL (gN 1) (mIf (bnd (m2 (mIxN 0 (mVar 1)) (ret (.int 0)) mNe) mB) (mRet (mVar 1)) nx) (rngD 0 r.length) [.val (rowD true r), .no] = .ok (.rt (.int (p : Nat))) e' := h1
    have er : rowD true r = .lst (r.map .int) := rfl
    rw [er] at h1 ⊢
    unfold F_law_lead b_law_lead
    walk_at "dl"
    rw [if_pos rn, Int.toNat_natCast, h1]
    walk_at "dl"
end G_crystalwords_k23_whole_stairs

namespace G_crystalwords_k23_whole_stairs
open PySem PySem.Spec PyProof.Rows L2 DL
theorem leads_is {n m i : Nat} {F : Mt} {ps : List Nat} {r : List Int} (hF : Shp n m F) (L : Leads n m ps F) (hi : i < n) (hr : F[i]? = some r) : IsLead r (ps.getD i m) := by
  have hl := hF.w i r hr
  by_cases h : i < ps.length
  · have e : ps[i]? = some (ps.getD i m) := by rw [List.getD_eq_getElem?_getD, List.getElem?_eq_getElem h]; rfl
    obtain ⟨h1, h2, _⟩ := L.lead i _ e
    have hk := L.lk _ (List.mem_of_getElem? e)
    rw [rd_at hr] at h1
    exact ⟨by omega, fun j hj => by rw [← rd_at hr]; exact h2 j hj, fun _ => by omega⟩
  · have e : ps.getD i m = m := by rw [List.getD_eq_getElem?_getD, List.getElem?_eq_none (by omega)]; rfl
    rw [e]
    exact ⟨by omega, fun j hj => by rw [← rd_at hr]; exact L.z i (by omega) hi j, fun z => absurd z (by omega)⟩
def pastI (m : Nat) (ps : List Nat) (i : Nat) : Int := if i = 0 then -1 else ((ps.getD (i - 1) m : Nat) : Int)
theorem st_inner {n m i p : Nat} {F : Mt} (hF : Shp n m F) (hi : i < n) (hp : p < m) (hn : n ≤ 100) (hm : m ≤ 100) (h : ∀ a, a < i → 0 ≤ rdD F a p ∧ rdD F a p < rdD F i p) (x1 x4 : Sl) :
    ∃ x4', forL (gN 4) (mIf (bOr (bnd (m2 (m2 (mIxN 0 (mVar 4)) (mVar 3) mIx) (ret (.int 0)) (g2i (iCmp fun i j => decide (i < j)))) mB) (bnd (m2 (m2 (mIxN 0 (mVar 4)) (mVar 3) mIx) (m2 (mIxN 0 (mVar 2)) (mVar 3) mIx) (g2i (iCmp fun i j => decide (j ≤ i)))) mB)) (mRet (ret (.bl false))) nx) (rngD 0 i) [.val (rowsD true true F), x1, .val (.int (i : Nat)), .val (.int (p : Nat)), x4, .no] = .ok .nx [.val (rowsD true true F), x1, .val (.int (i : Nat)), .val (.int (p : Nat)), x4', .no] := by
  obtain ⟨e', h1, x4', rfl⟩ := forL_rng0 (g := gN 4) (b := (mIf (bOr (bnd (m2 (m2 (mIxN 0 (mVar 4)) (mVar 3) mIx) (ret (.int 0)) (g2i (iCmp fun i j => decide (i < j)))) mB) (bnd (m2 (m2 (mIxN 0 (mVar 4)) (mVar 3) mIx) (m2 (mIxN 0 (mVar 2)) (mVar 3) mIx) (g2i (iCmp fun i j => decide (j ≤ i)))) mB)) (mRet (ret (.bl false))) nx)) (m := i) (fun k e => ∃ x4, e = [.val (rowsD true true F), x1, .val (.int (i : Nat)), .val (.int (p : Nat)), x4, .no]) (e := [.val (rowsD true true F), x1, .val (.int (i : Nat)), .val (.int (p : Nat)), x4, .no]) ⟨x4, rfl⟩ fun k hk e he => by
    obtain ⟨x4, rfl⟩ := he
    obtain ⟨rk, hrk, lrk⟩ := hF.at (i := k) (by omega)
    obtain ⟨ri, hri, lri⟩ := hF.at hi
    have a1 : atI (F.map (rowD true)) (k : Int) = some (rowD true rk) := atI_nat (by rw [List.getElem?_map, hrk]; rfl)
    have a2 : atI (F.map (rowD true)) (i : Int) = some (rowD true ri) := atI_nat (by rw [List.getElem?_map, hri]; rfl)
    have a3 : atI (rk.map D.int) (p : Int) = some (.int (rk.getD p 0)) := atK (by omega)
    have a4 : atI (ri.map D.int) (p : Int) = some (.int (ri.getD p 0)) := atK (by omega)
    obtain ⟨g1, g2⟩ := h k hk
    rw [rd_at hrk] at g1 g2
    rw [rd_at hri] at g2
    have c1 : ¬ rk.getD p 0 < 0 := by omega
    have c2 : ¬ ri.getD p 0 ≤ rk.getD p 0 := by omega
    have er : ∀ r : List Int, rowD true r = .lst (r.map .int) := fun _ => rfl
    have eR : rowsD true true F = .lst (F.map (rowD true)) := rfl
    rw [er] at a1 a2
    refine ⟨[.val (rowsD true true F), x1, .val (.int (i : Nat)), .val (.int (p : Nat)), .val (.int (k : Nat)), .no], [.val (rowsD true true F), x1, .val (.int (i : Nat)), .val (.int (p : Nat)), .val (.int (k : Nat)), .no], rfl, .inl ?_, .val (.int (k : Nat)), rfl⟩
    rw [eR]
    generalize F.map (rowD true) = FF at *
    clear g1 g2 hrk hri h er eR hF lrk lri
    walk_at "dx"
  exact ⟨x4', h1⟩
theorem st_comp {n m i : Nat} {F : Mt} {ps : List Nat} (hF : Shp n m F) (L : Leads n m ps F) (hi : i < n) (hps : ps.length ≤ i) (hn : n ≤ 100) (hm : m ≤ 100) (x1 x4 : Sl) :
    (mLc [5] (mSeq (mSlice (mVar 0) (oSome (mVar 2)) oNone)) (gN 5) (bnd (m2 (mCall (aCons (mVar 5) aNil) F_law_lead) (mVar 3) (g2i (iCmp fun i j => decide (i < j)))) mB) (mVar 5)) [.val (rowsD true true F), x1, .val (.int (i : Nat)), .val (.int (m : Nat)), x4, .no] = .ok (.lst []) [.val (rowsD true true F), x1, .val (.int (i : Nat)), .val (.int (m : Nat)), x4, .no] := by
  have ec : DL.cutD (F.map (rowD true)) (some ((i : Nat) : Int)) none = (F.drop i).map (rowD true) := by
    unfold DL.cutD
    rw [HT.sIx_nat, HT.sIx_none, List.length_map, hF.l, Nat.min_eq_left (by omega), List.take_of_length_le (by rw [List.length_drop, List.length_map, hF.l]; omega), ← List.map_drop]
  have k := mLc_filter (vs := [5]) (fi := mSeq (mSlice (mVar 0) (oSome (mVar 2)) oNone)) (g := gN 5) (tt := bnd (m2 (mCall (aCons (mVar 5) aNil) F_law_lead) (mVar 3) (g2i (iCmp fun i j => decide (i < j)))) mB) (el := mVar 5)
    (e := [.val (rowsD true true F), x1, .val (.int (i : Nat)), .val (.int (m : Nat)), x4, .no]) (e0 := [.val (rowsD true true F), x1, .val (.int (i : Nat)), .val (.int (m : Nat)), x4, .no]) (ds := (F.drop i).map (rowD true)) (fun _ => false) (fun d => d) (by
      walk_at "dl"
      rw [show ∀ e, dSlice (rowsD true true F) (some ((i : Nat) : Int)) none e = .ok (.lst (DL.cutD (F.map (rowD true)) (some ((i : Nat) : Int)) none)) e from fun _ => rfl, ec]
      rfl) rfl rfl (le_size (by rw [List.length_map, List.length_drop, hF.l]; omega)) fun d hd => by
      obtain ⟨r, hr, rfl⟩ := List.mem_map.mp hd
      obtain ⟨j, hj, rfl⟩ := List.mem_iff_getElem.mp hr
      rw [List.length_drop, hF.l] at hj
      have hr2 : F[i + j]? = some (F.drop i)[j] := by rw [← List.getElem?_drop]; exact List.getElem?_eq_getElem _
      have il := leads_is hF L (by omega) hr2
      have em : ps.getD (i + j) m = m := by rw [List.getD_eq_getElem?_getD, List.getElem?_eq_none (by omega)]; rfl
      rw [em] at il
      have hl := hF.w _ _ hr2
      have le := e_lead (by omega) il
      generalize (F.drop i)[j] = r at *
      refine ⟨[.val (rowsD true true F), x1, .val (.int (i : Nat)), .val (.int (m : Nat)), x4, .val (rowD true r)], [.val (rowsD true true F), x1, .val (.int (i : Nat)), .val (.int (m : Nat)), x4, .val (rowD true r)], rfl, ?_, fun z => (by cases z), fun _ => rfl⟩
      have c1 : decide (((m : Nat) : Int) < (m : Nat)) = false := decide_eq_false (by omega)
      clear il ec hr hr2 hd em
      walk_at "dl"
      rw [le]
      walk_at "dl"
      rw [c1]
  rw [k]
  have : List.map (fun d : D => d) (List.filter (fun _ => false) ((F.drop i).map (rowD true))) = [] := by rw [List.filter_eq_nil_iff.mpr (fun _ _ => by decide)]; rfl
  rw [this]
theorem e_stairs {n m : Nat} {F : Mt} {ps : List Nat} (hF : Shp n m F) (L : Leads n m ps F) (hn : n ≤ 100) (hm : m ≤ 100) : F_law_stairs [rowsD true true F] = .ok (.bl true) := by
  obtain ⟨e', h1, x2, x3, x4, rfl⟩ := forL_rng0 (g := gN 2) (b := (sq (mAsg 3 (mCall (aCons (mIxN 0 (mVar 2)) aNil) F_law_lead))
  (sq (mIf (bnd (m2 (mVar 3) (bnd (aCons (mIxN 0 (mVar 2)) aNil) cLen) (g2i (iCmp fun i j => decide (i < j)))) mB) (sq (mIf (bOr (bnd (m2 (mVar 3) (mVar 1) (g2i (iCmp fun i j => decide (i ≤ j)))) mB) (bnd (m2 (m2 (mIxN 0 (mVar 2)) (mVar 3) mIx) (ret (.int 1)) (g2i (iCmp fun i j => decide (i < j)))) mB)) (mRet (ret (.bl false))) nx)
  (bnd (mRng1 (aCons (mVar 2) aNil)) (forL (gN 4) (mIf (bOr (bnd (m2 (m2 (mIxN 0 (mVar 4)) (mVar 3) mIx) (ret (.int 0)) (g2i (iCmp fun i j => decide (i < j)))) mB) (bnd (m2 (m2 (mIxN 0 (mVar 4)) (mVar 3) mIx) (m2 (mIxN 0 (mVar 2)) (mVar 3) mIx) (g2i (iCmp fun i j => decide (j ≤ i)))) mB)) (mRet (ret (.bl false))) nx)))) nx)
  (sq (mAsg 1 (mVar 3))
  (mIf (bAnd (bnd (m2 (mVar 3) (bnd (aCons (mIxN 0 (mVar 2)) aNil) cLen) mEq) mB) (bnd (m2 (mLc [5] (mSeq (mSlice (mVar 0) (oSome (mVar 2)) oNone)) (gN 5) (bnd (m2 (mCall (aCons (mVar 5) aNil) F_law_lead) (mVar 3) (g2i (iCmp fun i j => decide (i < j)))) mB) (mVar 5)) (mLst aNil) mNe) mB)) (mRet (ret (.bl false))) nx))))) (m := n) (fun i e => ∃ x2 x3 x4, e = [.val (rowsD true true F), .val (.int (pastI m ps i)), x2, x3, x4, .no]) (e := [.val (rowsD true true F), .val (.int (-1)), .no, .no, .no, .no]) ⟨.no, .no, .no, rfl⟩ fun i hi e he => by
    obtain ⟨x2, x3, x4, rfl⟩ := he
    obtain ⟨r, hr, lr⟩ := hF.at hi
    have il := leads_is hF L hi hr
    have le := e_lead (by omega) il
    have a1 : atI (F.map (rowD true)) (i : Int) = some (rowD true r) := atI_nat (by rw [List.getElem?_map, hr]; rfl)
    have ep : pastI m ps (i + 1) = ((ps.getD i m : Nat) : Int) := by unfold pastI; rw [if_neg (by omega), Nat.add_sub_cancel]
    have eR : rowsD true true F = .lst (F.map (rowD true)) := rfl
    have er : rowD true r = .lst (r.map .int) := rfl
    have lr2 : ((r.length : Nat) : Int) = (m : Nat) := by rw [lr]
    by_cases h : i < ps.length
    · have e : ps[i]? = some (ps.getD i m) := by rw [List.getD_eq_getElem?_getD, List.getElem?_eq_getElem h]; rfl
      obtain ⟨g1, g2, g3⟩ := L.lead i _ e
      have hk := L.lk _ (List.mem_of_getElem? e)
      have hpast : ¬ ((ps.getD i m : Nat) : Int) ≤ pastI m ps i := by
        unfold pastI
        split
        · omega
        · have e2 : ps[i - 1]? = some (ps.getD (i - 1) m) := by rw [List.getD_eq_getElem?_getD, List.getElem?_eq_getElem (by omega)]; rfl
          have := L.inc (i - 1) i _ _ e2 e (by omega)
          omega
      rw [ep]
      generalize ps.getD i m = p at *
      obtain ⟨x4', h2⟩ := st_inner hF hi hk hn hm g3 (.val (.int (pastI m ps i))) x4
      refine ⟨[.val (rowsD true true F), .val (.int (pastI m ps i)), .val (.int (i : Nat)), x3, x4, .no], [.val (rowsD true true F), .val (.int (p : Nat)), .val (.int (i : Nat)), .val (.int (p : Nat)), x4', .no], rfl, .inl ?_, .val (.int (i : Nat)), .val (.int (p : Nat)), x4', rfl⟩
      have a2 : atI (r.map D.int) (p : Int) = some (.int (r.getD p 0)) := atK (by omega)
      rw [rd_at hr] at g1
      have c1 : ¬ r.getD p 0 < 1 := by omega
      have c2 : ((p : Nat) : Int) < (m : Nat) := by omega
      have c3 : ¬ ((p : Nat) : Int) = (m : Nat) := by omega
      have rn := rngN (n := i) (by omega)
      have tn : ((i : Nat) : Int).toNat = i := Int.toNat_natCast i
      rw [eR] at h2 ⊢
      rw [er] at a1 le
      generalize F.map (rowD true) = FF at *
      generalize pastI m ps i = pi at *
      clear il g1 g2 g3 hr eR er e ep L hF hi h
      walk_at "dx"
    · have em : ps.getD i m = m := by rw [List.getD_eq_getElem?_getD, List.getElem?_eq_none (by omega)]; rfl
      have C := st_comp hF L hi (by omega) hn hm (.val (.int (m : Nat))) x4
      rw [ep]
      rw [em] at le ⊢
      refine ⟨[.val (rowsD true true F), .val (.int (pastI m ps i)), .val (.int (i : Nat)), x3, x4, .no], [.val (rowsD true true F), .val (.int (m : Nat)), .val (.int (i : Nat)), .val (.int (m : Nat)), x4, .no], rfl, .inl ?_, .val (.int (i : Nat)), .val (.int (m : Nat)), x4, rfl⟩
      have c1 : ¬ ((m : Nat) : Int) < (m : Nat) := by omega
      have q1 : eqOk (.lst []) (.lst []) = true := by decide +kernel
      have q2 : deq (.lst []) (.lst []) = true := by decide +kernel
      have z0 : szOk 0 := szk (by decide)
      rw [eR] at C ⊢
      rw [er] at a1 le
      generalize F.map (rowD true) = FF at *
      generalize pastI m ps i = pi at *
      clear il hr eR er ep L hF hi h em
      walk_at "dx"
  have rn := rngN (n := n) (by omega)
  have eR : rowsD true true F = .lst (F.map (rowD true)) := rfl
  have lF : (((F.map (rowD true)).length : Nat) : Int) = (n : Nat) := by rw [List.length_map, hF.l]
  have tn : ((n : Nat) : Int).toNat = n := Int.toNat_natCast n
  rw [eR] at h1 ⊢
  generalize F.map (rowD true) = FF at *
  generalize pastI m ps n = pi at *
  clear eR L hF
  unfold F_law_stairs b_law_stairs
  walk_at "dx"
end G_crystalwords_k23_whole_stairs

local macro_rules | `(tactic| walk_at "dl") => `(tactic| try simp -implicitDefEqProofs only [Bool.true_eq_false, DL.wipeE, DL.at0, DL.at1, DL.at2, DL.nc0, DL.nc1, DL.nc2, DL.nc3, DL.nc4, DL.nc5, not_true_eq_false, not_false_eq_true, eq_self, ne_eq,  DL.sz0, DL.sz1, DL.sz2, DL.sz3, DL.sz4, DL.sz5, DL.sz6, DL.a_listL, DL.a_listT, DL.a_tupleL, DL.a_tupleT, DL.a_sum, DL.a_isiT, DL.a_isiL, DL.a_isiS, DL.k_tt, DL.k_lt, DL.k_tl, DL.k_ll, DL.k_it, DL.k_il, DL.k_ss, DL.k_st, DL.k_ti, DL.k_li, DL.k_tb, DL.k_lb, DL.a_isE, DL.a_callE, DL.a_reok, DL.a_try, DL.a_tok, DL.a_texc, DL.a_cT, DL.a_cF, DL.a_unN, DL.a_unR, DL.a_slice, DL.a_oNone, DL.a_oSome, DL.a_dSlL, DL.a_dSlT, DL.a_ret, DL.a_stk, DL.a_bnd, DL.a_rok, DL.a_rexc, DL.a_rst, DL.a_rite, DL.a_var, DL.a_oval, DL.a_oown, DL.a_m2, DL.a_g2i, DL.a_add, DL.a_mAdd, DL.a_sub, DL.a_mul, DL.a_div, DL.a_mod, DL.a_pow, DL.a_shr, DL.a_cmp, DL.a_eq, DL.a_ne, DL.eqOk_ii, DL.deq_ii, DL.a_u1i, DL.a_mB, DL.a_truB, DL.a_truI, DL.a_truN, DL.a_truL, DL.a_truT, DL.a_bAnd, DL.a_bOr, DL.a_bNot, DL.a_vAnd, DL.a_vOr, DL.a_vNot, DL.a_if, DL.a_ite, DL.a_aNil, DL.a_aCons, DL.a_tup, DL.a_lst, DL.a_c1i, DL.a_c2i, DL.a_cIntI, DL.a_cIntB, DL.a_lenL, DL.a_lenT, DL.a_lenS, DL.a_nx, DL.a_sq, DL.a_snx, DL.a_srt, DL.a_sbk, DL.a_sct, DL.a_sexc, DL.a_sst, DL.a_site, DL.a_asg, DL.a_mRet, DL.a_drop, DL.a_aug, DL.a_oA, DL.a_gN, DL.a_gsNil, DL.a_gsCons, DL.a_gTpT, DL.a_gTpL, DL.a_asgT, DL.a_par, DL.a_again, DL.a_gnx, DL.a_gct, DL.a_gbk, DL.a_grt, DL.a_gexc, DL.a_gite, DL.a_rng1, DL.a_rng2, DL.a_raise, DL.a_call, DL.a_rsok, DL.a_rsexc, DL.a_rsst, DL.a_has, DL.a_hval, DL.a_hown, DL.a_onSl, DL.a_slD, DL.a_oDv, DL.a_oDo, DL.a_oDs, DL.a_ixN, DL.a_mIxI, DL.a_dIxL, DL.a_dIxT, DL.a_oM, DL.a_isiI, DL.a_isiB, DL.a_kM, DL.k_ii, DL.k_ib, DL.k_bi, DL.k_bb, DL.a_runF, DL.a_rFrt, DL.a_rFnx, DL.a_rFexc, DL.a_rFite, DL.envOf, List.map_cons, List.map_nil, List.length_cons, List.length_nil, List.cons_append, List.nil_append, List.getElem?_cons_zero, List.getElem?_cons_succ, List.set_cons_zero, List.set_cons_succ, List.replicate, if_true, if_false, Bool.false_eq_true, reduceIte, List.length_map, Nat.reduceAdd, Nat.reduceSub, Nat.zero_add, decide_eq_true_eq, Bool.not_eq_true', decide_eq_false_iff_not, Bool.not_true, Bool.not_false, DL.a_xStr, DL.a_dSplit, DL.a_dJoinL, DL.a_dJoinT, DL.a_dIn, DL.a_inF, DL.a_inT, DL.sgn_one, DL.a_mOwn, DL.a_mFl, DL.a_unL, DL.a_uLok, DL.a_ownAt, DL.a_oOw, DL.a_app, DL.a_aP, DL.a_kApp, DL.a_kA, DL.a_setI, DL.a_sI, DL.a_kSet, DL.a_kS, DL.a_kN, DL.a_frz1, DL.a_fZ, DL.a_rng3, DL.a_mAddS, DL.a_mAddL, DL.a_dIxS, DL.a_dSlS, DL.isN_n, DL.isN_t, DL.isN_l, DL.isN_i, DL.isN_s, DL.at3, DL.at4, DL.at5, DL.at6, DL.at7, DL.a_cStr, DL.a_cMaxL, DL.a_ext, DL.a_eP, DL.a_kExt, DL.a_kE, DL.a_sro, DL.a_gro, DL.a_rFro, DL.a_retF, DL.a_take, DL.a_oT, DL.a_callO, DL.a_rsOok, DL.a_rsOexc, DL.a_runO, DL.a_rOro, DL.a_rOexc, DL.a_lend, DL.a_lDi, DL.a_lDb, DL.a_lDn, DL.a_lDx, DL.a_shn, DL.a_shc, DL.a_sh1v, DL.a_sh1n, DL.a_sh1o, DL.a_clr, DL.a_cM, DL.a_enu, DL.a_enO, DL.a_cListFl, DL.a_cListFt, DL.a_try1, DL.a_tok1, DL.a_texc1, DL.a_cT1, DL.a_cF1, DL.a_unTok, DL.a_zipM, DL.a_itL, DL.a_itT, DL.a_zip2, DL.a_itK, DL.a_dIxK, DL.a_lenK, DL.a_tupleK, DL.a_listK, DL.a_seqN, DL.a_sqL, DL.a_sqT, DL.a_sqS, DL.a_sqK, DL.a_oownR, DL.a_rowsAt, DL.a_rA, DL.a_ownR, DL.a_setRR, DL.a_rowIx, DL.a_rIx, DL.a_kRow, DL.a_kRw, DL.a_oNt, DL.a_hid, DL.a_hD, DL.a_hE, DL.a_hN, DL.a_kSetRR, DL.a_kSr, DL.a_kSl, DL.a_kSi, DL.a_sh1r, DL.a_fZr, DL.a_forR, DL.a_fRw, DL.a_rowG0, DL.a_rowG1, DL.a_rowG2, DL.a_rowG3, DL.a_row1, DL.a_r1s, DL.a_r1o, DL.a_r1a, DL.a_r1b, DL.a_r1c, DL.a_r1e, DL.ix20, DL.ix21, DL.ix30, DL.ix31, DL.ix32, DL.a_appR, DL.a_kAppR, DL.a_kAr, DL.a_kAl, DL.a_popR, DL.a_kPopR, DL.a_kPr, DL.a_kPl, DL.a_iR, DL.a_rpop, DL.a_kRPop, DL.a_rapp, DL.a_kRApp, DL.a_kRa, DL.a_rset, DL.a_kRset1, DL.a_kRSet, DL.a_kRs, DL.a_kRs2, G_crystalwords_k23_whole_stairs.dv_5, G_crystalwords_k23_whole_stairs.dv_40, G_crystalwords_k23_whole_stairs.dv_80, G_crystalwords_k23_whole_stairs.dv_280, G_crystalwords_k23_whole_stairs.dv_1400, G_crystalwords_k23_whole_stairs.dv_22400, G_crystalwords_k23_whole_stairs.nz_2, G_crystalwords_k23_whole_stairs.nz_4, G_crystalwords_k23_whole_stairs.nz_5, G_crystalwords_k23_whole_stairs.nz_7, G_crystalwords_k23_whole_stairs.nz_8, G_crystalwords_k23_whole_stairs.nz_16, G_crystalwords_k23_whole_stairs.pw_10_18, G_crystalwords_k23_whole_stairs.pw_10_60, G_crystalwords_k23_whole_stairs.pw_10_9])
namespace G_crystalwords_k23_whole_stairs
open PySem PySem.Spec PyProof.Rows L2 DL
theorem sq_nx {f g : M Fl} {e e' : DEnv} (h : f e = .ok .nx e') : sq f g e = g e' := by unfold sq; rw [h]
theorem lendB_eq {f : M Bool} {e e' : DEnv} {b : Bool} (h : f (shw e) = .ok b e') : mLendB f e = .ok b e := by unfold mLendB; rw [h]
theorem lendR_eq {f : M (List (List D))} {e e' : DEnv} {L : Mt} (h : f (shw e) = .ok (mxD L) e') : mLendR f e = .ok (mxD L) e := by
  unfold mLendR
  rw [h]
  dsimp only
  rw [if_pos]
  rw [List.all_eq_true]
  intro l hl
  unfold mxD at hl
  obtain ⟨r, _, rfl⟩ := List.mem_map.mp hl
  rw [List.all_eq_true]
  intro d hd
  obtain ⟨x, _, rfl⟩ := List.mem_map.mp hd
  rfl
theorem frzR_eq {f : M (List (List D))} {e e' : DEnv} {L : Mt} (h : f e = .ok (mxD L) e') : mFrzR f e = .ok (rowsD true true L) e' := by
  unfold mFrzR
  rw [bnd_ok h]
  show Res.ok (D.lst _) _ = _
  rw [mx_rows]; rfl
theorem lend_eq {f : M D} {e e' : DEnv} {b : Bool} (h : f (shw e) = .ok (.bl b) e') : mLend f e = .ok (.bl b) e := by unfold mLend; rw [h]; rfl
theorem if_nx {c : M Bool} {A : M Fl} {e : DEnv} {e' : DEnv} (h : c e = .ok false e') : mIf c A nx e = .ok .nx e' := by unfold mIf; rw [bnd_ok h]; rfl
theorem tri_ok {ix i1 i2 i3 : Nat} {f : M R3} {c : M Bool} {k : M Fl} {e e1 : DEnv} {t : R3} (h : f e = .ok t e1) (hi : ix < e1.length ∧ i1 < e1.length ∧ i2 < e1.length ∧ i3 < e1.length)
    (hc : ∀ p q r : Addr, c (e1.set ix (.val (.tup [.opq p, .opq q, .opq r]))) = .ok false (e1.set ix (.val (.tup [.opq p, .opq q, .opq r])))) :
    mTri ix i1 i2 i3 f c k e = k ((((e1.set ix .no).set i1 (.own none (.rows t.1))).set i2 (.own none (.rows t.2.1))).set i3 (.own none (.rows t.2.2))) := by
  unfold mTri
  rw [bnd_ok h]
  exact if_pos ⟨hi, hc⟩
theorem pl_rows {X : Mt} {k j : Bool} : D.pl 2 (rowsD k j X) = true := pl_mk fun d hd => by
  obtain ⟨r, _, rfl⟩ := List.mem_map.mp hd
  exact pl_row
theorem sh3 (L : Mt) : D.lst ((mxD L).map D.lst) = rowsD true true L := by rw [mx_rows]; rfl
/-! ### the lists stand apart -/
theorem copy_eq {F : Mt} {e : DEnv} {v0 v1 v2 : D} {v3' : Sl} {i : Nat} (hF : F.length ≤ 1000) (he : shw e = [.val v0, .val v1, .val v2, v3', .no]) (hi : mSeq (mVar i) [.val v0, .val v1, .val v2, v3', .no] = .ok (F.map (rowD true)) [.val v0, .val v1, .val v2, v3', .no]) (hn : noOwn [.val v0, .val v1, .val v2, v3', .no] [4] = true) :
    mFrzR (mLendR (mLcR [4] (mSeq (mVar i)) (gN 4) (bnd (aCons (mVar 4) aNil) cListF))) e = .ok (rowsD true true F) e := by
  refine frzR_eq (lendR_eq (e' := [.val v0, .val v1, .val v2, v3', .no]) ?_)
  rw [he]
  exact mLcR_gen F (rowD true) (fun r => r.map D.int) hi hn rfl (le_size (by omega)) fun r hr => ⟨[.val v0, .val v1, .val v2, v3', .val (rowD true r)], [.val v0, .val v1, .val v2, v3', .val (rowD true r)], rfl, by walk_at "dl"; rfl, rfl⟩
theorem e_apart {n m : Nat} {F R B : Mt} (hF : Shp n m F) (hR : Shp n n R) (hB : Shp n n B) (hn0 : 0 < n) (hn : n ≤ 100) : A_law_apart (mxD F, mxD R, mxD B) = some true := by
  have c1 := copy_eq (F := F) (e := [.own none (rw3 F), .own none (rw3 R), .own none (rw3 B), .no, .no]) (v0 := rowsD true true F) (v1 := rowsD true true R) (v2 := rowsD true true B) (v3' := .no) (i := 0) (by rw [hF.l]; omega) (by
    show [Sl.val _, Sl.val _, Sl.val _, _, _] = _
    rw [sh3, sh3, sh3]
    rfl) rfl rfl
  have c2 := copy_eq (F := B) (e := [.own none (rw3 F), .own none (rw3 R), .own none (rw3 B), .no, .no]) (v0 := rowsD true true F) (v1 := rowsD true true R) (v2 := rowsD true true B) (v3' := .no) (i := 2) (by rw [hB.l]; omega) (by
    show [Sl.val _, Sl.val _, Sl.val _, _, _] = _
    rw [sh3, sh3, sh3]
    rfl) rfl rfl
  have z2 : szOk (0 + 1 + 1) := szk (by decide)
  have z0 : szOk 0 := szk (by decide)
  -- the rows with 1 more at their beginnings
  have up : ∀ {p : Nat} {X : Mt} (hX : Shp n p X) (hp : 0 < p), ∀ row ∈ X, 0 < row.length := fun hX hp row hr => by rw [shp_len hX row hr]; exact hp
  obtain ⟨V3, hV3⟩ : ∃ V3, D.tup [rowsD true true F, rowsD true true B] = V3 := ⟨_, rfl⟩
  have pV : D.pl 3 V3 = true := by
    rw [← hV3]
    refine pl_mk (k := false) (l := [rowsD true true F, rowsD true true B]) fun d hd => ?_
    simp only [List.mem_cons, List.not_mem_nil, or_false] at hd
    rcases hd with rfl | rfl <;> exact pl_rows
  have q1 : eqOk V3 V3 = true := eqOk_pl pV pV
  have q2 : deq V3 V3 = true := deq_self pV
  have q3 : eqOk (rowsD true true F) (rowsD true true F) = true := eqOk_pl pl_rows pl_rows
  have q4 : deq (rowsD true true F) (rowsD true true F) = true := deq_self pl_rows
  have ne : ∀ {p : Nat} {X : Mt}, Shp n p X → X ≠ [] := fun h z => by have := h.l; rw [z] at this; simp at this; omega
  obtain ⟨R', hR'⟩ : ∃ R', (R.map fun row => row.set 0 (row.getD 0 0 + 1)) = R' := ⟨_, rfl⟩
  obtain ⟨B', hB'⟩ : ∃ B', (B.map fun row => row.set 0 (row.getD 0 0 + 1)) = B' := ⟨_, rfl⟩
  have f1 := forR_map (n := 1) (r := 4) (fj := ret (.int 0)) (fe := m2 (mIxN 4 (ret (.int 0))) (ret (.int 1)) mAdd) (E := fun a b => [.own none (rw3 F), a, .own none (rw3 B), .val V3, b]) (R := R) (j := 0) (g := fun row => row.getD 0 0 + 1) (fun _ _ => rfl) (fun _ _ => rfl) (fun _ _ _ => rfl) (fun _ _ _ => rfl) (ne hR)
    (fun row hr => by
      have h0 := up hR hn0 row hr
      have a1 : atI (row.map D.int) 0 = some (.int (row.getD 0 0)) := atK (k := 0) h0
      exact ⟨h0, by
        walk_at "dl"
        rw [a1]
        walk_at "dl", rfl⟩) .no
  have f2 := forR_map (n := 2) (r := 4) (fj := ret (.int 0)) (fe := m2 (mIxN 4 (ret (.int 0))) (ret (.int 1)) mAdd) (E := fun a b => [.own none (rw3 F), .own none (.rows (mxD R' ++ [[]])), a, .val V3, b]) (R := B) (j := 0) (g := fun row => row.getD 0 0 + 1) (fun _ _ => rfl) (fun _ _ => rfl) (fun _ _ _ => rfl) (fun _ _ _ => rfl) (ne hB)
    (fun row hr => by
      have h0 := up hB hn0 row hr
      have a1 : atI (row.map D.int) 0 = some (.int (row.getD 0 0)) := atK (k := 0) h0
      exact ⟨h0, by
        walk_at "dl"
        rw [a1]
        walk_at "dl", rfl⟩) .no
  rw [hR'] at f1
  rw [hB'] at f2
  have f1 : mForR 1 4 (ret (.int 0)) (m2 (mIxN 4 (ret (.int 0))) (ret (.int 1)) mAdd) [.own none (rw3 F), .own none (rw3 R), .own none (rw3 B), .val V3, .no] = .ok .nx [.own none (rw3 F), .own none (rw3 R'), .own none (rw3 B), .val V3, .no] := f1
  have f2 : mForR 2 4 (ret (.int 0)) (m2 (mIxN 4 (ret (.int 0))) (ret (.int 1)) mAdd) [.own none (rw3 F), .own none (.rows (mxD R' ++ [[]])), .own none (rw3 B), .val V3, .no] = .ok .nx [.own none (rw3 F), .own none (.rows (mxD R' ++ [[]])), .own none (rw3 B'), .val V3, .no] := f2
  have lR : (mxD R').length < sizeLine := by
    rw [← hR']; unfold mxD; rw [List.length_map, List.length_map, hR.l]; exact sl_ok (by omega)
  have key : b_law_apart [.own none (rw3 F), .own none (rw3 R), .own none (rw3 B), .no, .no] = .ok (.rt (.bl true)) [.own none (rw3 F), .own none (.rows (mxD R' ++ [[]])), .own none (.rows []), .val V3, .no] := by
    unfold b_law_apart
    rw [sq_nx (e' := [.own none (rw3 F), .own none (rw3 R), .own none (rw3 B), .val V3, .no]) (by
      walk_at "dl"
      rw [c1]
      walk_at "dl"
      rw [c2]
      walk_at "dl"
      rw [hV3])]
    rw [sq_nx f1]
    rw [sq_nx (e' := [.own none (rw3 F), .own none (.rows (mxD R' ++ [[]])), .own none (rw3 B), .val V3, .no]) (by
      walk_at "dl"
      rw [if_pos lR])]
    rw [sq_nx (if_nx (lendB_eq (b := false) (e' := [.val (rowsD true true F), .val (.lst ((mxD R' ++ [[]]).map .lst)), .val (rowsD true true B), .val V3, .no]) (by
      have es : shw [.own none (rw3 F), .own none (.rows (mxD R' ++ [[]])), .own none (rw3 B), .val V3, .no] = [.val (rowsD true true F), .val (.lst ((mxD R' ++ [[]]).map .lst)), .val (rowsD true true B), .val V3, .no] := by
        show [Sl.val _, Sl.val _, Sl.val _, _, _] = _
        rw [sh3, sh3]
        rfl
      rw [es]
      walk_at "dl"
      rw [hV3, if_pos q1, q2]
      walk_at "dl")))]
    rw [sq_nx f2]
    rw [sq_nx (e' := [.own none (rw3 F), .own none (.rows (mxD R' ++ [[]])), .own none (.rows []), .val V3, .no]) (show mRClr 2 [.own none (rw3 F), .own none (.rows (mxD R' ++ [[]])), .own none (rw3 B'), .val V3, .no] = _ from rfl)]
    show bnd (mLend _) _ _ = _
    have a0 : atI [rowsD true true F, rowsD true true B] 0 = some (rowsD true true F) := rfl
    rw [bnd_ok (lend_eq (b := true) (e' := [.val (rowsD true true F), .val (.lst ((mxD R' ++ [[]]).map .lst)), .val (.lst []), .val V3, .no]) (by
      have es : shw [.own none (rw3 F), .own none (.rows (mxD R' ++ [[]])), .own none (.rows []), .val V3, .no] = [.val (rowsD true true F), .val (.lst ((mxD R' ++ [[]]).map .lst)), .val (.lst []), .val V3, .no] := by
        show [Sl.val _, Sl.val _, Sl.val _, _, _] = _
        rw [sh3]
        rfl
      rw [es, ← hV3]
      walk_at "dl"
      rw [if_pos q3, q4]))]
    rfl
  unfold A_law_apart runA3
  show (match b_law_apart [.own none (rw3 F), .own none (rw3 R), .own none (rw3 B), .no, .no] with | .ok (.rt (.bl b)) _ => some b | _ => none) = _
  rw [key]
end G_crystalwords_k23_whole_stairs

local macro_rules | `(tactic| walk_at "dx") => `(tactic| try simp -implicitDefEqProofs only [Bool.true_eq_false, DL.wipeE, DL.at0, DL.at1, DL.at2, DL.nc0, DL.nc1, DL.nc2, DL.nc3, DL.nc4, DL.nc5, not_true_eq_false, not_false_eq_true, eq_self, ne_eq,  DL.sz0, DL.sz1, DL.sz2, DL.sz3, DL.sz4, DL.sz5, DL.sz6, DL.a_listL, DL.a_listT, DL.a_tupleL, DL.a_tupleT, DL.a_sum, DL.a_isiT, DL.a_isiL, DL.a_isiS, DL.k_tt, DL.k_lt, DL.k_tl, DL.k_ll, DL.k_it, DL.k_il, DL.k_ss, DL.k_st, DL.k_ti, DL.k_li, DL.k_tb, DL.k_lb, DL.a_isE, DL.a_callE, DL.a_reok, DL.a_try, DL.a_tok, DL.a_texc, DL.a_cT, DL.a_cF, DL.a_unN, DL.a_unR, DL.a_slice, DL.a_oNone, DL.a_oSome, DL.a_dSlL, DL.a_dSlT, DL.a_ret, DL.a_stk, DL.a_bnd, DL.a_rok, DL.a_rexc, DL.a_rst, DL.a_rite, DL.a_var, DL.a_oval, DL.a_oown, DL.a_m2, DL.a_g2i, DL.a_add, DL.a_mAdd, DL.a_sub, DL.a_mul, DL.a_div, DL.a_mod, DL.a_pow, DL.a_shr, DL.a_cmp, DL.a_eq, DL.a_ne, DL.eqOk_ii, DL.deq_ii, DL.a_u1i, DL.a_mB, DL.a_truB, DL.a_truI, DL.a_truN, DL.a_truL, DL.a_truT, DL.a_bAnd, DL.a_bOr, DL.a_bNot, DL.a_vAnd, DL.a_vOr, DL.a_vNot, DL.a_if, DL.a_ite, DL.a_aNil, DL.a_aCons, DL.a_tup, DL.a_lst, DL.a_c1i, DL.a_c2i, DL.a_cIntI, DL.a_cIntB, DL.a_lenL, DL.a_lenT, DL.a_lenS, DL.a_nx, DL.a_sq, DL.a_snx, DL.a_srt, DL.a_sbk, DL.a_sct, DL.a_sexc, DL.a_sst, DL.a_site, DL.a_asg, DL.a_mRet, DL.a_drop, DL.a_aug, DL.a_oA, DL.a_gN, DL.a_gsNil, DL.a_gsCons, DL.a_gTpT, DL.a_gTpL, DL.a_asgT, DL.a_par, DL.a_again, DL.a_gnx, DL.a_gct, DL.a_gbk, DL.a_grt, DL.a_gexc, DL.a_gite, DL.a_rng1, DL.a_rng2, DL.a_raise, DL.a_call, DL.a_rsok, DL.a_rsexc, DL.a_rsst, DL.a_has, DL.a_hval, DL.a_hown, DL.a_onSl, DL.a_slD, DL.a_oDv, DL.a_oDo, DL.a_oDs, DL.a_ixN, DL.a_mIxI, DL.a_dIxL, DL.a_dIxT, DL.a_oM, DL.a_isiI, DL.a_isiB, DL.a_kM, DL.k_ii, DL.k_ib, DL.k_bi, DL.k_bb, DL.a_runF, DL.a_rFrt, DL.a_rFnx, DL.a_rFexc, DL.a_rFite, DL.envOf, List.map_cons, List.map_nil, List.length_cons, List.length_nil, List.cons_append, List.nil_append, List.getElem?_cons_zero, List.getElem?_cons_succ, List.set_cons_zero, List.set_cons_succ, List.replicate, if_true, if_false, Bool.false_eq_true, reduceIte, List.length_map, Nat.reduceAdd, Nat.reduceSub, Nat.zero_add, decide_eq_true_eq, Bool.not_eq_true', decide_eq_false_iff_not, Bool.not_true, Bool.not_false, DL.a_xStr, DL.a_dSplit, DL.a_dJoinL, DL.a_dJoinT, DL.a_dIn, DL.a_inF, DL.a_inT, DL.sgn_one, DL.a_mOwn, DL.a_mFl, DL.a_unL, DL.a_uLok, DL.a_ownAt, DL.a_oOw, DL.a_app, DL.a_aP, DL.a_kApp, DL.a_kA, DL.a_setI, DL.a_sI, DL.a_kSet, DL.a_kS, DL.a_kN, DL.a_frz1, DL.a_fZ, DL.a_rng3, DL.a_mAddS, DL.a_mAddL, DL.a_dIxS, DL.a_dSlS, DL.isN_n, DL.isN_t, DL.isN_l, DL.isN_i, DL.isN_s, DL.at3, DL.at4, DL.at5, DL.at6, DL.at7, DL.a_cStr, DL.a_cMaxL, DL.a_ext, DL.a_eP, DL.a_kExt, DL.a_kE, DL.a_sro, DL.a_gro, DL.a_rFro, DL.a_retF, DL.a_take, DL.a_oT, DL.a_callO, DL.a_rsOok, DL.a_rsOexc, DL.a_runO, DL.a_rOro, DL.a_rOexc, DL.a_lend, DL.a_lDi, DL.a_lDb, DL.a_lDn, DL.a_lDx, DL.a_shn, DL.a_shc, DL.a_sh1v, DL.a_sh1n, DL.a_sh1o, DL.a_clr, DL.a_cM, DL.a_enu, DL.a_enO, DL.a_cListFl, DL.a_cListFt, DL.a_try1, DL.a_tok1, DL.a_texc1, DL.a_cT1, DL.a_cF1, DL.a_unTok, DL.a_zipM, DL.a_itL, DL.a_itT, DL.a_zip2, DL.a_itK, DL.a_dIxK, DL.a_lenK, DL.a_tupleK, DL.a_listK, DL.a_seqN, DL.a_sqL, DL.a_sqT, DL.a_sqS, DL.a_sqK, DL.a_oownR, DL.a_rowsAt, DL.a_rA, DL.a_ownR, DL.a_setRR, DL.a_rowIx, DL.a_rIx, DL.a_kRow, DL.a_kRw, DL.a_oNt, DL.a_hid, DL.a_hD, DL.a_hE, DL.a_hN, DL.a_kSetRR, DL.a_kSr, DL.a_kSl, DL.a_kSi, DL.a_sh1r, DL.a_fZr, DL.a_forR, DL.a_fRw, DL.a_rowG0, DL.a_rowG1, DL.a_rowG2, DL.a_rowG3, DL.a_row1, DL.a_r1s, DL.a_r1o, DL.a_r1a, DL.a_r1b, DL.a_r1c, DL.a_r1e, DL.ix20, DL.ix21, DL.ix30, DL.ix31, DL.ix32, DL.a_appR, DL.a_kAppR, DL.a_kAr, DL.a_kAl, DL.a_popR, DL.a_kPopR, DL.a_kPr, DL.a_kPl, DL.a_iR, DL.a_rpop, DL.a_kRPop, DL.a_rapp, DL.a_kRApp, DL.a_kRa, DL.a_rset, DL.a_kRset1, DL.a_kRSet, DL.a_kRs, DL.a_kRs2, G_crystalwords_k23_whole_stairs.dv_5, G_crystalwords_k23_whole_stairs.dv_40, G_crystalwords_k23_whole_stairs.dv_80, G_crystalwords_k23_whole_stairs.dv_280, G_crystalwords_k23_whole_stairs.dv_1400, G_crystalwords_k23_whole_stairs.dv_22400, G_crystalwords_k23_whole_stairs.nz_2, G_crystalwords_k23_whole_stairs.nz_4, G_crystalwords_k23_whole_stairs.nz_5, G_crystalwords_k23_whole_stairs.nz_7, G_crystalwords_k23_whole_stairs.nz_8, G_crystalwords_k23_whole_stairs.nz_16, G_crystalwords_k23_whole_stairs.pw_10_18, G_crystalwords_k23_whole_stairs.pw_10_60, G_crystalwords_k23_whole_stairs.pw_10_9, and_self, *])
namespace G_crystalwords_k23_whole_stairs
open PySem PySem.Spec PyProof.Rows L2 DL
theorem f_still {n : Nat} (hn : n ≤ 10000) : ∃ e, RR_still_rows [.int n] = .ok (mxD (idM n)) e := by unfold RR_still_rows bR_still_rows; exact rstill_eq hn
theorem f_stairs {n m b : Nat} {X : Mt} {kk jj : Bool} (h : RowsOk n m b X) : ∃ F R B e, F3_stairs [rowsD kk jj X] = .ok (mxD F, mxD R, mxD B) e ∧ Stair n m b X F R B := by
  have h1 := h.nn
  have h2 := h.mm
  have h3 := h.sz
  show ∃ F R B e, runR3 10 b_stairs _ = _ ∧ _
  rw [show b_stairs = bStairs3 RR_still_rows from rfl]
  exact stairs3_eq (f_still (by omega)) h.shp h.n0 (by omega) (by omega) h.bd (by omega)
theorem e_handed {X : Mt} (hl : X.length ≤ 1000) (way : Int) : ∃ kk jj, F_law_handed [rowsD true true X, .int way] = .ok (rowsD kk jj X) := by
  have A : ∀ x2 : Sl, (mLc [3] (mSeq (mVar 0)) (gN 3) (ret true) (bnd (aCons (mVar 3) aNil) cList)) [.val (rowsD true true X), .val (.int way), x2, .no] = .ok (rowsD true true X) [.val (rowsD true true X), .val (.int way), x2, .no] := fun x2 =>
    mLc_gen X (rowD true) (rowD true) (by walk_at "dl") rfl rfl (le_size (by omega)) fun r hr => ⟨[.val (rowsD true true X), .val (.int way), x2, .val (rowD true r)], [.val (rowsD true true X), .val (.int way), x2, .val (rowD true r)], rfl, by walk_at "dl"; rfl, by rfl⟩
  have B : ∀ x2 : Sl, (mLc [3] (mSeq (mVar 0)) (gN 3) (ret true) (bnd (aCons (mVar 3) aNil) cTuple)) [.val (rowsD true true X), .val (.int way), x2, .no] = .ok (.lst (X.map (rowD false))) [.val (rowsD true true X), .val (.int way), x2, .no] := fun x2 =>
    mLc_gen X (rowD true) (rowD false) (by walk_at "dl") rfl rfl (le_size (by omega)) fun r hr => ⟨[.val (rowsD true true X), .val (.int way), x2, .val (rowD true r)], [.val (rowsD true true X), .val (.int way), x2, .val (rowD true r)], rfl, by walk_at "dl"; rfl, by rfl⟩
  have A := A .no
  have B := B (.val (rowsD true true X))
  have n4 : ¬ (4 : Int) = 0 := by decide
  have e12 : ¬ (1 : Int) = 2 := by decide
  have e13 : ¬ (1 : Int) = 3 := by decide
  have e21 : ¬ (2 : Int) = 1 := by decide
  have e23 : ¬ (2 : Int) = 3 := by decide
  have e31 : ¬ (3 : Int) = 1 := by decide
  have e32 : ¬ (3 : Int) = 2 := by decide
  have key : ∀ (Y : D), (way.fmod 4 = 1 ∧ Y = rowsD false false X) ∨ (way.fmod 4 = 2 ∧ Y = rowsD true false X) ∨ (way.fmod 4 = 3 ∧ Y = rowsD false true X) ∨ (¬ way.fmod 4 = 1 ∧ ¬ way.fmod 4 = 2 ∧ ¬ way.fmod 4 = 3 ∧ Y = rowsD true true X) → F_law_handed [rowsD true true X, .int way] = .ok Y := fun Y h => by
    have t1 : rowsD false false X = .tup (X.map (rowD false)) := rfl
    have t2 : rowsD true false X = .lst (X.map (rowD false)) := rfl
    have t3 : rowsD false true X = .tup (X.map (rowD true)) := rfl
    have t4 : rowsD true true X = .lst (X.map (rowD true)) := rfl
    rw [t4] at A B ⊢
    rcases h with ⟨h, rfl⟩ | ⟨h, rfl⟩ | ⟨h, rfl⟩ | ⟨h1, h2, h3, rfl⟩
    · rw [t1]
      generalize X.map (rowD false) = Xf at *
      generalize X.map (rowD true) = Xt at *
      clear t1 t2 t3 t4
      unfold F_law_handed b_law_handed
      walk_at "dx"
    · rw [t2]
      generalize X.map (rowD false) = Xf at *
      generalize X.map (rowD true) = Xt at *
      clear t1 t2 t3 t4
      unfold F_law_handed b_law_handed
      walk_at "dx"
    · rw [t3]
      generalize X.map (rowD false) = Xf at *
      generalize X.map (rowD true) = Xt at *
      clear t1 t2 t3 t4
      unfold F_law_handed b_law_handed
      walk_at "dx"
    · rw [t4]
      generalize X.map (rowD false) = Xf at *
      generalize X.map (rowD true) = Xt at *
      clear t1 t2 t3 t4
      unfold F_law_handed b_law_handed
      walk_at "dx"
  by_cases h1 : way.fmod 4 = 1
  · exact ⟨false, false, key _ (.inl ⟨h1, rfl⟩)⟩
  by_cases h2 : way.fmod 4 = 2
  · exact ⟨true, false, key _ (.inr (.inl ⟨h2, rfl⟩))⟩
  by_cases h3 : way.fmod 4 = 3
  · exact ⟨false, true, key _ (.inr (.inr (.inl ⟨h3, rfl⟩)))⟩
  · exact ⟨true, true, key _ (.inr (.inr (.inr ⟨h1, h2, h3, rfl⟩)))⟩
theorem rows_nn {n m b : Nat} {X : Mt} (h : RowsOk n m b X) : (b + 2) * 4 ^ min n m ≤ 1000000 := h.sz
theorem mz {a b : Int} {x y : Nat} (ha : a.natAbs ≤ 2 ^ x) (hb : b.natAbs ≤ 2 ^ y) (h : x + y + 2 ≤ 134217728) : IntMulOk a b := szok_pow h a b ha hb
theorem ids_eq {n : Nat} (hn : n ≤ 100) (x0 x1 x3 x4 x7 x8 x9 : Sl) : (mLc [11] (mRng1 (aCons (mVar 2) aNil)) (gN 11) (ret true) (mLc [10] (mRng1 (aCons (mVar 2) aNil)) (gN 10) (ret true) (bnd (aCons (m2 (mVar 11) (mVar 10) mEq) aNil) cInt))) [x0, x1, .val (.int (n : Nat)), x3, x4, .no, .no, x7, x8, x9, .no, .no] = .ok (rowsD true true (idM n)) [x0, x1, .val (.int (n : Nat)), x3, x4, .no, .no, x7, x8, x9, .no, .no] := by
  have rn := rngN (n := n) (by omega)
  have k := mLc_rngD (vs := [11]) (fi := mRng1 (aCons (mVar 2) aNil)) (g := gN 11) (el := mLc [10] (mRng1 (aCons (mVar 2) aNil)) (gN 10) (ret true) (bnd (aCons (m2 (mVar 11) (mVar 10) mEq) aNil) cInt))
    (e := [x0, x1, .val (.int (n : Nat)), x3, x4, .no, .no, x7, x8, x9, .no, .no]) (e0 := [x0, x1, .val (.int (n : Nat)), x3, x4, .no, .no, x7, x8, x9, .no, .no]) (m := n) (fun i => iL ((List.range n).map fun j => if i = j then (1 : Int) else 0)) (by
      walk_at "dl"
      rw [if_pos rn, Int.toNat_natCast]) rfl rfl (le_size (by omega)) fun i hi => ⟨[x0, x1, .val (.int (n : Nat)), x3, x4, .no, .no, x7, x8, x9, .no, .val (.int (i : Nat))], [x0, x1, .val (.int (n : Nat)), x3, x4, .no, .no, x7, x8, x9, .no, .val (.int (i : Nat))], rfl,
        mLc_rng (m := n) (fun j => if i = j then (1 : Int) else 0) (by
          walk_at "dl"
          rw [if_pos rn, Int.toNat_natCast]) rfl rfl (le_size (by omega)) fun j hj => ⟨[x0, x1, .val (.int (n : Nat)), x3, x4, .no, .no, x7, x8, x9, .val (.int (j : Nat)), .val (.int (i : Nat))], [x0, x1, .val (.int (n : Nat)), x3, x4, .no, .no, x7, x8, x9, .val (.int (j : Nat)), .val (.int (i : Nat))], rfl, by
            walk_at "dl"
            by_cases h : i = j
            · simp [h]
            · have : ¬ ((i : Int) = (j : Int)) := by omega
              simp [h, this], rfl⟩, rfl⟩
  rw [k]
  have e : ((List.range n).map fun i => iL ((List.range n).map fun j => if i = j then (1 : Int) else 0)) = (idM n).map (rowD true) := by
    unfold idM
    rw [List.map_map]
    rfl
  rw [e]
  rfl
theorem law_true (ns : List Int) (hl : ns.length ≤ 63) (hb : ∀ z ∈ ns, Builtin.Int.intBits z ≤ 1048576) : F_law [iL ns] = .ok (.bl true) := by
  obtain ⟨n, m, b, X, hX, eX⟩ := e_rows hl
  have hn0 := hX.n0
  have hnn := hX.nn
  have hm0 := hX.m0
  have hmm := hX.mm
  have hsz := hX.sz
  have hbb := hX.bb
  obtain ⟨kk, jj, eH⟩ := e_handed (X := X) (by rw [hX.shp.l]; omega) ((cellOf ns 0).fdiv 22400)
  obtain ⟨F, R, B, e3, eS, st⟩ := f_stairs (kk := kk) (jj := jj) hX
  obtain ⟨ps, ld⟩ := st.ld
  have c0 := e_cell ns 0 (by decide)
  have d1 : DivOk (22400 : Int) := divOk_of (m := 20) (by decide) (by decide) (by decide)
  have r1 := e_isrows st.f
  have r2 := e_isrows st.r
  have r3 := e_isrows st.bk
  have t1 : F_law_times [rowsD true true R, rowsD true true X] = .ok (rowsD true true F) := by
    have h := e_times (k1 := true) (k2 := true) (k3 := true) (k4 := true) st.r hX.shp hn0 (by omega) (by omega) (by omega) fun i k j c => mz (st.sr i k) (hX.bd j c) (by omega)
    rw [h, mt_ext (mulM_shp st.r) st.f fun i hi c hc => by rw [mulM_at st.r hi hc]; exact st.mul i hi c]
  have t2 : F_law_times [rowsD true true R, rowsD true true B] = .ok (rowsD true true (idM n)) := by
    have h := e_times (k1 := true) (k2 := true) (k3 := true) (k4 := true) st.r st.bk hn0 (by omega) (by omega) (by omega) fun i k j c => mz (st.sr i k) (st.sb j c) (by omega)
    rw [h, mt_ext (mulM_shp st.r) (idM_shp n) fun i hi c hc => by rw [mulM_at st.r hi hc, idM_at hi hc]; exact st.inv i hi c hc]
  have s1 := e_stairs st.f ld (by omega) (by omega)
  have ap := e_apart st.f st.r st.bk hn0 (by omega)
  have q1 : eqOk (rowsD true true X) (rowsD true true X) = true := eqOk_pl pl_rows pl_rows
  have q2 : deq (rowsD true true X) (rowsD true true X) = true := deq_self pl_rows
  have q3 : eqOk (rowsD true true F) (rowsD true true F) = true := eqOk_pl pl_rows pl_rows
  have q4 : deq (rowsD true true F) (rowsD true true F) = true := deq_self pl_rows
  have q5 : eqOk (rowsD true true (idM n)) (rowsD true true (idM n)) = true := eqOk_pl pl_rows pl_rows
  have q6 : deq (rowsD true true (idM n)) (rowsD true true (idM n)) = true := deq_self pl_rows
  obtain ⟨x0, hx0, lx0⟩ := hX.shp.at hn0
  have a0 : atI (X.map (rowD true)) 0 = some (rowD true x0) := atI_nat (j := 0) (by rw [List.getElem?_map, hx0]; rfl)
  have lX : X.length = n := hX.shp.l
  have es : ∀ (x0 x1 x2 x3 x4 x5 x6 : Sl), shw [x0, x1, x2, x3, x4, x5, x6, .own none (rw3 F), .own none (rw3 R), .own none (rw3 B), .no, .no] = [shw1 x0, shw1 x1, shw1 x2, shw1 x3, shw1 x4, shw1 x5, shw1 x6, .val (rowsD true true F), .val (rowsD true true R), .val (rowsD true true B), .no, .no] := fun x0 x1 x2 x3 x4 x5 x6 => by
    show [_, _, _, _, _, _, _, Sl.val _, Sl.val _, Sl.val _, _, _] = _
    rw [sh3, sh3, sh3]
    rfl
  have key : b_law [.val (iL ns), .no, .no, .no, .no, .no, .no, .no, .no, .no, .no, .no] = .ok (.rt (.bl true)) [.val (iL ns), .val (rowsD true true X), .val (.int (n : Nat)), .val (.int (m : Nat)), .val (rowsD kk jj X), .no, .no, .no, .no, .no, .no, .no] := by
    unfold b_law
    rw [sq_nx (e' := [.val (iL ns), .val (rowsD true true X), .no, .no, .no, .no, .no, .no, .no, .no, .no, .no]) (by
      walk_at "dl"
      rw [eX]
      walk_at "dl")]
    rw [sq_nx (e' := [.val (iL ns), .val (rowsD true true X), .val (.int (n : Nat)), .no, .no, .no, .no, .no, .no, .no, .no, .no]) (by
      walk_at "dl"
      rw [lX])]
    rw [sq_nx (e' := [.val (iL ns), .val (rowsD true true X), .val (.int (n : Nat)), .val (.int (m : Nat)), .no, .no, .no, .no, .no, .no, .no, .no]) (by
      walk_at "dl"
      rw [a0]
      walk_at "dl"
      rw [lx0])]
    rw [sq_nx (e' := [.val (iL ns), .val (rowsD true true X), .val (.int (n : Nat)), .val (.int (m : Nat)), .val (rowsD kk jj X), .no, .no, .no, .no, .no, .no, .no]) (by
      walk_at "dl"
      rw [c0]
      walk_at "dl"
      rw [eH]
      walk_at "dl")]
    rw [tri_ok (e1 := [.val (iL ns), .val (rowsD true true X), .val (.int (n : Nat)), .val (.int (m : Nat)), .val (rowsD kk jj X), .no, .no, .no, .no, .no, .no, .no]) (t := (mxD F, mxD R, mxD B)) (by
      unfold mCall3
      rw [bnd_ok (show aCons (mVar 4) aNil _ = .ok [rowsD kk jj X] [.val (iL ns), .val (rowsD true true X), .val (.int (n : Nat)), .val (.int (m : Nat)), .val (rowsD kk jj X), .no, .no, .no, .no, .no, .no, .no] from rfl)]
      rw [eS]) ⟨by simp, by simp, by simp, by simp⟩ (fun p q r => by
        have C := mLc_gen (vs := [6]) (fi := mSeq (mVar 4)) (g := gN 6) (el := bnd (aCons (mVar 6) aNil) cList) (e := [.val (iL ns), .val (rowsD true true X), .val (.int (n : Nat)), .val (.int (m : Nat)), .val (rowsD kk jj X), .val (.tup [.opq p, .opq q, .opq r]), .no, .no, .no, .no, .no, .no]) (e0 := [.val (iL ns), .val (rowsD true true X), .val (.int (n : Nat)), .val (.int (m : Nat)), .val (rowsD kk jj X), .val (.tup [.opq p, .opq q, .opq r]), .no, .no, .no, .no, .no, .no])
          X (rowD jj) (rowD true) (by cases kk <;> (walk_at "dl")) rfl rfl (le_size (by omega)) fun x hx => ⟨[.val (iL ns), .val (rowsD true true X), .val (.int (n : Nat)), .val (.int (m : Nat)), .val (rowsD kk jj X), .val (.tup [.opq p, .opq q, .opq r]), .val (rowD jj x), .no, .no, .no, .no, .no], [.val (iL ns), .val (rowsD true true X), .val (.int (n : Nat)), .val (.int (m : Nat)), .val (rowsD kk jj X), .val (.tup [.opq p, .opq q, .opq r]), .val (rowD jj x), .no, .no, .no, .no, .no], rfl, by cases jj <;> (walk_at "dl"; rfl), rfl⟩
        have eR : D.lst (X.map (rowD true)) = rowsD true true X := rfl
        rw [eR] at C
        walk_at "dl"
        erw [C]
        walk_at "dl"
        rw [if_pos q1, q2]
        walk_at "dl"
        rfl)]
    show (sq _ _) [.val (iL ns), .val (rowsD true true X), .val (.int (n : Nat)), .val (.int (m : Nat)), .val (rowsD kk jj X), .no, .no, .own none (rw3 F), .own none (rw3 R), .own none (rw3 B), .no, .no] = _
    rw [sq_nx (if_nx (lendB_eq (b := false) (e' := [.val (iL ns), .val (rowsD true true X), .val (.int (n : Nat)), .val (.int (m : Nat)), .val (rowsD kk jj X), .no, .no, .val (rowsD true true F), .val (rowsD true true R), .val (rowsD true true B), .no, .no]) (by
      rw [es]
      walk_at "dl"
      rw [r1]
      walk_at "dl"
      rw [r2]
      walk_at "dl"
      rw [r3]
      walk_at "dl")))]
    rw [sq_nx (if_nx (lendB_eq (b := false) (e' := [.val (iL ns), .val (rowsD true true X), .val (.int (n : Nat)), .val (.int (m : Nat)), .val (rowsD kk jj X), .no, .no, .val (rowsD true true F), .val (rowsD true true R), .val (rowsD true true B), .no, .no]) (by
      rw [es]
      walk_at "dl"
      rw [t1]
      walk_at "dl"
      rw [if_pos q3, q4]
      walk_at "dl"
      rw [s1]
      walk_at "dl")))]
    rw [sq_nx (if_nx (lendB_eq (b := false) (e' := [.val (iL ns), .val (rowsD true true X), .val (.int (n : Nat)), .val (.int (m : Nat)), .val (rowsD kk jj X), .no, .no, .val (rowsD true true F), .val (rowsD true true R), .val (rowsD true true B), .no, .no]) (by
      have I := ids_eq (n := n) (by omega) (.val (iL ns)) (.val (rowsD true true X)) (.val (.int (m : Nat))) (.val (rowsD kk jj X)) (.val (rowsD true true F)) (.val (rowsD true true R)) (.val (rowsD true true B))
      rw [es]
      walk_at "dl"
      rw [t2]
      walk_at "dl"
      erw [I]
      walk_at "dl"
      rw [if_pos q5, q6]
      walk_at "dl")))]
    unfold mRetA
    show (match A_law_apart (mxD F, mxD R, mxD B) with | some t => Res.ok (Fl.rt (.bl t)) _ | none => Res.stuck) = _
    rw [ap]
    rfl
  unfold F_law runF
  show (match b_law [.val (iL ns), .no, .no, .no, .no, .no, .no, .no, .no, .no, .no, .no] with | .ok (.rt d) _ => Rs.ok d | .ok (.ro l) _ => .ok (.lst l) | .ok .nx _ => .ok .non | .exc x p _ => .exc x p | _ => .stuck) = _
  rw [key]
end G_crystalwords_k23_whole_stairs

open PySem PySem.W PyProof.Rows
set_option maxHeartbeats 0 in
theorem PySem.Challenge.cw_crystalwords_k23_whole_stairs_holds : PySem.Challenge.rw_crystalwords_k23_whole_stairs.Holds := by
  w_on; o_law; k_head; (case hw => w_witness2)
  k_fill
  refine DL.walk_ofS (lw := PySem.Challenge.rw_crystalwords_k23_whole_stairs) (m := 63) (lev := 45) (y := "_law_script") (CY := fun w => L2N.CX (PySem.Challenge.rw_crystalwords_k23_whole_stairs).prog w) (sq := fun w => DL.spL _) (by decide +kernel) rfl (by decide) rfl ⟨rfl, by decide, by decide⟩ (fun w h Y => PySem.W.kIn_of Y) ?F (fun _ _ a ns hl hb _ hS => ⟨a, ns, rfl, hS, hl, hb, fun _ => rfl⟩) (fun w => DL.cx_end (PySem.Challenge.rw_crystalwords_k23_whole_stairs).prog w)
  case F =>
    intro w mg fa h KX G hmg
    refine' G_crystalwords_k23_whole_stairs.all_mk G_crystalwords_k23_whole_stairs.law_true rfl KX G hmg ?a1 ?l1 ?c1 ?k1 ?a2 ?l2 ?c2 ?k2 ?a3 ?l3 ?c3 ?k3 ?a4 ?l4 ?c4 ?k4 ?a5 ?l5 ?c5 ?k5 ?a6 ?l6 ?c6 ?k6 ?a7 ?l7 ?c7 ?k7 ?a8 ?l8 ?c8 ?k8 ?a9 ?l9 ?c9 ?k9 ?a10 ?l10 ?c10 ?k10 ?a11 ?l11 ?c11 ?k11 ?a12 ?l12 ?c12 ?k12 ?a13 ?l13 ?c13 ?k13 ?a14 ?l14 ?c14 ?k14 ?a15 ?l15 ?c15 ?k15 ?a16 ?l16 ?c16 ?k16 ?a17 ?l17 ?c17 ?k17 ?a18 ?l18 ?c18 ?k18 ?a19 ?l19 ?c19 ?k19 ?a20 ?l20 ?c20 ?k20 ?n_abs ?n_bool ?n_int ?n_isinstance ?n_len ?n_list ?n_max ?n_range ?n_tuple ?n_zip
    (case a1 => k_is); (case l1 => k_is); (case c1 => k_is); (case k1 => k_is); (case a2 => k_is); (case l2 => k_is); (case c2 => k_is); (case k2 => k_is); (case a3 => k_is); (case l3 => k_is); (case c3 => k_is); (case k3 => k_is); (case a4 => k_is); (case l4 => k_is); (case c4 => k_is); (case k4 => k_is); (case a5 => k_is); (case l5 => k_is); (case c5 => k_is); (case k5 => k_is); (case a6 => k_is); (case l6 => k_is); (case c6 => k_is); (case k6 => k_is); (case a7 => k_is); (case l7 => k_is); (case c7 => k_is); (case k7 => k_is); (case a8 => k_is); (case l8 => k_is); (case c8 => k_is); (case k8 => k_is); (case a9 => k_is); (case l9 => k_is); (case c9 => k_is); (case k9 => k_is); (case a10 => k_is); (case l10 => k_is); (case c10 => k_is); (case k10 => k_is); (case a11 => k_is); (case l11 => k_is); (case c11 => k_is); (case k11 => k_is); (case a12 => k_is); (case l12 => k_is); (case c12 => k_is); (case k12 => k_is); (case a13 => k_is); (case l13 => k_is); (case c13 => k_is); (case k13 => k_is); (case a14 => k_is); (case l14 => k_is); (case c14 => k_is); (case k14 => k_is); (case a15 => k_is); (case l15 => k_is); (case c15 => k_is); (case k15 => k_is); (case a16 => k_is); (case l16 => k_is); (case c16 => k_is); (case k16 => k_is); (case a17 => k_is); (case l17 => k_is); (case c17 => k_is); (case k17 => k_is); (case a18 => k_is); (case l18 => k_is); (case c18 => k_is); (case k18 => k_is); (case a19 => k_is); (case l19 => k_is); (case c19 => k_is); (case k19 => k_is); (case a20 => k_is); (case l20 => k_is); (case c20 => k_is); (case k20 => k_is); (case n_abs => k_is); (case n_bool => k_is); (case n_int => k_is); (case n_isinstance => k_is); (case n_len => k_is); (case n_list => k_is); (case n_max => k_is); (case n_range => k_is); (case n_tuple => k_is); (case n_zip => k_is)
