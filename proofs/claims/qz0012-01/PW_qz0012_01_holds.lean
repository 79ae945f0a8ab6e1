import PyProof.Rows.All
import Wide.All
import Open.Line
import OpenK.KCall
import OpenK.KMake
import OpenK.KMore
import OpenK.KMeth
import OpenK.KDict
import OpenK.KList
import OpenK.KOps
import OpenK.KTop
import OpenK.KWalk
import OpenK.TopRead
import Wide.FinOn
import PySem.Challenge.RW_qz0012_01
open PySem PySem.W PySem.Calls PyProof.Rows PySem.SeqAt
set_option Elab.async false
set_option linter.unusedVariables false
set_option linter.unusedSimpArgs false
set_option maxRecDepth 100000
set_option maxHeartbeats 8000000
set_option genSizeOfSpec false
namespace Mine

inductive MV where
  | none
  | bool (b : Bool)
  | int (i : Int)
  | ref (i : Nat)
  | tup (l : List MV)
  | frz (l : List Int)
  | rng (a b c : Int)

inductive MO where
  | list (l : List MV)
  | obj (c : Nat) (l : List MV)

noncomputable abbrev St := List MO
noncomputable abbrev Lo := List (Option MV)
inductive Fl where
  | next | brk | cont
  | ret (v : MV)
noncomputable abbrev DE := Lo → St → Option (MV × St)
noncomputable abbrev DF := List MV → St → Option (MV × St)
noncomputable abbrev DS := Lo → St → Option (Fl × Lo × St)
noncomputable abbrev Adrs := List (Addr × Addr)

set_option genInjectivity false in
structure Wd where
  prog : Program
  w : World
  base : Heap
  K : Frag
  mg : Str → Option Value
  mb : Str → Option Value
  p : Program
  loose : List Str
  KX : K.In base
  T : TopRead p loose mg mb base
  names : Nat → List Str
  cls : Nat → Option Addr

noncomputable abbrev lst (vs : Array Value) (n : Nat) : Obj := { cls := .type "list", data := .seq vs n }

mutual
inductive RV (base : Heap) (φ : Adrs) (h : Heap) : MV → Value → Prop
  | none : RV base φ h .none .none
  | bool (b : Bool) : RV base φ h (.bool b) (.bool b)
  | int (i : Int) (t : Tok) : RV base φ h (.int i) (.int i t)
  | ref (i : Nat) (a d : Addr) : φ[i]? = some (a, d) → RV base φ h (.ref i) (.ref a)
  | tup (l : List MV) (a : Addr) (vs : List Value) : IsTup h a vs.toArray → RVs base φ h l vs → RV base φ h (.tup l) (.ref a)
  | frz (l : List Int) (a : Addr) (vs : List Value) : base.IsList a vs.toArray → IntsAre vs l → RV base φ h (.frz l) (.ref a)
  | rng (a b c : Int) (r : Addr) (t u v : Tok) : IsRange h r a b c t u v → RV base φ h (.rng a b c) (.ref r)
inductive RVs (base : Heap) (φ : Adrs) (h : Heap) : List MV → List Value → Prop
  | nil : RVs base φ h [] []
  | cons {v : MV} {x : Value} {l : List MV} {xs : List Value} : RV base φ h v x → RVs base φ h l xs → RVs base φ h (v :: l) (x :: xs)
end

noncomputable def FM (base : Heap) (φ : Adrs) (h : Heap) (ns : List Str) (l : List MV) (m : Str → Option Value) : Prop :=
  l.length ≤ ns.length ∧ (∀ (k : Nat) x, ns[k]? = some x → match l[k]? with
    | some v => ∃ y, m x = some y ∧ RV base φ h v y
    | Option.none => m x = Option.none) ∧ ∀ x, x ∉ ns → m x = Option.none

noncomputable def OR (W : Wd) (φ : Adrs) (h : Heap) : MO → Addr → Addr → Prop
  | .list l, a, d => a = d ∧ ∃ vs n, h.get? a = some (lst vs n) ∧ RVs W.base φ h l vs.toList
  | .obj c l, a, d => match W.cls c with
    | some C => h.get? a = some (instObj C d) ∧ d ≠ a ∧ a ≠ C ∧ ∃ m, h.Ns1 d m ∧ FM W.base φ h (W.names c) l m
    | Option.none => a = d ∧ ∃ kvs : List (Str × Value), h.DictOf (PySem.strKind W.prog W.w) d kvs ∧ kvs.map (·.1) = W.names c ∧ RVs W.base φ h l (kvs.map (·.2))

structure Sim (W : Wd) (φ : Adrs) (H : St) (h : Heap) : Prop where
  base : ∀ b o, W.base.get? b = some o → h.get? b = some o
  len : φ.length = H.length
  nodup : (φ.map (·.2)).Nodup
  out : ∀ p ∈ φ, W.base.get? p.2 = none
  obj : ∀ (i : Nat) o, H[i]? = some o → ∃ a d, φ[i]? = some (a, d) ∧ OR W φ h o a d

noncomputable def fixed (o : Obj) : Bool := match o.data with
  | .plain => true
  | .seq _ _ => o.cls == .type "tuple"
  | .fields _ => o.cls == .type "range"
  | _ => false

structure Post (φ φ' : Adrs) (S : List Addr) (h h' : Heap) : Prop where
  ext : φ <+: φ'
  fresh : ∀ p ∈ φ', p ∈ φ ∨ h.get? p.2 = none
  keep : ∀ a o, h.get? a = some o → a ∉ S → a ∉ φ.map (·.2) → h'.get? a = some o
  imm : ∀ a o, h.get? a = some o → fixed o = true → h'.get? a = some o
  alive : ∀ a o, h.get? a = some o → ∃ o', h'.get? a = some o'

theorem Post.refl (φ : Adrs) (S : List Addr) (h : Heap) : Post φ φ S h h :=
  ⟨List.prefix_rfl, fun _ hp => .inl hp, fun _ _ e _ _ => e, fun _ _ e _ => e, fun _ o e => ⟨o, e⟩⟩

theorem Post.trans {φ φ' φ'' : Adrs} {S : List Addr} {h h' h'' : Heap} (x : Post φ φ' S h h') (y : Post φ' φ'' S h' h'') : Post φ φ'' S h h'' := by
  refine ⟨x.ext.trans y.ext, fun p hp => ?_, fun a o e h1 h2 => ?_, fun a o e hf => y.imm a o (x.imm a o e hf) hf, fun a o e => ?_⟩
  · rcases y.fresh p hp with q | q
    · exact x.fresh p q
    · right
      cases e : h.get? p.2 with
      | none => rfl
      | some o => obtain ⟨o', e'⟩ := x.alive _ _ e; rw [e'] at q; cases q
  · refine y.keep a o (x.keep a o e h1 h2) h1 fun hm => ?_
    obtain ⟨p, hp, rfl⟩ := List.mem_map.mp hm
    rcases x.fresh p hp with q | q
    · exact h2 (List.mem_map_of_mem q)
    · rw [e] at q; cases q
  · obtain ⟨o', e'⟩ := x.alive a o e
    exact y.alive a o' e'

theorem Post.weaken {φ φ' : Adrs} {S S' : List Addr} {h h' : Heap} (x : Post φ φ' S h h') (hs : ∀ a ∈ S, a ∈ S') : Post φ φ' S' h h' :=
  ⟨x.ext, x.fresh, fun a o e h1 h2 => x.keep a o e (fun q => h1 (hs a q)) h2, x.imm, x.alive⟩

theorem prefix_get {φ φ' : Adrs} (e : φ <+: φ') {i : Nat} {p : Addr × Addr} (h : φ[i]? = some p) : φ'[i]? = some p := by
  obtain ⟨t, rfl⟩ := e
  obtain ⟨hi, hp⟩ := List.getElem?_eq_some_iff.mp h
  rw [List.getElem?_append_left hi, h]

theorem fixed_tup {o : Obj} {vs : Array Value} {n : Nat} (hc : o.cls = .type "tuple") (hd : o.data = .seq vs n) : fixed o = true := by
  unfold fixed; rw [hd, hc]; rfl

theorem isTup_imm {h h' : Heap} {a : Addr} {vs : Array Value} (k : ∀ a o, h.get? a = some o → fixed o = true → h'.get? a = some o) (x : IsTup h a vs) : IsTup h' a vs := by
  obtain ⟨o, ho, hc, n, hd⟩ := x
  exact ⟨o, k _ _ ho (fixed_tup hc hd), hc, n, hd⟩

theorem RV.mono {base : Heap} {φ φ' : Adrs} {h h' : Heap} (e : φ <+: φ') (k : ∀ a o, h.get? a = some o → fixed o = true → h'.get? a = some o) {v : MV} {x : Value} (r : RV base φ h v x) : RV base φ' h' v x :=
  RV.rec (motive_1 := fun v x _ => RV base φ' h' v x) (motive_2 := fun l xs _ => RVs base φ' h' l xs) .none .bool .int (fun i a d q => .ref i a d (prefix_get e q)) (fun l a vs q _ r => .tup l a vs (isTup_imm k q) r)
    .frz (fun a b c r t u v q => .rng a b c r t u v (k _ _ q rfl)) .nil (fun _ _ q r => .cons q r) r
theorem RVs.mono {base : Heap} {φ φ' : Adrs} {h h' : Heap} (e : φ <+: φ') (k : ∀ a o, h.get? a = some o → fixed o = true → h'.get? a = some o) {v : List MV} {x : List Value} (r : RVs base φ h v x) : RVs base φ' h' v x :=
  RVs.rec (motive_1 := fun v x _ => RV base φ' h' v x) (motive_2 := fun l xs _ => RVs base φ' h' l xs) .none .bool .int (fun i a d q => .ref i a d (prefix_get e q)) (fun l a vs q _ r => .tup l a vs (isTup_imm k q) r)
    .frz (fun a b c r t u v q => .rng a b c r t u v (k _ _ q rfl)) .nil (fun _ _ q r => .cons q r) r
section
variable {base : Heap} {φ : Adrs} {h : Heap} {x : Value} {xs : List Value}
theorem RV.none_inv (r : RV base φ h .none x) : x = .none := by cases r; rfl
theorem RV.int_inv {i : Int} (r : RV base φ h (.int i) x) : ∃ t, x = .int i t := by cases r; exact ⟨_, rfl⟩
theorem RV.ref_inv {i : Nat} (r : RV base φ h (.ref i) x) : ∃ a d, x = .ref a ∧ φ[i]? = some (a, d) := by cases r; exact ⟨_, _, rfl, ‹_›⟩
theorem RV.tup_inv {l : List MV} (r : RV base φ h (.tup l) x) : ∃ a vs, x = .ref a ∧ IsTup h a vs.toArray ∧ RVs base φ h l vs := by cases r; exact ⟨_, _, rfl, ‹_›, ‹_›⟩
theorem RV.frz_inv {l : List Int} (r : RV base φ h (.frz l) x) : ∃ a vs, x = .ref a ∧ base.IsList a vs.toArray ∧ IntsAre vs l := by cases r; exact ⟨_, _, rfl, ‹_›, ‹_›⟩
theorem RV.rng_inv {a b c : Int} (r : RV base φ h (.rng a b c) x) : ∃ d t u v, x = .ref d ∧ IsRange h d a b c t u v := by cases r; exact ⟨_, _, _, _, rfl, ‹_›⟩
theorem RVs.nil_inv (r : RVs base φ h [] xs) : xs = [] := by cases r; rfl
theorem RVs.cons_inv {v : MV} {l : List MV} (r : RVs base φ h (v :: l) xs) : ∃ y ys, xs = y :: ys ∧ RV base φ h v y ∧ RVs base φ h l ys := by cases r; exact ⟨_, _, rfl, ‹_›, ‹_›⟩
theorem RVs.one_inv {v : MV} (r : RVs base φ h [v] xs) : ∃ y, xs = [y] ∧ RV base φ h v y := by
  obtain ⟨y, ys, rfl, q, r⟩ := r.cons_inv
  rw [r.nil_inv]; exact ⟨y, rfl, q⟩
theorem RVs.two_inv {v w : MV} (r : RVs base φ h [v, w] xs) : ∃ y z, xs = [y, z] ∧ RV base φ h v y ∧ RV base φ h w z := by
  obtain ⟨y, ys, rfl, q, r⟩ := r.cons_inv
  obtain ⟨z, rfl, q'⟩ := r.one_inv
  exact ⟨y, z, rfl, q, q'⟩
end
theorem RV.post {base : Heap} {φ φ' : Adrs} {S : List Addr} {h h' : Heap} (p : Post φ φ' S h h') {v : MV} {x : Value} (q : RV base φ h v x) : RV base φ' h' v x := q.mono p.ext p.imm
theorem RVs.post {base : Heap} {φ φ' : Adrs} {S : List Addr} {h h' : Heap} (p : Post φ φ' S h h') {v : List MV} {x : List Value} (q : RVs base φ h v x) : RVs base φ' h' v x := q.mono p.ext p.imm
section
variable {base : Heap} {φ : Adrs} {h : Heap}
theorem RVs.length {v : List MV} : ∀ {x : List Value}, RVs base φ h v x → v.length = x.length := by
  induction v with
  | nil => intro x r; rw [r.nil_inv]; rfl
  | cons m v ih => intro x r; obtain ⟨y, ys, rfl, -, r⟩ := r.cons_inv; rw [List.length_cons, List.length_cons, ih r]
theorem RVs.get {v : List MV} : ∀ {x : List Value}, RVs base φ h v x → ∀ {i : Nat} {m : MV}, v[i]? = some m → ∃ y, x[i]? = some y ∧ RV base φ h m y := by
  induction v with
  | nil => intro x r i m e; rw [List.getElem?_nil] at e; cases e
  | cons m v ih =>
    intro x r i m' e
    obtain ⟨y, ys, rfl, q, r⟩ := r.cons_inv
    cases i with
    | zero => rw [List.getElem?_cons_zero] at e; rw [← Option.some.inj e]; exact ⟨y, List.getElem?_cons_zero, q⟩
    | succ i => rw [List.getElem?_cons_succ] at e ⊢; exact ih r e
theorem RVs.append {v v' : List MV} {x x' : List Value} (r : RVs base φ h v x) (s : RVs base φ h v' x') : RVs base φ h (v ++ v') (x ++ x') := by
  induction v generalizing x with
  | nil => rw [r.nil_inv]; exact s
  | cons m v ih => obtain ⟨y, ys, rfl, q, r⟩ := r.cons_inv; exact .cons q (ih r)
theorem RVs.set {m : MV} {y : Value} (q' : RV base φ h m y) {v : List MV} : ∀ {x : List Value}, RVs base φ h v x → ∀ i : Nat, RVs base φ h (v.set i m) (x.set i y) := by
  induction v with
  | nil => intro x r i; rw [r.nil_inv]; exact .nil
  | cons m v ih =>
    intro x r i
    obtain ⟨y, ys, rfl, q, r⟩ := r.cons_inv
    cases i with
    | zero => exact .cons q' r
    | succ i => exact .cons q (ih r i)
end

theorem FM.mono {base : Heap} {φ φ' : Adrs} {h h' : Heap} (e : φ <+: φ') (k : ∀ a o, h.get? a = some o → fixed o = true → h'.get? a = some o) {ns : List Str} {l : List MV} {m : Str → Option Value} (q : FM base φ h ns l m) : FM base φ' h' ns l m := by
  refine ⟨q.1, fun i x hx => ?_, q.2.2⟩
  have := q.2.1 i x hx
  cases hl : l[i]? with
  | none => rw [hl] at this; exact this
  | some v =>
    rw [hl] at this
    obtain ⟨y, e1, r⟩ := this
    exact ⟨y, e1, r.mono e k⟩
theorem ns1_at {h h' : Heap} {d : Addr} {m : Str → Option Value} (x : h.Ns1 d m) (k : ∀ o, h.get? d = some o → h'.get? d = some o) : h'.Ns1 d m := by
  obtain ⟨o, es, ep, e, r⟩ := x
  exact ⟨o, es, ep, k _ e, r⟩
theorem OR.mono {W : Wd} {φ φ' : Adrs} {h h' : Heap} (e : φ <+: φ') (k : ∀ a o, h.get? a = some o → fixed o = true → h'.get? a = some o) {o : MO} {a d : Addr} (hd : ∀ x, h.get? d = some x → h'.get? d = some x) (q : OR W φ h o a d) : OR W φ' h' o a d := by
  cases o with
  | list l =>
    obtain ⟨rfl, vs, n, h1, h2⟩ := q
    exact ⟨rfl, vs, n, hd _ h1, h2.mono e k⟩
  | obj c l =>
    cases hc : W.cls c with
    | some C =>
      simp only [OR, hc] at q ⊢
      obtain ⟨h0, h1, h2, m, h3, h4⟩ := q
      exact ⟨k _ _ h0 rfl, h1, h2, m, ns1_at h3 hd, h4.mono e k⟩
    | none =>
      simp only [OR, hc] at q ⊢
      obtain ⟨h0, kvs, h1, h2, h3⟩ := q
      exact ⟨h0, kvs, h1.at hd, h2, h3.mono e k⟩

theorem OR.carrier {W : Wd} {φ : Adrs} {h : Heap} {o : MO} {a d : Addr} (q : OR W φ h o a d) : ∃ x, h.get? d = some x ∧ fixed x = false := by
  cases o with
  | list l => obtain ⟨rfl, vs, n, h1, _⟩ := q; exact ⟨_, h1, rfl⟩
  | obj c l =>
    cases hc : W.cls c with
    | some C =>
      simp only [OR, hc] at q
      obtain ⟨_, _, _, m, ⟨o, es, ep, h3, h4, _⟩, _⟩ := q
      exact ⟨o, h3, by unfold fixed; rw [h4]⟩
    | none =>
      simp only [OR, hc] at q
      obtain ⟨_, kvs, ⟨o, es, ep, h1, _, h2, _⟩, _⟩ := q
      exact ⟨o, h1, by unfold fixed; rw [h2]⟩

theorem Sim.carrier {W : Wd} {φ : Adrs} {H : St} {h : Heap} (S : Sim W φ H h) {p : Addr × Addr} (hp : p ∈ φ) : ∃ x, h.get? p.2 = some x ∧ fixed x = false := by
  obtain ⟨i, hi, e⟩ := List.mem_iff_getElem.mp hp
  have hi' : i < H.length := S.len ▸ hi
  obtain ⟨a, d, e1, q⟩ := S.obj i H[i] (List.getElem?_eq_getElem hi')
  rw [List.getElem?_eq_getElem hi, e] at e1
  cases Option.some.inj e1
  exact q.carrier

theorem Sim.list_of {W : Wd} {φ : Adrs} {H : St} {h : Heap} (S : Sim W φ H h) {i : Nat} {l : List MV} {x : Value} (hl : H[i]? = some (.list l)) (r : RV W.base φ h (.ref i) x) :
    ∃ a vs n, x = .ref a ∧ φ[i]? = some (a, a) ∧ h.get? a = some (lst vs n) ∧ RVs W.base φ h l vs.toList := by
  obtain ⟨a, d, rfl, ha⟩ := r.ref_inv
  obtain ⟨a1, d1, e1, rfl, vs, n, h1, h2⟩ := S.obj i _ hl
  have e := ha.symm.trans e1
  rw [Option.some.injEq, Prod.mk.injEq] at e
  obtain ⟨rfl, rfl⟩ := e
  exact ⟨_, vs, n, rfl, ha, h1, h2⟩
theorem Sim.obj_of {W : Wd} {φ : Adrs} {H : St} {h : Heap} (S : Sim W φ H h) {i : Nat} {o : MO} {x : Value} (hl : H[i]? = some o) (r : RV W.base φ h (.ref i) x) : ∃ a d, x = .ref a ∧ φ[i]? = some (a, d) ∧ OR W φ h o a d := by
  obtain ⟨a, d, rfl, ha⟩ := r.ref_inv
  obtain ⟨a1, d1, e1, q⟩ := S.obj i _ hl
  have e := ha.symm.trans e1
  rw [Option.some.injEq, Prod.mk.injEq] at e
  obtain ⟨rfl, rfl⟩ := e
  exact ⟨_, _, rfl, ha, q⟩

theorem Sim.keep {W : Wd} {φ : Adrs} {H : St} {h h' : Heap} (S : Sim W φ H h) {T : List Addr} (P : Post φ φ T h h') (hT : ∀ a ∈ T, a ∉ φ.map (·.2) ∧ W.base.get? a = none)
    (hc : ∀ a o, h.get? a = some o → a ∈ φ.map (·.2) → h'.get? a = some o) : Sim W φ H h' := by
  refine ⟨fun b o e => ?_, S.len, S.nodup, S.out, fun i o e => ?_⟩
  · refine P.keep b o (S.base b o e) (fun q => ?_) fun q => ?_
    · have := (hT b q).2; rw [e] at this; cases this
    · obtain ⟨p, hp, rfl⟩ := List.mem_map.mp q
      have := S.out p hp; rw [e] at this; cases this
  · obtain ⟨a, d, e1, q⟩ := S.obj i o e
    refine ⟨a, d, e1, q.mono List.prefix_rfl P.imm fun x hx => hc d x hx ?_⟩
    exact List.mem_map.mpr ⟨(a, d), List.mem_of_getElem? e1, rfl⟩

theorem Sim.new {W : Wd} {φ : Adrs} {H : St} {h : Heap} (S : Sim W φ H h) {o : MO} {a d : Addr} (hd : d ∉ φ.map (·.2)) (hb : W.base.get? d = none)
    (q : OR W φ h o a d) : Sim W (φ ++ [(a, d)]) (H ++ [o]) h := by
  refine ⟨S.base, by simp [S.len], ?_, ?_, fun i o' e => ?_⟩
  · rw [List.map_append, List.nodup_append]
    refine ⟨S.nodup, by simp, ?_⟩
    intro x hx y hy e
    simp at hy
    subst hy; subst e
    exact hd hx
  · intro p hp
    rcases List.mem_append.mp hp with q | q
    · exact S.out p q
    · simp at q; subst q; exact hb
  · have ep : φ <+: φ ++ [(a, d)] := List.prefix_append ..
    by_cases hi : i < H.length
    · rw [List.getElem?_append_left hi] at e
      obtain ⟨a', d', e1, q'⟩ := S.obj i o' e
      exact ⟨a', d', prefix_get ep e1, q'.mono ep (fun _ _ e _ => e) fun _ e => e⟩
    · have : i = H.length := by
        have := (List.getElem?_eq_some_iff.mp e).1
        simp at this; omega
      subst this
      simp at e
      subst e
      exact ⟨a, d, by rw [← S.len]; simp, q.mono ep (fun _ _ e _ => e) fun _ e => e⟩

theorem nodup_get {α : Type} {l : List α} (h : l.Nodup) {i j : Nat} {a : α} (hi : l[i]? = some a) (hj : l[j]? = some a) : i = j := by
  obtain ⟨h1, e1⟩ := List.getElem?_eq_some_iff.mp hi
  obtain ⟨h2, e2⟩ := List.getElem?_eq_some_iff.mp hj
  have := List.pairwise_iff_getElem.mp h
  rcases Nat.lt_trichotomy i j with q | q | q
  · exact absurd (e1.trans e2.symm) (this i j h1 h2 q)
  · exact q
  · exact absurd (e2.trans e1.symm) (this j i h2 h1 q)

theorem Sim.set {W : Wd} {φ : Adrs} {H : St} {h h' : Heap} (S : Sim W φ H h) {i : Nat} {o o' : MO} {a d : Addr} (_hi : H[i]? = some o) (hp : φ[i]? = some (a, d))
    (hk : ∀ b x, b ≠ d → h.get? b = some x → h'.get? b = some x) (hm : ∀ x, h.get? d = some x → fixed x = false) (q : (∀ b x, h.get? b = some x → fixed x = true → h'.get? b = some x) → OR W φ h' o' a d) : Sim W φ (H.set i o') h' := by
  have imm : ∀ b x, h.get? b = some x → fixed x = true → h'.get? b = some x := fun b x e hf => by
    refine hk b x (fun q => ?_) e
    subst q
    rw [hm x e] at hf; cases hf
  refine ⟨fun b x e => ?_, by simp [S.len], S.nodup, S.out, fun j x e => ?_⟩
  · refine hk b x (fun q => ?_) (S.base b x e)
    have := S.out (a, d) (List.mem_of_getElem? hp)
    rw [← q, e] at this; cases this
  · by_cases hj : j = i
    · subst hj
      have hl : j < H.length := by
        have := (List.getElem?_eq_some_iff.mp e).1
        simpa using this
      rw [List.getElem?_set_self hl] at e
      cases e
      exact ⟨a, d, hp, q imm⟩
    · rw [List.getElem?_set_ne (Ne.symm hj)] at e
      obtain ⟨a', d', e1, q'⟩ := S.obj j x e
      refine ⟨a', d', e1, q'.mono List.prefix_rfl imm fun y hy => hk d' y (fun e2 => ?_) hy⟩
      subst e2
      refine hj (nodup_get S.nodup (a := d') ?_ ?_)
      · rw [List.getElem?_map, e1]; rfl
      · rw [List.getElem?_map, hp]; rfl

end Mine
namespace Mine

noncomputable def Room (n : Nat) (A : Around) : Prop := A.handled = none ∧ A.depth + n ≤ 600 ∧ A.units + 20 * n ≤ 8000

structure Loc (W : Wd) (env : Env) (sl : List (Option Str)) (lo : Lo) (φ : Adrs) (h : Heap) : Prop where
  kind : env.scope.kind = .function
  glob : env.globals = mainGlobals
  blt : env.builtins = builtinsNs
  own : ∀ a, a = env.locals ∨ a ∈ env.cells.map (·.2) → a ∉ φ.map (·.2) ∧ W.base.get? a = none ∧ ∃ o, h.get? a = some o ∧ fixed o = false
  uniq : ∀ (i j : Nat) (x : Str), sl[i]? = some (some x) → sl[j]? = some (some x) → i = j
  loc : ∃ m, h.Ns env.locals m ∧ ∀ (i : Nat) (x : Str) (v : MV), sl[i]? = some (some x) → env.kindOf x = some .local → lo[i]? = some (some v) → ∃ y, m x = some y ∧ RV W.base φ h v y
  cel : ∀ (i : Nat) (x : Str) (v : MV), sl[i]? = some (some x) → env.kindOf x = some .cell → lo[i]? = some (some v) → ∃ c y, env.cells.lookup x = some c ∧ h.IsCell c (some y) ∧ RV W.base φ h v y
  has : ∀ x, env.kindOf x = some .cell → ∃ c v, env.cells.lookup x = some c ∧ h.IsCell c v
  apart : ∀ x c, env.cells.lookup x = some c → c ≠ env.locals ∧ ∀ y, env.cells.lookup y = some c → y = x

noncomputable abbrev ownOfE (env : Env) : List Addr := env.locals :: env.cells.map (·.2)

theorem lookup_mem {α : Type} {l : List (Str × α)} {n : Str} {c : α} (h : l.lookup n = some c) : c ∈ l.map (·.2) := List.mem_map.mpr ⟨_, mem_of_lookup h, rfl⟩

theorem Loc.post {W : Wd} {env : Env} {sl : List (Option Str)} {lo : Lo} {φ φ' : Adrs} {S : List Addr} {h h' : Heap} (L : Loc W env sl lo φ h) (P : Post φ φ' S h h')
    (hS : ∀ a ∈ S, a = env.locals ∨ a ∉ ownOfE env) (hn : ∀ m, h.Ns env.locals m → h'.Ns env.locals m) : Loc W env sl lo φ' h' := by
  have kc : ∀ c ∈ env.cells.map (·.2), c ≠ env.locals → ∀ o, h.get? c = some o → h'.get? c = some o := fun c hc hne o e => by
    refine P.keep c o e (fun q => ?_) (L.own c (.inr hc)).1
    rcases hS c q with r | r
    · exact hne r
    · exact r (.tail _ hc)
  refine ⟨L.kind, L.glob, L.blt, fun a ha => ?_, L.uniq, ?_, fun i x v h1 h2 h3 => ?_, fun x hx => ?_, L.apart⟩
  · obtain ⟨h1, h2, o, h3, h4⟩ := L.own a ha
    refine ⟨fun q => ?_, h2, ?_⟩
    · obtain ⟨p, hp, rfl⟩ := List.mem_map.mp q
      rcases P.fresh p hp with r | r
      · exact h1 (List.mem_map_of_mem r)
      · rw [h3] at r; cases r
    · by_cases hl : a = env.locals
      · subst hl
        obtain ⟨m, hm, _⟩ := L.loc
        obtain ⟨o', es, ep, e1, e2, _⟩ := hn m hm
        exact ⟨o', e1, by unfold fixed; rw [e2]⟩
      · exact ⟨o, kc a (ha.resolve_left hl) hl o h3, h4⟩
  · obtain ⟨m, hm, hv⟩ := L.loc
    refine ⟨m, hn m hm, fun i x v h1 h2 h3 => ?_⟩
    obtain ⟨y, e, r⟩ := hv i x v h1 h2 h3
    exact ⟨y, e, r.post P⟩
  · obtain ⟨c, y, e1, ⟨o, e2, e3⟩, r⟩ := L.cel i x v h1 h2 h3
    exact ⟨c, y, e1, ⟨o, kc c (lookup_mem e1) (L.apart x c e1).1 o e2, e3⟩, r.post P⟩
  · obtain ⟨c, v, e1, o, e2, e3⟩ := L.has x hx
    exact ⟨c, v, e1, o, kc c (lookup_mem e1) (L.apart x c e1).1 o e2, e3⟩

theorem Loc.post0 {W : Wd} {env : Env} {sl : List (Option Str)} {lo : Lo} {φ φ' : Adrs} {h h' : Heap} (L : Loc W env sl lo φ h) (P : Post φ φ' [] h h') : Loc W env sl lo φ' h' := by
  refine L.post P (fun a ha => nomatch ha) fun m hm => ?_
  obtain ⟨o, es, ep, ho, r⟩ := hm
  exact ⟨o, es, ep, P.keep _ _ ho (fun q => nomatch q) (L.own _ (.inl rfl)).1, r⟩

noncomputable def Same (s s' : Shared) : Prop := ∃ h t, s' = { s with heap := h, toks := t }
theorem Same.refl (s : Shared) : Same s s := ⟨s.heap, s.toks, rfl⟩
theorem Same.trans {s s' s'' : Shared} (x : Same s s') (y : Same s' s'') : Same s s'' := by
  obtain ⟨h, t, rfl⟩ := x; obtain ⟨h', t', rfl⟩ := y; exact ⟨h', t', rfl⟩

structure EP (W : Wd) (φ φ' : Adrs) (H' : St) (S : List Addr) (s s' : Shared) : Prop where
  sim : Sim W φ' H' s'.heap
  post : Post φ φ' S s.heap s'.heap
  same : Same s s'

noncomputable abbrev NoE : Value → Shared → Prop := fun _ _ => False

noncomputable def SE (W : Wd) (n : Nat) (env : Env) (sl : List (Option Str)) (e : Expr) (f : DE) : Prop :=
  ∀ A φ lo H s v H', f lo H = some (v, H') → Room n A → Sim W φ H s.heap → Loc W env sl lo φ s.heap →
    wpAny (model W.prog W.w) A (eval e env) (fun y s' => ∃ φ', EP W φ φ' H' [] s s' ∧ RV W.base φ' s'.heap v y) NoE s

noncomputable def RFl (W : Wd) (φ : Adrs) (h : Heap) : Fl → Flow → Prop
  | .next, .next => True
  | .brk, .brk => True
  | .cont, .cont => True
  | .ret v, .ret y => RV W.base φ h v y
  | _, _ => False

noncomputable def SS (W : Wd) (n : Nat) (env : Env) (sl : List (Option Str)) (t : Stmt) (f : DS) : Prop :=
  ∀ A φ lo H s fl lo' H', f lo H = some (fl, lo', H') → Room n A → Sim W φ H s.heap → Loc W env sl lo φ s.heap →
    wpAny (model W.prog W.w) A (exec t env) (fun y s' => ∃ φ', EP W φ φ' H' (ownOfE env) s s' ∧ Loc W env sl lo' φ' s'.heap ∧ RFl W φ' s'.heap fl y) NoE s

noncomputable def SB (W : Wd) (n : Nat) (env : Env) (sl : List (Option Str)) (t : List Stmt) (f : DS) : Prop :=
  ∀ A φ lo H s fl lo' H', f lo H = some (fl, lo', H') → Room n A → Sim W φ H s.heap → Loc W env sl lo φ s.heap →
    wpAny (model W.prog W.w) A (execs t env) (fun y s' => ∃ φ', EP W φ φ' H' (ownOfE env) s s' ∧ Loc W env sl lo' φ' s'.heap ∧ RFl W φ' s'.heap fl y) NoE s

theorem EP.trans {W : Wd} {φ φ' φ'' : Adrs} {H' H'' : St} {S : List Addr} {s s' s'' : Shared} (x : EP W φ φ' H' S s s') (y : EP W φ' φ'' H'' S s' s'') : EP W φ φ'' H'' S s s'' :=
  ⟨y.sim, x.post.trans y.post, x.same.trans y.same⟩
theorem EP.weaken {W : Wd} {φ φ' : Adrs} {H' : St} {S S' : List Addr} {s s' : Shared} (x : EP W φ φ' H' S s s') (h : ∀ a ∈ S, a ∈ S') : EP W φ φ' H' S' s s' := ⟨x.sim, x.post.weaken h, x.same⟩
theorem EP.zero {W : Wd} {φ φ' : Adrs} {H' : St} {S : List Addr} {s s' : Shared} (x : EP W φ φ' H' [] s s') : EP W φ φ' H' S s s' := x.weaken fun _ h => nomatch h
theorem EP.refl {W : Wd} {φ : Adrs} {H : St} {S : List Addr} {s : Shared} (x : Sim W φ H s.heap) : EP W φ φ H S s s := ⟨x, .refl .., .refl s⟩
theorem EP.tok {W : Wd} {φ : Adrs} {H : St} {S : List Addr} {s : Shared} (x : Sim W φ H s.heap) (t : Nat) : EP W φ φ H S s { s with toks := t } := ⟨x, .refl .., ⟨s.heap, t, rfl⟩⟩

theorem noE {α : Type} {M : Model} {A : Around} {t : Sem α} {Q : α → Shared → Prop} {E : Value → Shared → Prop} {s : Shared} (h : wpAny M A t Q NoE s) : wpAny M A t Q E s :=
  wpAny_mono h (fun _ _ x => x) fun _ _ x => x.elim

section
variable {W : Wd} {n : Nat} {env : Env} {sl : List (Option Str)}

noncomputable def D.loc (i : Nat) : DE := fun lo H => match lo[i]? with
  | some (some v) => some (v, H)
  | _ => none
theorem se_loc {i : Nat} {x : Str} {pos : Pos} (hx : sl[i]? = some (some x)) (hk : env.kindOf x = some .local ∨ env.kindOf x = some .cell) (hd : (x == ("__debug__" : Str)) = false) : SE W n env sl (.Name x pos) (D.loc i) := by
  intro A φ lo H s v H' hf _ S L
  unfold D.loc at hf
  split at hf
  · rename_i v' hv
    cases hf
    rcases hk with hk | hk
    · obtain ⟨m, hm, hr⟩ := L.loc
      obtain ⟨y, e, r⟩ := hr i x v hx hk hv
      exact wpAny_Name (wpAny_loadName_local L.kind hk hm e ⟨φ, .refl S, r⟩) hd
    · obtain ⟨c, y, e1, e2, r⟩ := L.cel i x v hx hk hv
      exact wpAny_Name (wpAny_loadName_cell L.kind hk e1 e2 ⟨φ, .refl S, r⟩) hd
  · cases hf

noncomputable def D.const (v : MV) : DE := fun _ H => some (v, H)
theorem se_int {i : Int} {k : Nat} {pos : Pos} : SE W n env sl (.Constant (.int i) k pos) (D.const (.int i)) := by
  intro A φ lo H s v H' hf _ S L
  cases hf
  exact wpAny_Constant_int ⟨φ, .tok S _, .int ..⟩
theorem se_none {k : Nat} {pos : Pos} : SE W n env sl (.Constant .none k pos) (D.const .none) := by
  intro A φ lo H s v H' hf _ S L
  cases hf
  exact wpAny_pure ⟨φ, .refl S, .none⟩
theorem se_bool {b : Bool} {k : Nat} {pos : Pos} : SE W n env sl (.Constant (.bool b) k pos) (D.const (.bool b)) := by
  intro A φ lo H s v H' hf _ S L
  cases hf
  exact wpAny_pure ⟨φ, .refl S, .bool _⟩

theorem glob_name {A : Around} {s : Shared} {x : Str} {pos : Pos} {v : Value} {Q : Value → Shared → Prop} {E : Value → Shared → Prop} {lo : Lo} {φ : Adrs} {H : St} (S : Sim W φ H s.heap) (L : Loc W env sl lo φ s.heap)
    (e : nsIn W.K mainGlobals x = some (some v)) (hx : env.kindOf x = some .globalImplicit) (hd : (x == ("__debug__" : Str)) = false) (q : Q v s) : wpAny (model W.prog W.w) A (eval (.Name x pos) env) Q E s :=
  Name_function_global L.kind hx (loadGlobal_global (env := env) (by rw [L.glob]; exact W.T.g.keeps S.base) (mg_of W.KX W.T.g e) q) hd
theorem blt_name {A : Around} {s : Shared} {x : Str} {pos : Pos} {v : Value} {Q : Value → Shared → Prop} {E : Value → Shared → Prop} {lo : Lo} {φ : Adrs} {H : St} (S : Sim W φ H s.heap) (L : Loc W env sl lo φ s.heap)
    (e : nsIn W.K mainGlobals x = some none) (hv : bootBuiltins x = some v) (hn : x ≠ "__name__") (hx : env.kindOf x = some .globalImplicit) (hd : (x == ("__debug__" : Str)) = false) (q : Q v s) : wpAny (model W.prog W.w) A (eval (.Name x pos) env) Q E s :=
  Name_function_global L.kind hx (loadGlobal_builtin (env := env) (by rw [L.glob]; exact W.T.g.keeps S.base) (mg_none_of W.KX W.T.g e) (by rw [L.blt]; exact W.T.b.keeps S.base) ((W.T.builtins x hn).trans hv) q) hd

theorem se_globInt {x : Str} {pos : Pos} {i : Int} {t : Tok} (e : nsIn W.K mainGlobals x = some (some (.int i t))) (hx : env.kindOf x = some .globalImplicit) (hd : (x == ("__debug__" : Str)) = false) : SE W n env sl (.Name x pos) (D.const (.int i)) := by
  intro A φ lo H s v H' hf _ S L
  cases hf
  exact glob_name S L e hx hd ⟨φ, .refl S, .int ..⟩

end
end Mine
namespace Mine

noncomputable def bnd {α β : Type} (x : Option (α × St)) (k : α → St → Option β) : Option β := match x with
  | some (a, H) => k a H
  | none => none
@[simp] theorem bnd_some {α β : Type} {a : α} {H : St} {k : α → St → Option β} : bnd (some (a, H)) k = k a H := rfl
@[simp] theorem bnd_none {α β : Type} {k : α → St → Option β} : bnd none k = none := rfl
theorem bnd_inv {α β : Type} {x : Option (α × St)} {k : α → St → Option β} {r : β} (h : bnd x k = some r) : ∃ a H, x = some (a, H) ∧ k a H = some r := by
  unfold bnd at h
  split at h
  · exact ⟨_, _, rfl, h⟩
  · cases h

noncomputable def ST (W : Wd) (n : Nat) (env : Env) (sl : List (Option Str)) (e : Expr) (f : Lo → St → Option (Bool × St)) : Prop :=
  ∀ A φ lo H s v H', f lo H = some (v, H') → Room n A → Sim W φ H s.heap → Loc W env sl lo φ s.heap →
    wpAny (model W.prog W.w) A (isTrue e env (eval e env)) (fun y s' => ∃ φ', EP W φ φ' H' [] s s' ∧ y = v) NoE s

noncomputable def tru : MV → Option Bool
  | .bool b => some b
  | .int i => some (i != 0)
  | .none => some false
  | _ => none

section
variable {W : Wd} {n : Nat} {env : Env} {sl : List (Option Str)} {A : Around}

theorem truthy_ok {v : MV} {y : Value} {b : Bool} {φ : Adrs} {H : St} {s : Shared} (ht : tru v = some b) (S : Sim W φ H s.heap) (r : RV W.base φ s.heap v y) :
    wpAny (model W.prog W.w) A (truthy y) (fun c s' => ∃ φ', EP W φ φ' H [] s s' ∧ c = b) NoE s := by
  cases r <;> cases ht
  · exact wpAny_pure ⟨φ, .refl S, rfl⟩
  · exact wpAny_truthy_bool ⟨φ, .refl S, rfl⟩
  · exact P.truthy_int ⟨φ, .refl S, rfl⟩

noncomputable def D.neg (f : DE) : DE := fun lo H => bnd (f lo H) fun a H => match a with
  | .int i => some (.int (-i), H)
  | _ => none
theorem se_neg {x : Expr} {pos : Pos} {f : DE} (hx : SE W n env sl x f) : SE W n env sl (.UnaryOp .USub x pos) (D.neg f) := by
  intro A φ lo H s v H' hf R S L
  obtain ⟨a, H1, h1, h2⟩ := bnd_inv hf
  refine UnaryOp_ (wpAny_mono (hx A φ lo H s a H1 h1 R S L) (fun y s1 ⟨φ1, E1, r1⟩ => ?_) fun _ _ x => x)
  cases r1 <;> try cases h2
  exact P.neg_int ⟨φ1, E1.trans (.tok E1.sim _), .int ..⟩

noncomputable def D.not (f : Lo → St → Option (Bool × St)) : Lo → St → Option (Bool × St) := fun lo H => bnd (f lo H) fun a H => some (!a, H)
theorem st_not {x : Expr} {pos : Pos} {f : Lo → St → Option (Bool × St)} (hx : ST W n env sl x f) : ST W n env sl (.UnaryOp .Not x pos) (D.not f) := by
  intro A φ lo H s v H' hf R S L
  obtain ⟨a, H1, h1, h2⟩ := bnd_inv hf
  cases h2
  exact isTrue_not (wpAny_mono (hx A φ lo H s a _ h1 R S L) (fun y s1 ⟨φ1, E1, r1⟩ => ⟨φ1, E1, by rw [r1]⟩) fun _ _ x => x)

noncomputable def D.truth (f : DE) : Lo → St → Option (Bool × St) := fun lo H => bnd (f lo H) fun a H => (tru a).map fun b => (b, H)
theorem st_val {e : Expr} {f : DE} (hx : SE W n env sl e f) (he : isTrue e env (eval e env) = (do let v ← eval e env; standAt e.pos; holding [v] (truthy v))) : ST W n env sl e (D.truth f) := by
  intro A φ lo H s v H' hf R S L
  obtain ⟨a, H1, h1, h2⟩ := bnd_inv hf
  obtain ⟨b, hb, h3⟩ := Option.map_eq_some_iff.mp h2
  cases h3
  refine wpAny_isTrue_value (wpAny_mono (hx A φ lo H s a _ h1 R S L) (fun y s1 ⟨φ1, E1, r1⟩ => ?_) fun _ _ x => x) he
  exact wpAny_mono (truthy_ok hb E1.sim r1) (fun c s2 ⟨φ2, E2, r2⟩ => ⟨φ2, E1.trans E2, r2⟩) fun _ _ x => x

noncomputable def D.ofTest (f : Lo → St → Option (Bool × St)) : DE := fun lo H => bnd (f lo H) fun a H => some (.bool a, H)
noncomputable def D.ite (t : Lo → St → Option (Bool × St)) (f g : DE) : DE := fun lo H => bnd (t lo H) fun b H => if b then f lo H else g lo H
theorem se_ite {t b o : Expr} {pos : Pos} {ft : Lo → St → Option (Bool × St)} {f g : DE} (ht : ST W n env sl t ft) (hb : SE W n env sl b f) (ho : SE W n env sl o g) : SE W n env sl (.IfExp t b o pos) (D.ite ft f g) := by
  intro A φ lo H s v H' hf R S L
  obtain ⟨a, H1, h1, h2⟩ := bnd_inv hf
  refine IfExp_ (wpAny_mono (ht A φ lo H s a H1 h1 R S L) (fun y s1 ⟨φ1, E1, r1⟩ => ?_) fun _ _ x => x)
  subst r1
  cases y
  · exact wpAny_mono (ho A φ1 lo H1 s1 v H' h2 R E1.sim (L.post0 E1.post)) (fun y s2 ⟨φ2, E2, r2⟩ => ⟨φ2, E1.trans E2, r2⟩) fun _ _ x => x
  · exact wpAny_mono (hb A φ1 lo H1 s1 v H' h2 R E1.sim (L.post0 E1.post)) (fun y s2 ⟨φ2, E2, r2⟩ => ⟨φ2, E1.trans E2, r2⟩) fun _ _ x => x

noncomputable def D.andT (f g : Lo → St → Option (Bool × St)) : Lo → St → Option (Bool × St) := fun lo H => bnd (f lo H) fun b H => if b then g lo H else some (false, H)
noncomputable def D.orT (f g : Lo → St → Option (Bool × St)) : Lo → St → Option (Bool × St) := fun lo H => bnd (f lo H) fun b H => if b then some (true, H) else g lo H
noncomputable def D.tt : Lo → St → Option (Bool × St) := fun _ H => some (true, H)
noncomputable def D.ff : Lo → St → Option (Bool × St) := fun _ H => some (false, H)
theorem st_and_nil {pos : Pos} : ST W n env sl (.BoolOp .And [] pos) D.tt := by
  intro A φ lo H s v H' hf R S L
  cases hf
  exact isTrue_and_nil ⟨φ, .refl S, rfl⟩
theorem st_or_nil {pos : Pos} : ST W n env sl (.BoolOp .Or [] pos) D.ff := by
  intro A φ lo H s v H' hf R S L
  cases hf
  exact isTrue_or_nil ⟨φ, .refl S, rfl⟩
theorem st_and {x : Expr} {r : List Expr} {pos : Pos} {f g : Lo → St → Option (Bool × St)} (hx : ST W n env sl x f) (hr : ST W n env sl (.BoolOp .And r pos) g) : ST W n env sl (.BoolOp .And (x :: r) pos) (D.andT f g) := by
  intro A φ lo H s v H' hf R S L
  obtain ⟨a, H1, h1, h2⟩ := bnd_inv hf
  refine isTrue_and (wpAny_mono (hx A φ lo H s a H1 h1 R S L) (fun y s1 ⟨φ1, E1, r1⟩ => ?_) fun _ _ x => x)
  subst r1
  cases y
  · cases h2; exact ⟨φ1, E1, rfl⟩
  · exact wpAny_mono (hr A φ1 lo H1 s1 v H' h2 R E1.sim (L.post0 E1.post)) (fun y s2 ⟨φ2, E2, r2⟩ => ⟨φ2, E1.trans E2, r2⟩) fun _ _ x => x
theorem st_or {x : Expr} {r : List Expr} {pos : Pos} {f g : Lo → St → Option (Bool × St)} (hx : ST W n env sl x f) (hr : ST W n env sl (.BoolOp .Or r pos) g) : ST W n env sl (.BoolOp .Or (x :: r) pos) (D.orT f g) := by
  intro A φ lo H s v H' hf R S L
  obtain ⟨a, H1, h1, h2⟩ := bnd_inv hf
  refine isTrue_or (wpAny_mono (hx A φ lo H s a H1 h1 R S L) (fun y s1 ⟨φ1, E1, r1⟩ => ?_) fun _ _ x => x)
  subst r1
  cases y
  · exact wpAny_mono (hr A φ1 lo H1 s1 v H' h2 R E1.sim (L.post0 E1.post)) (fun y s2 ⟨φ2, E2, r2⟩ => ⟨φ2, E1.trans E2, r2⟩) fun _ _ x => x
  · cases h2; exact ⟨φ1, E1, rfl⟩

noncomputable def OpOk (W : Wd) (op : Operator) (b : MV → MV → St → Option (MV × St)) : Prop :=
  ∀ A φ x y H s v H' ex ey, b x y H = some (v, H') → A.handled = none → Sim W φ H s.heap → RV W.base φ s.heap x ex → RV W.base φ s.heap y ey →
    wpAny (model W.prog W.w) A (binaryOp op ex ey) (fun z s' => ∃ φ', EP W φ φ' H' [] s s' ∧ RV W.base φ' s'.heap v z) NoE s
noncomputable def D.bin (b : MV → MV → St → Option (MV × St)) (f g : DE) : DE := fun lo H => bnd (f lo H) fun x H => bnd (g lo H) fun y H => b x y H
theorem se_bin {op : Operator} {b : MV → MV → St → Option (MV × St)} {l r : Expr} {pos : Pos} {f g : DE} (ho : OpOk W op b) (hl : SE W n env sl l f) (hr : SE W n env sl r g) : SE W n env sl (.BinOp l op r pos) (D.bin b f g) := by
  intro A φ lo H s v H' hf R S L
  obtain ⟨x, H1, h1, h2⟩ := bnd_inv hf
  obtain ⟨y, H2, h3, h4⟩ := bnd_inv h2
  refine wpAny_BinOp (wpAny_mono (hl A φ lo H s x H1 h1 R S L) (fun ex s1 ⟨φ1, E1, r1⟩ => ?_) fun _ _ x => x)
  refine wpAny_mono (hr A φ1 lo H1 s1 y H2 h3 R E1.sim (L.post0 E1.post)) (fun ey s2 ⟨φ2, E2, r2⟩ => ?_) fun _ _ x => x
  exact wpAny_mono (ho A φ2 x y H2 s2 v H' ex ey h4 R.1 E2.sim (r1.post E2.post) r2) (fun z s3 ⟨φ3, E3, r3⟩ => ⟨φ3, (E1.trans E2).trans E3, r3⟩) fun _ _ x => x

theorem fresh_post {φ : Adrs} {H : St} {h : Heap} (S : Sim W φ H h) (o : Obj) (ho : o.isFreed = false) (a : Addr) : Post φ (φ ++ [(a, h.objs.size)]) [] h (h.push o) := by
  refine ⟨List.prefix_append .., fun p hp => ?_, fun b x e _ _ => Heap.get?_push_of_some _ e, fun b x e _ => Heap.get?_push_of_some _ e, fun b x e => ⟨x, Heap.get?_push_of_some _ e⟩⟩
  rcases List.mem_append.mp hp with q | q
  · exact .inl q
  · simp at q; subst q
    right
    cases e : h.get? h.objs.size with
    | none => rfl
    | some o' => exact absurd (Heap.lt_size e) (Nat.lt_irrefl _)

theorem new_sim {φ : Adrs} {H : St} {h : Heap} (S : Sim W φ H h) {o : Obj} {m : MO} (ho : o.isFreed = false)
    (q : OR W φ (h.push o) m h.objs.size h.objs.size) : Sim W (φ ++ [(h.objs.size, h.objs.size)]) (H ++ [m]) (h.push o) := by
  have k : ∀ b x, h.get? b = some x → (h.push o).get? b = some x := fun b x e => Heap.get?_push_of_some _ e
  have nf : h.get? h.objs.size = none := by
    cases e : h.get? h.objs.size with
    | none => rfl
    | some o' => exact absurd (Heap.lt_size e) (Nat.lt_irrefl _)
  have S' : Sim W φ H (h.push o) := S.keep (T := []) ⟨List.prefix_rfl, fun _ hp => .inl hp, fun b x e _ _ => k b x e, fun b x e _ => k b x e, fun b x e => ⟨x, k b x e⟩⟩ (fun a ha => nomatch ha) fun b x e _ => k b x e
  refine S'.new (fun hm => ?_) ?_ q
  · obtain ⟨p, hp, e⟩ := List.mem_map.mp hm
    obtain ⟨x, hx, _⟩ := S.carrier hp
    rw [e, nf] at hx; cases hx
  · cases e : W.base.get? h.objs.size with
    | none => rfl
    | some x => have := S.base _ _ e; rw [nf] at this; cases this

theorem new_list {φ : Adrs} {H : St} {s : Shared} {l : List MV} {vs : List Value} {t : Nat} (S : Sim W φ H s.heap) (r : RVs W.base φ s.heap l vs) (n : Nat := 0) :
    EP W φ (φ ++ [(s.heap.objs.size, s.heap.objs.size)]) (H ++ [.list l]) [] s { s with heap := s.heap.push (lst vs.toArray n), toks := t } ∧
      RV W.base (φ ++ [(s.heap.objs.size, s.heap.objs.size)]) (s.heap.push (lst vs.toArray n)) (.ref H.length) (.ref s.heap.objs.size) := by
  refine ⟨⟨new_sim S rfl ⟨rfl, vs.toArray, n, Heap.get?_push_size _ rfl, ?_⟩, fresh_post S _ rfl _, ⟨_, t, rfl⟩⟩, .ref _ _ s.heap.objs.size ?_⟩
  · exact r.mono List.prefix_rfl fun b x e _ => Heap.get?_push_of_some _ e
  · rw [← S.len]; simp

noncomputable abbrev small (n : Nat) : Bool := n ≤ 1000000
noncomputable abbrev smallI (i : Int) : Bool := -(2 ^ 60) < i && i < 2 ^ 60

noncomputable def o.add : MV → MV → St → Option (MV × St)
  | .int a, .int b, H => some (.int (a + b), H)
  | .ref i, .ref j, H => match H[i]?, H[j]? with
    | some (.list l), some (.list k) => if small (l.length + k.length) then some (.ref H.length, H ++ [.list (l ++ k)]) else none
    | _, _ => none
  | _, _, _ => none
theorem ok_add : OpOk W .Add o.add := by
  intro A φ x y H s v H' ex ey hb hA S rx ry
  unfold o.add at hb
  split at hb
  · cases hb; obtain ⟨t, rfl⟩ := rx.int_inv; obtain ⟨u, rfl⟩ := ry.int_inv
    exact P.add_int ⟨φ, .tok S _, .int ..⟩
  · rename_i i j
    split at hb
    · rename_i l k hi hj
      split at hb
      · rename_i hz
        cases hb
        obtain ⟨a, vs, m, rfl, -, hl, rl⟩ := S.list_of hi rx
        obtain ⟨a', ws, m', rfl, -, hk, rk⟩ := S.list_of hj ry
        obtain ⟨E1, R1⟩ := new_list (s := s) (t := s.toks) S (rl.append rk)
        have hz' : l.length + k.length ≤ 1000000 := by simpa [small] using hz
        have e : vs ++ ws = (vs.toList ++ ws.toList).toArray := by simp
        refine concat_meets ⟨_, hl, rfl⟩ ⟨_, hk, rfl⟩ noFill_list_add seq_list_add PySem.F.slot_list_add PySem.F.entry_list_add (PySem.F.args_list_add_2 _ _)
          (list_addW a a' vs ws m m' none none #[] #[] (by rw [← Array.length_toList, ← Array.length_toList, ← rl.length, ← rk.length, sizeLine_eq]; omega)) ⟨hl, hk, ?_⟩
        rw [e]
        exact ⟨_, E1, R1⟩
      · cases hb
    · cases hb
  · cases hb
end
end Mine
namespace Mine

noncomputable def rdsW (f : MV → Option PyData) : List MV → Option (List PyData)
  | [] => some []
  | v :: l => match f v, rdsW f l with
    | some d, some ds => some (d :: ds)
    | _, _ => none
noncomputable def rd : Nat → St → MV → Option PyData
  | 0, _, _ => none
  | k + 1, H, v => match v with
    | .none => some .none
    | .bool b => some (.bool b)
    | .int i => some (.int i)
    | .ref i => (match H[i]? with
      | some (.list l) => (rdsW (rd k H) l).map .list
      | _ => none)
    | .tup l => (rdsW (rd k H) l).map .tuple
    | _ => none

section
variable {W : Wd} {n : Nat} {env : Env} {sl : List (Option Str)} {A : Around}

theorem rds_reads {φ : Adrs} {h : Heap} {f : MV → Option PyData} (ih : ∀ {v y d}, f v = some d → RV W.base φ h v y → ∃ as, Reads h y d as) : ∀ {v : List MV} {y : List Value} {d : List PyData}, rdsW f v = some d → RVs W.base φ h v y → ∃ as, ReadsAll h y d as := by
  intro v
  induction v with
  | nil => intro y d e r; cases e; rw [r.nil_inv]; exact ⟨_, .nil⟩
  | cons v l ihl =>
    intro y d e r
    obtain ⟨y0, ys, rfl, q, r⟩ := r.cons_inv
    unfold rdsW at e
    split at e
    · rename_i h1 h2
      cases e
      obtain ⟨as, p⟩ := ih h1 q
      obtain ⟨bs, p'⟩ := ihl h2 r
      exact ⟨_, .cons p p'⟩
    · cases e
theorem rd_reads {φ : Adrs} {H : St} {h : Heap} (S : Sim W φ H h) {k : Nat} : ∀ {v : MV} {y : Value} {d : PyData}, rd k H v = some d → RV W.base φ h v y → ∃ as, Reads h y d as := by
  induction k with
  | zero => intro v y d e; cases e
  | succ k ih =>
    intro v y d e r
    unfold rd at e
    cases r with
    | none => cases e; exact ⟨_, .none⟩
    | bool b => cases e; exact ⟨_, .bool b⟩
    | int i t => cases e; exact ⟨_, .int i t⟩
    | ref i a d' ha =>
      dsimp only at e
      split at e
      · rename_i l hl
        obtain ⟨ds, h1, rfl⟩ := Option.map_eq_some_iff.mp e
        obtain ⟨a', vs, m, e1, -, h2, r⟩ := S.list_of hl (.ref i a d' ha)
        cases e1
        obtain ⟨as, q⟩ := rds_reads ih h1 r
        exact ⟨_, .list h2 rfl rfl q⟩
      · cases e
    | tup l a vs ht r =>
      obtain ⟨o, ho, hc, n, hd⟩ := ht
      obtain ⟨ds, h1, rfl⟩ := Option.map_eq_some_iff.mp e
      obtain ⟨as, q⟩ := rds_reads ih h1 r
      exact ⟨_, .tuple ho hc hd q⟩
    | frz => cases e
    | rng => cases e

noncomputable def eqD (H : St) (a b : MV) : Option Bool := match rd 8 H a, rd 8 H b with
  | some da, some db => if shaped da && shaped db then some (PyData.eqv da db) else none
  | _, _ => none

noncomputable def intsOf : List MV → Option (List Int)
  | [] => some []
  | .int i :: l => (intsOf l).map (i :: ·)
  | _ :: _ => none
theorem intsOf_are {φ : Adrs} {h : Heap} : ∀ {l : List MV} {vs : List Value} {ns : List Int}, intsOf l = some ns → RVs W.base φ h l vs → IntsAre vs ns := by
  intro l
  induction l with
  | nil => intro vs ns e r; cases e; rw [r.nil_inv]; exact .nil
  | cons v l ih =>
    intro vs ns e r
    obtain ⟨y0, ys, rfl, q, r'⟩ := r.cons_inv
    cases q with
    | int i t =>
      obtain ⟨ns, h1, rfl⟩ := Option.map_eq_some_iff.mp e
      exact .cons _ _ (ih h1 r')
    | _ => cases e

noncomputable def isIn (a b : MV) (H : St) : Option Bool := match a with
  | .int a => (match b with
    | .ref i => (match H[i]? with
      | some (.list l) => (intsOf l).map (·.contains a)
      | _ => none)
    | _ => none)
  | _ => none
noncomputable def intC (f : Int → Int → Bool) (a b : MV) : Option Bool := match a with
  | .int a => (match b with
    | .int b => some (f a b)
    | _ => none)
  | _ => none
noncomputable def isN (a b : MV) : Option Bool := match b with
  | .none => (match a with
    | .none => some true
    | .ref _ => some false
    | _ => none)
  | _ => none
noncomputable def cmp (op : CmpOp) (a b : MV) (H : St) : Option Bool := match op with
  | .Eq => ((intC (· == ·) a b).or (eqD H a b))
  | .NotEq => ((intC (· != ·) a b).or ((eqD H a b).map not))
  | .Lt => intC (fun a b => decide (a < b)) a b
  | .LtE => intC (fun a b => decide (a ≤ b)) a b
  | .Gt => intC (fun a b => decide (b < a)) a b
  | .GtE => intC (fun a b => decide (b ≤ a)) a b
  | .Is => isN a b
  | .IsNot => (isN a b).map not
  | .In => isIn a b H
  | .NotIn => (isIn a b H).map not

theorem eq_any {φ : Adrs} {H : St} {s : Shared} {a b : MV} {x y : Value} {r : Bool} {Q : Value → Shared → Prop} {E : Value → Shared → Prop} (S : Sim W φ H s.heap) (e : eqD H a b = some r) (hu : A.units + 64 < cLine)
    (ra : RV W.base φ s.heap a x) (rb : RV W.base φ s.heap b y) (h : Q (.bool r) s) : wpAny (model W.prog W.w) A (compareOp .Eq x y) Q E s := by
  unfold eqD at e
  split at e
  · rename_i da db h1 h2
    split at e
    · rename_i hs
      cases e
      obtain ⟨as, p⟩ := rd_reads S h1 ra
      obtain ⟨bs, q⟩ := rd_reads S h2 rb
      exact eq_dataH p q (Bool.and_eq_true_iff.mp hs).1 (Bool.and_eq_true_iff.mp hs).2 hu h
    · cases e
  · cases e
theorem ne_any {φ : Adrs} {H : St} {s : Shared} {a b : MV} {x y : Value} {r : Bool} {Q : Value → Shared → Prop} {E : Value → Shared → Prop} (S : Sim W φ H s.heap) (e : eqD H a b = some r) (hu : A.units + 64 < cLine)
    (ra : RV W.base φ s.heap a x) (rb : RV W.base φ s.heap b y) (h : Q (.bool (!r)) s) : wpAny (model W.prog W.w) A (compareOp .NotEq x y) Q E s := by
  unfold eqD at e
  split at e
  · rename_i da db h1 h2
    split at e
    · rename_i hs
      cases e
      obtain ⟨as, p⟩ := rd_reads S h1 ra
      obtain ⟨bs, q⟩ := rd_reads S h2 rb
      exact ne_dataH p q (Bool.and_eq_true_iff.mp hs).1 (Bool.and_eq_true_iff.mp hs).2 hu h
    · cases e
  · cases e

theorem isInt_contains (a : Int) {vs : List Value} {ns : List Int} (h : IntsAre vs ns) : vs.toArray.any (isInt a) = ns.contains a := by
  rw [List.any_toArray, any_isInt a h]
  clear h
  induction ns with
  | nil => rfl
  | cons i r ih => rw [List.any_cons, List.contains_cons, ih, Bool.beq_comm]

theorem intC_some {f : Int → Int → Bool} {a b : MV} {r : Bool} (h : intC f a b = some r) : ∃ i j, a = .int i ∧ b = .int j ∧ r = f i j := by
  unfold intC at h
  split at h
  · split at h
    · cases h; exact ⟨_, _, rfl, rfl, rfl⟩
    · cases h
  · cases h
theorem isIn_some {a b : MV} {H : St} {r : Bool} (h : isIn a b H = some r) : ∃ i j l ns, a = .int i ∧ b = .ref j ∧ H[j]? = some (.list l) ∧ intsOf l = some ns ∧ r = ns.contains i := by
  unfold isIn at h
  split at h
  · split at h
    · split at h
      · obtain ⟨ns, h1, h2⟩ := Option.map_eq_some_iff.mp h
        exact ⟨_, _, _, ns, rfl, rfl, ‹_›, h1, h2.symm⟩
      · cases h
    · cases h
  · cases h
theorem isN_some {a b : MV} {r : Bool} (h : isN a b = some r) : b = .none ∧ (a = .none ∧ r = true ∨ (∃ i, a = .ref i) ∧ r = false) := by
  unfold isN at h
  split at h
  · split at h
    · cases h; exact ⟨rfl, .inl ⟨rfl, rfl⟩⟩
    · cases h; exact ⟨rfl, .inr ⟨⟨_, rfl⟩, rfl⟩⟩
    · cases h
  · cases h
theorem cmp_ok {op : CmpOp} {φ : Adrs} {H : St} {s : Shared} {a b : MV} {x y : Value} {r : Bool} {Q : Value → Shared → Prop} {E : Value → Shared → Prop} (S : Sim W φ H s.heap) (e : cmp op a b H = some r) (hu : A.units + 64 < cLine)
    (ra : RV W.base φ s.heap a x) (rb : RV W.base φ s.heap b y) (h : Q (.bool r) s) : wpAny (model W.prog W.w) A (compareOp op x y) Q E s := by
  cases op with
  | Eq =>
    rcases Option.or_eq_some_iff.mp e with e | ⟨_, e⟩
    · obtain ⟨i, j, rfl, rfl, rfl⟩ := intC_some e; obtain ⟨t, rfl⟩ := ra.int_inv; obtain ⟨u, rfl⟩ := rb.int_inv; exact P.eq_int h
    · exact eq_any S e hu ra rb h
  | NotEq =>
    rcases Option.or_eq_some_iff.mp e with e | ⟨_, e⟩
    · obtain ⟨i, j, rfl, rfl, rfl⟩ := intC_some e; obtain ⟨t, rfl⟩ := ra.int_inv; obtain ⟨u, rfl⟩ := rb.int_inv; exact P.ne_int h
    · obtain ⟨r', h1, rfl⟩ := Option.map_eq_some_iff.mp e; exact ne_any S h1 hu ra rb h
  | Lt => obtain ⟨i, j, rfl, rfl, rfl⟩ := intC_some e; obtain ⟨t, rfl⟩ := ra.int_inv; obtain ⟨u, rfl⟩ := rb.int_inv; exact P.lt_int h
  | LtE => obtain ⟨i, j, rfl, rfl, rfl⟩ := intC_some e; obtain ⟨t, rfl⟩ := ra.int_inv; obtain ⟨u, rfl⟩ := rb.int_inv; exact P.le_int h
  | Gt => obtain ⟨i, j, rfl, rfl, rfl⟩ := intC_some e; obtain ⟨t, rfl⟩ := ra.int_inv; obtain ⟨u, rfl⟩ := rb.int_inv; exact P.gt_int h
  | GtE => obtain ⟨i, j, rfl, rfl, rfl⟩ := intC_some e; obtain ⟨t, rfl⟩ := ra.int_inv; obtain ⟨u, rfl⟩ := rb.int_inv; exact P.ge_int h
  | Is =>
    obtain ⟨rfl, ⟨rfl, rfl⟩ | ⟨⟨i, rfl⟩, rfl⟩⟩ := isN_some e
    · rw [ra.none_inv, rb.none_inv]; exact is_none h
    · obtain ⟨a, d, rfl, -⟩ := ra.ref_inv; rw [rb.none_inv]; exact is_none h
  | IsNot =>
    obtain ⟨r', h1, rfl⟩ := Option.map_eq_some_iff.mp e
    obtain ⟨rfl, ⟨rfl, rfl⟩ | ⟨⟨i, rfl⟩, rfl⟩⟩ := isN_some h1
    · rw [ra.none_inv, rb.none_inv]; exact isNot_none h
    · obtain ⟨a, d, rfl, -⟩ := ra.ref_inv; rw [rb.none_inv]; exact isNot_none h
  | In =>
    obtain ⟨i, j, l, ns, rfl, rfl, hl, h1, rfl⟩ := isIn_some e
    obtain ⟨t, rfl⟩ := ra.int_inv
    obtain ⟨a', vs, m, rfl, -, h2, rl⟩ := S.list_of hl rb
    have hi := intsOf_are h1 rl
    refine PySem.SeqInW.in_listW (items := vs) (isInt _) (fun y hy => eq_isInt _ _ hi y (Array.mem_toList_iff.mpr hy)) ⟨_, h2, rfl, _, rfl⟩ ?_
    have := isInt_contains i hi
    rw [Array.toArray_toList] at this
    rw [this]; exact h
  | NotIn =>
    obtain ⟨r', h0, rfl⟩ := Option.map_eq_some_iff.mp e
    obtain ⟨i, j, l, ns, rfl, rfl, hl, h1, rfl⟩ := isIn_some h0
    obtain ⟨t, rfl⟩ := ra.int_inv
    obtain ⟨a', vs, m, rfl, -, h2, rl⟩ := S.list_of hl rb
    have hi := intsOf_are h1 rl
    refine PySem.SeqInW.notIn_listW (items := vs) (isInt _) (fun y hy => eq_isInt _ _ hi y (Array.mem_toList_iff.mpr hy)) ⟨_, h2, rfl, _, rfl⟩ ?_
    have := isInt_contains i hi
    rw [Array.toArray_toList] at this
    rw [this]; exact h

noncomputable def D.cmpT (op : CmpOp) (f g : DE) : Lo → St → Option (Bool × St) := fun lo H => bnd (f lo H) fun x H => bnd (g lo H) fun y H => (cmp op x y H).map fun b => (b, H)
noncomputable def D.cmp (op : CmpOp) (f g : DE) : DE := D.ofTest (D.cmpT op f g)

theorem Room.units {A : Around} (R : Room n A) : A.units + 64 < cLine := by
  have := R.2.2
  have := cLine_is
  omega

theorem st_cmp {op : CmpOp} {l r : Expr} {pos : Pos} {f g : DE} (hl : SE W n env sl l f) (hr : SE W n env sl r g) (hm : behindInMarks op r = false) : ST W n env sl (.Compare l [op] [r] pos) (D.cmpT op f g) := by
  intro A φ lo H s v H' hf R S L
  obtain ⟨x, H1, h1, h2⟩ := bnd_inv hf
  obtain ⟨y, H2, h3, h4⟩ := bnd_inv h2
  obtain ⟨b, h5, h6⟩ := Option.map_eq_some_iff.mp h4
  cases h6
  refine wpAny_isTrue_Compare1 (wpAny_mono (hl A φ lo H s x H1 h1 R S L) (fun ex s1 ⟨φ1, E1, r1⟩ => ?_) fun _ _ x => x) hm
  refine wpAny_mono (hr A φ1 lo H1 s1 y _ h3 R E1.sim (L.post0 E1.post)) (fun ey s2 ⟨φ2, E2, r2⟩ => ?_) fun _ _ x => x
  exact cmp_ok E2.sim h5 R.units (r1.post E2.post) r2 (wpAny_truthy_bool ⟨φ2, E1.trans E2, rfl⟩)
theorem se_cmp {op : CmpOp} {l r : Expr} {pos : Pos} {f g : DE} (hl : SE W n env sl l f) (hr : SE W n env sl r g) (hm : behindInMarks op r = false) : SE W n env sl (.Compare l [op] [r] pos) (D.cmp op f g) := by
  intro A φ lo H s v H' hf R S L
  obtain ⟨q, H0, h0, hq⟩ := bnd_inv hf
  cases hq
  obtain ⟨x, H1, h1, h2⟩ := bnd_inv h0
  obtain ⟨y, H2, h3, h4⟩ := bnd_inv h2
  obtain ⟨b, h5, h6⟩ := Option.map_eq_some_iff.mp h4
  cases h6
  refine wpAny_Compare1 (wpAny_mono (hl A φ lo H s x H1 h1 R S L) (fun ex s1 ⟨φ1, E1, r1⟩ => ?_) fun _ _ x => x) hm
  refine wpAny_mono (hr A φ1 lo H1 s1 y _ h3 R E1.sim (L.post0 E1.post)) (fun ey s2 ⟨φ2, E2, r2⟩ => ?_) fun _ _ x => x
  exact cmp_ok E2.sim h5 R.units (r1.post E2.post) r2 ⟨φ2, E1.trans E2, .bool _⟩

noncomputable def o.sub : MV → MV → St → Option (MV × St)
  | .int a, .int b, H => some (.int (a - b), H)
  | _, _, _ => none
theorem ok_sub : OpOk W .Sub o.sub := by
  intro A φ x y H s v H' ex ey hb hA S rx ry
  unfold o.sub at hb
  split at hb
  · cases hb; obtain ⟨t, rfl⟩ := rx.int_inv; obtain ⟨u, rfl⟩ := ry.int_inv
    exact P.sub_int ⟨φ, .tok S _, .int ..⟩
  · cases hb
noncomputable def o.mul : MV → MV → St → Option (MV × St)
  | .int a, .int b, H => if smallI a then some (.int (a * b), H) else none
  | .ref i, .int k, H => match H[i]? with
    | some (.list [x]) => if 0 ≤ k ∧ k ≤ 1000000 then some (.ref H.length, H ++ [.list (List.replicate k.toNat x)]) else none
    | _ => none
  | _, _, _ => none
noncomputable def o.mod : MV → MV → St → Option (MV × St)
  | .int a, .int b, H => if b == 0 then none else some (.int (a.fmod b), H)
  | _, _, _ => none
theorem ok_mod : OpOk W .Mod o.mod := by
  intro A φ x y H s v H' ex ey hb hA S rx ry
  unfold o.mod at hb
  split at hb
  · rename_i hz
    split at hb
    · cases hb
    · rename_i hz
      cases hb; obtain ⟨t, rfl⟩ := rx.int_inv; obtain ⟨u, rfl⟩ := ry.int_inv
      exact PyProof.Rows.mod_int (by simpa using hz) ⟨φ, .tok S _, .int ..⟩
  · cases hb
noncomputable def o.fdiv : MV → MV → St → Option (MV × St)
  | .int a, .int b, H => if b == 0 then none else if b.natAbs < 1073741824 then some (.int (a.fdiv b), H) else none
  | _, _, _ => none
theorem ok_fdiv : OpOk W .FloorDiv o.fdiv := by
  intro A φ x y H s v H' ex ey hb hA S rx ry
  unfold o.fdiv at hb
  split at hb
  · split at hb
    · cases hb
    · rename_i hz
      split at hb
      · rename_i hs
        cases hb; obtain ⟨t, rfl⟩ := rx.int_inv; obtain ⟨u, rfl⟩ := ry.int_inv
        exact PyProof.Rows.floordiv_int (by simpa using hz) ⟨φ, .tok S _, .int ..⟩ (.inl (PyProof.noPylong_small hs))
      · cases hb
  · cases hb
theorem foldl_rep (x : Value) : ∀ (k : Nat) (a : Array Value), List.foldl (fun x1 x2 => x1 ++ x2) a (List.replicate k #[x]) = a ++ (List.replicate k x).toArray
  | 0, a => by simp
  | k + 1, a => by
    rw [List.replicate_succ, List.foldl_cons, foldl_rep x k, List.replicate_succ]
    apply Array.toList_inj.mp
    simp
theorem RVs.rep {φ : Adrs} {h : Heap} {m : MV} {x : Value} (r : RV W.base φ h m x) : ∀ k : Nat, RVs W.base φ h (List.replicate k m) (List.replicate k x)
  | 0 => .nil
  | k + 1 => .cons r (RVs.rep r k)
theorem ok_mul : OpOk W .Mult o.mul := by
  intro A φ x y H s v H' ex ey hb hA S rx ry
  unfold o.mul at hb
  split at hb
  · rename_i a b
    split at hb
    · rename_i hz
      cases hb; obtain ⟨t, rfl⟩ := rx.int_inv; obtain ⟨u, rfl⟩ := ry.int_inv
      simp only [smallI, Bool.and_eq_true, decide_eq_true_eq] at hz
      exact P.mul_int ⟨φ, .tok S _, .int ..⟩ (.of_left (intBits_le_64 (by omega) (by omega)))
    · cases hb
  · rename_i i k
    split at hb
    · rename_i m hi
      split at hb
      · rename_i hk
        cases hb
        obtain ⟨u, rfl⟩ := ry.int_inv
        obtain ⟨a, vs, p, rfl, -, hl, rl⟩ := S.list_of hi rx
        obtain ⟨vs⟩ := vs
        obtain ⟨xv, e0, rm⟩ := rl.one_inv
        change vs = [xv] at e0
        subst e0
        have hl' : s.heap.get? a = some { cls := .type "list", dict := none, data := .seq #[xv] p, slots := #[] } := hl
        obtain ⟨E1, R1⟩ := new_list (s := s) (t := s.toks) S (RVs.rep rm k.toNat)
        refine wpAny_binaryOp_repeat_ref (T := "list") (U := "int") (by decide) ⟨_, hl', rfl⟩ (fun s' => typeIs_int s' k u) noFill_list_mul F.fills_int_mul F.slot_int_rmul repeat_list F.slot_int_index.lookup
          (call_meets F.slot_int_rmul (typeIs_int s k u) F.entry_int_rmul (F.args_int_rmul_2 _ _) (int___rmul___int_list k u a #[xv] p)
            ⟨hl', rfl, ⟨_, hl', rfl⟩, call_meets F.slot_list_mul ⟨_, hl', rfl⟩ F.entry_list_mul (F.args_list_mul_2 _ _)
              (AutoListH.list___mul___list_int_3 a #[xv] p k u (by simp [Builtin.List.listFitsIndex]; omega) (by show ¬ (1 * k.toNat > _); omega) (by simp [Builtin.List.listTooLong, sizeLine]; omega))
              ⟨hl', ?_⟩⟩)
        have e : (List.foldl (fun x1 x2 => x1 ++ x2) #[] (List.replicate (if (#[xv] : Array Value).isEmpty = true then 0 else k.toNat) #[xv])) = (List.replicate k.toNat xv).toArray := by
          rw [if_neg (by simp), foldl_rep]; simp
        rw [e]
        exact ⟨_, E1, R1⟩
      · cases hb
    · cases hb
  · cases hb
end
end Mine
namespace Mine

theorem ns_of {K : Frag} {h : Heap} {N : Addr} {mg : Str → Option Value} {n : Str} {v : Option Value} (X : K.In h) (G : h.Ns N mg) (e : nsIn K N n = some v) : mg n = v := by
  obtain ⟨o, es, ep, ho, hd, _, hf⟩ := G
  unfold nsIn at e
  split at e
  · rename_i c d es' n' sl q
    have := X _ _ q
    rw [ho] at this
    cases this
    cases hd
    rw [← hf]
    unfold nsFind findBy
    rw [← Array.find?_toList]
    split at e
    · rename_i en he
      cases e
      rw [he]; rfl
    · rename_i he
      rw [he]
      split at e
      · cases e
      · cases e; rfl
  · cases e

noncomputable def nsHeld (K : Frag) (N : Addr) : Bool := match K.lookup N with
  | some o => (match o.data with
    | .dict es _ => es.all fun e => match e.key with
      | .str _ _ => true
      | _ => false
    | _ => false)
  | none => false
theorem isNs_held {K : Frag} {h : Heap} {N : Addr} (X : K.In h) (e : nsHeld K N = true) : h.isNs N = true := by
  unfold nsHeld at e
  cases hk : K.lookup N with
  | none => rw [hk] at e; cases e
  | some o =>
    rw [hk] at e
    unfold Heap.isNs
    rw [X _ _ hk]
    exact e

structure Cls (W : Wd) (c : Nat) (C N : Addr) : Prop where
  cls : W.cls c = some C
  obj : ∃ nm q bs sn sub ab col dd k0 k1 k2 k3 k5 newId, W.K.lookup C = some (excClassObj nm q C N bs [.type "object"] true sn sub ab col dd k0 k1 k2 k3 k5 newId)
  ns : nsHeld W.K N = true
  ga : nsIn W.K N "__getattribute__" = some none
  gt : nsIn W.K N "__getattr__" = some none
  sa : nsIn W.K N "__setattr__" = some none
  fld : ∀ x ∈ W.names c, nsIn W.K N x = some none ∧ typeLookup (.type "object") x = pure none
  nd : (W.names c).Nodup
  few : (W.names c).length ≤ 1000

theorem FM.get {base : Heap} {φ : Adrs} {h : Heap} {ns : List Str} {l : List MV} {m : Str → Option Value} (q : FM base φ h ns l m) {k : Nat} {x : Str} {v : MV} (hx : ns[k]? = some x) (hv : l[k]? = some v) : ∃ y, m x = some y ∧ RV base φ h v y := by
  have := q.2.1 k x hx
  rw [hv] at this
  exact this
theorem FM.set {base : Heap} {φ : Adrs} {h : Heap} {ns : List Str} {l : List MV} {m : Str → Option Value} (q : FM base φ h ns l m) (nd : ns.Nodup) {k : Nat} {x : Str} {v : MV} {y : Value} (hx : ns[k]? = some x) (hk : k < l.length) (r : RV base φ h v y) :
    FM base φ h ns (l.set k v) (fun z => if z = x then some y else m z) := by
  refine ⟨by simpa using q.1, fun i z hz => ?_, fun z hz => ?_⟩
  · by_cases hi : i = k
    · subst hi
      rw [hx] at hz; cases hz
      rw [List.getElem?_set_self hk]
      exact ⟨y, by simp, r⟩
    · have hne : z ≠ x := fun e => hi (nodup_get nd (e ▸ hz) hx)
      rw [List.getElem?_set_ne (Ne.symm hi)]
      simp only [if_neg hne]
      exact q.2.1 i z hz
  · have hne : z ≠ x := fun e => hz (e ▸ List.mem_of_getElem? hx)
    simp only [if_neg hne]
    exact q.2.2 z hz
theorem FM.push {base : Heap} {φ : Adrs} {h : Heap} {ns : List Str} {l : List MV} {m : Str → Option Value} (q : FM base φ h ns l m) (nd : ns.Nodup) {x : Str} {v : MV} {y : Value} (hx : ns[l.length]? = some x) (r : RV base φ h v y) :
    FM base φ h ns (l ++ [v]) (fun z => if z = x then some y else m z) := by
  have hl := (List.getElem?_eq_some_iff.mp hx).1
  refine ⟨by simp; omega, fun i z hz => ?_, fun z hz => ?_⟩
  · by_cases hi : i = l.length
    · subst hi
      rw [hx] at hz; cases hz
      simp only [List.getElem?_concat_length]
      exact ⟨y, by simp, r⟩
    · have hne : z ≠ x := fun e => hi (nodup_get nd (e ▸ hz) hx)
      simp only [if_neg hne]
      have := q.2.1 i z hz
      by_cases hlt : i < l.length
      · rw [List.getElem?_append_left hlt]; exact this
      · have h1 : l[i]? = none := List.getElem?_eq_none (by omega)
        have h2 : (l ++ [v])[i]? = none := List.getElem?_eq_none (by simp; omega)
        rw [h1] at this
        rw [h2]; exact this
  · have hne : z ≠ x := fun e => hz (e ▸ List.mem_of_getElem? hx)
    simp only [if_neg hne]
    exact q.2.2 z hz

section
variable {W : Wd} {n : Nat} {env : Env} {sl : List (Option Str)} {A : Around}

theorem rv_handed {φ : Adrs} {h : Heap} {v : MV} {y : Value} (r : RV W.base φ h v y) : handedOut y = pure y := by
  cases r <;> rfl

theorem inst_of {φ : Adrs} {h : Heap} {c : Nat} {l : List MV} {a d C : Addr} (hc : W.cls c = some C) (q : OR W φ h (.obj c l) a d) :
    ∃ m, h.Inst a C m ∧ FM W.base φ h (W.names c) l m ∧ h.get? a = some (instObj C d) ∧ a ≠ C ∧ d ≠ a := by
  simp only [OR, hc] at q
  obtain ⟨h0, h1, h2, m, h3, h4⟩ := q
  exact ⟨m, ⟨_, h0, rfl, fun c => by simp, .inr ⟨d, rfl, h1, h3⟩⟩, h4, h0, h2, h1⟩

noncomputable def D.attr (c k : Nat) (f : DE) : DE := fun lo H => bnd (f lo H) fun v H => match v with
  | .ref i => (match H[i]? with
    | some (.obj c' l) => if c' = c then (match l[k]? with
      | some v => some (v, H)
      | Option.none => Option.none) else Option.none
    | _ => Option.none)
  | _ => Option.none

theorem getAttr_ok {c k : Nat} {C N : Addr} {x : Str} (K : Cls W c C N) (hx : (W.names c)[k]? = some x) {φ : Adrs} {H : St} {s : Shared} {i : Nat} {l : List MV} {v : MV} {y : Value} {ex : Bool} {Q : Value → Shared → Prop} {E : Value → Shared → Prop}
    (S : Sim W φ H s.heap) (hi : H[i]? = some (.obj c l)) (hv : l[k]? = some v) (r : RV W.base φ s.heap (.ref i) y)
    (q : ∀ z, RV W.base φ s.heap v z → Q z { s with toks := s.toks + 1 }) : wpAny (model W.prog W.w) A (getAttr y x ex) Q E s := by
  obtain ⟨a, d, rfl, ha, o⟩ := S.obj_of hi r
  obtain ⟨m, I, fm, _⟩ := inst_of K.cls o
  obtain ⟨z, hz, rz⟩ := fm.get hx hv
  obtain ⟨nm, q', bs, sn, sub, ab, col, dd, k0, k1, k2, k3, k5, newId, hC⟩ := K.obj
  have X := W.KX.keeps S.base
  have hn : s.heap.Ns N (s.heap.nsMap N) := .of_isNs (isNs_held X K.ns)
  obtain ⟨h, g, dr, t, os⟩ := s
  have hm := List.mem_of_getElem? hx
  exact load_attr (X _ _ hC) hn (ns_of X hn K.ga) (ns_of X hn (K.fld x hm).1) (K.fld x hm).2 I hz (rv_handed rz) (q z rz)

theorem se_attr {c k : Nat} {C N : Addr} {x : Str} {e : Expr} {pos : Pos} {f : DE} (K : Cls W c C N) (hx : (W.names c)[k]? = some x) (he : SE W n env sl e f)
    (hs : eval (.Attribute e x pos) env = (do
      let o ← eval e env
      standAt pos.atName
      let r ← holding [o] (getAttr o x true)
      letTemporaryGo e o r
      pure r)) : SE W n env sl (.Attribute e x pos) (D.attr c k f) := by
  intro A φ lo H s v H' hf R S L
  obtain ⟨a, H1, h1, h2⟩ := bnd_inv hf
  refine Attribute_any_ (wpAny_mono (he A φ lo H s a H1 h1 R S L) (fun y s1 ⟨φ1, E1, r1⟩ => ?_) fun _ _ x => x) hs
  split at h2
  · split at h2
    · rename_i i c' l hi
      split at h2
      · rename_i hcc
        subst hcc
        split at h2
        · rename_i v' hv
          cases h2
          exact getAttr_ok K hx E1.sim hi hv r1 fun z rz => ⟨φ1, E1.trans (.tok E1.sim _), rz⟩
        · cases h2
      · cases h2
    · cases h2
  · cases h2

noncomputable def getI (v i : MV) (H : St) : Option MV := match v, i with
  | .ref r, .int k => (match H[r]? with
    | some (.list l) => if 0 ≤ k ∧ k < 2 ^ 62 then l[k.toNat]? else Option.none
    | _ => Option.none)
  | .tup l, .int k => if 0 ≤ k ∧ k < 2 ^ 62 then l[k.toNat]? else Option.none
  | _, _ => Option.none
noncomputable def D.sub (f g : DE) : DE := fun lo H => bnd (f lo H) fun v H => bnd (g lo H) fun i H => (getI v i H).map fun x => (x, H)

theorem getI_ok {φ : Adrs} {H : St} {s : Shared} {a b x : MV} {y z : Value} {e sl : Expr} {Q : Value → Shared → Prop} {E : Value → Shared → Prop} (S : Sim W φ H s.heap) (h : getI a b H = some x) (ra : RV W.base φ s.heap a y) (rb : RV W.base φ s.heap b z)
    (hs : ∀ o k t, ∃ ops, subscripted sl false (.ref o) (.int k t) = operate ops (getItem (.ref o) (.int k t))) (q : ∀ w, RV W.base φ s.heap x w → Q w s) : wpAny (model W.prog W.w) A (subscriptTail e sl y z) Q E s := by
  unfold getI at h
  split at h
  · rename_i r k
    cases ra with | ref _ ad d ha =>
    obtain ⟨t, rfl⟩ := rb.int_inv
    split at h
    · rename_i l hl
      split at h
      · rename_i hk
        obtain ⟨a1, d1, e1, rfl, vs, m, hg, rl⟩ := S.obj r _ hl
        rw [ha] at e1; cases e1
        obtain ⟨y', e', ry⟩ := rl.get h
        obtain ⟨ops, ho⟩ := hs ad k t
        have hL : s.heap.IsList ad vs := ⟨_, hg, rfl, _, rfl⟩
        exact tail_any hL.typeIs slot_list_getitem.lookup (wpAny_getItem_list hL hk.1 (by omega) (by rw [← Array.getElem?_toList]; exact e') (q _ ry)) ho
      · cases h
    · cases h
  · rename_i l k
    obtain ⟨ad, vs, rfl, hT, rl⟩ := ra.tup_inv
    obtain ⟨t, rfl⟩ := rb.int_inv
    split at h
    · rename_i hk
      obtain ⟨y', e', ry⟩ := rl.get h
      obtain ⟨ops, ho⟩ := hs ad k t
      have hlen := (List.getElem?_eq_some_iff.mp e').1
      have hj : seqIndex? k vs.length = some k.toNat := by
        unfold seqIndex?
        simp only [show ¬ k < 0 by omega, if_false]
        rw [if_pos (by simp; omega)]
      exact tail_any hT.typeIs slot_tuple_getitem.lookup (getItem_tuple hT (by omega) (by omega) (by simpa using hj) (by simpa using e') (q _ ry)) ho
    · cases h
  · cases h

theorem se_sub {e i : Expr} {pos : Pos} {f g : DE} (he : SE W n env sl e f) (hi : SE W n env sl i g)
    (hs : ∀ o k t, ∃ ops, subscripted i false (.ref o) (.int k t) = operate ops (getItem (.ref o) (.int k t))) : SE W n env sl (.Subscript e i pos) (D.sub f g) := by
  intro A φ lo H s v H' hf R S L
  obtain ⟨a, H1, h1, h2⟩ := bnd_inv hf
  obtain ⟨b, H2, h3, h4⟩ := bnd_inv h2
  obtain ⟨x, h5, h6⟩ := Option.map_eq_some_iff.mp h4
  cases h6
  refine Subscript_ (wpAny_mono (he A φ lo H s a H1 h1 R S L) (fun y s1 ⟨φ1, E1, r1⟩ => ?_) fun _ _ x => x)
  refine wpAny_mono (hi A φ1 lo H1 s1 b _ h3 R E1.sim (L.post0 E1.post)) (fun z s2 ⟨φ2, E2, r2⟩ => ?_) fun _ _ x => x
  exact getI_ok E2.sim h5 (r1.post E2.post) r2 hs fun w rw => ⟨φ2, E1.trans E2, rw⟩

end
end Mine
namespace Mine

theorem grow_post {φ : Adrs} {S : List Addr} {h h' : Heap} (k : ∀ b o, h.get? b = some o → h'.get? b = some o) : Post φ φ S h h' :=
  ⟨List.prefix_rfl, fun _ hp => .inl hp, fun b x e _ _ => k b x e, fun b x e _ => k b x e, fun b x e => ⟨x, k b x e⟩⟩
theorem grow_ep {W : Wd} {φ : Adrs} {H : St} {S : List Addr} {s : Shared} {h' : Heap} {t : Nat} (X : Sim W φ H s.heap) (k : ∀ b o, s.heap.get? b = some o → h'.get? b = some o) : EP W φ φ H S s { s with heap := h', toks := t } :=
  ⟨X.keep (T := []) (grow_post k) (fun a ha => nomatch ha) fun b x e _ => k b x e, grow_post k, ⟨h', t, rfl⟩⟩

theorem new_obj {W : Wd} {φ : Adrs} {H : St} {s : Shared} {h' : Heap} {t : Nat} {m : MO} {a d : Addr} (X : Sim W φ H s.heap) (k : ∀ b o, s.heap.get? b = some o → h'.get? b = some o) (hd : s.heap.get? d = none)
    (q : OR W φ h' m a d) : EP W φ (φ ++ [(a, d)]) (H ++ [m]) [] s { s with heap := h', toks := t } := by
  have X' : Sim W φ H h' := X.keep (T := []) (grow_post k) (fun a ha => nomatch ha) fun b x e _ => k b x e
  refine ⟨X'.new (fun hm => ?_) ?_ q, ⟨List.prefix_append .., fun p hp => ?_, fun b x e _ _ => k b x e, fun b x e _ => k b x e, fun b x e => ⟨x, k b x e⟩⟩, ⟨h', t, rfl⟩⟩
  · obtain ⟨p, hp, e⟩ := List.mem_map.mp hm
    obtain ⟨x, hx, _⟩ := X.carrier hp
    rw [e, hd] at hx; cases hx
  · cases e : W.base.get? d with
    | none => rfl
    | some x => have := X.base _ _ e; rw [hd] at this; cases this
  · rcases List.mem_append.mp hp with q | q
    · exact .inl q
    · simp at q; subst q; exact .inr hd

theorem made_list {W : Wd} {φ : Adrs} {H : St} {s : Shared} {h' : Heap} {t : Nat} {l : List MV} {vs : Array Value} {n : Nat} {D : Addr} (X : Sim W φ H s.heap) (k : ∀ b o, s.heap.get? b = some o → h'.get? b = some o) (hd : s.heap.get? D = none)
    (hD : h'.get? D = some (lst vs n)) (r : RVs W.base φ s.heap l vs.toList) :
    EP W φ (φ ++ [(D, D)]) (H ++ [.list l]) [] s { s with heap := h', toks := t } ∧ RV W.base (φ ++ [(D, D)]) h' (.ref H.length) (.ref D) := by
  refine ⟨new_obj X k hd ⟨rfl, vs, n, hD, r.mono List.prefix_rfl fun b x e _ => k b x e⟩, .ref _ _ D ?_⟩
  rw [← X.len]; simp

theorem free_end (h : Heap) : h.get? h.objs.size = none := by
  cases e : h.get? h.objs.size with
  | none => rfl
  | some o' => exact absurd (Heap.lt_size e) (Nat.lt_irrefl _)
theorem free_above {h : Heap} {a : Addr} (l : h.objs.size ≤ a) : h.get? a = none := by
  cases e : h.get? a with
  | none => rfl
  | some o' => exact absurd (Heap.lt_size e) (Nat.not_lt.mpr l)

section
variable {W : Wd} {n : Nat} {env : Env} {sl : List (Option Str)} {A : Around}

noncomputable def D.args : List DE → Lo → St → Option (List MV × St)
  | [], _, H => some ([], H)
  | f :: r, lo, H => bnd (f lo H) fun v H => bnd (D.args r lo H) fun vs H => some (v :: vs, H)

noncomputable def SA (W : Wd) (n : Nat) (env : Env) (sl : List (Option Str)) (es : List Expr) (fs : List DE) : Prop :=
  ∀ pos A φ lo H s v H', D.args fs lo H = some (v, H') → Room n A → Sim W φ H s.heap → Loc W env sl lo φ s.heap →
    wpAny (model W.prog W.w) A (spliced (backTo pos (starEach es env))) (fun y s' => ∃ φ', EP W φ φ' H' [] s s' ∧ RVs W.base φ' s'.heap v y) NoE s

theorem sa_nil : SA W n env sl [] [] := by
  intro pos A φ lo H s v H' hf R S L
  cases hf
  exact wpAny_pure ⟨φ, .refl S, .nil⟩
theorem sa_cons {e : Expr} {r : List Expr} {f : DE} {fs : List DE} (he : SE W n env sl e f) (hr : SA W n env sl r fs) (hs : starEach (e :: r) env = (false, eval e env) :: starEach r env) : SA W n env sl (e :: r) (f :: fs) := by
  intro pos A φ lo H s v H' hf R S L
  obtain ⟨a, H1, h1, h2⟩ := bnd_inv hf
  obtain ⟨b, H2, h3, h4⟩ := bnd_inv h2
  cases h4
  refine args_cons (wpAny_mono (he A φ lo H s a H1 h1 R S L) (fun y s1 ⟨φ1, E1, r1⟩ => ?_) fun _ _ x => x) hs
  exact wpAny_mono (hr pos A φ1 lo H1 s1 b _ h3 R E1.sim (L.post0 E1.post)) (fun z s2 ⟨φ2, E2, r2⟩ => ⟨φ2, E1.trans E2, .cons (r1.post E2.post) r2⟩) fun _ _ x => x

noncomputable def D.list (fs : List DE) : DE := fun lo H => bnd (D.args fs lo H) fun vs H => if small vs.length then some (.ref H.length, H ++ [.list vs]) else none
theorem se_list {es : List Expr} {pos : Pos} {fs : List DE} (h : SA W n env sl es fs) : SE W n env sl (.List es pos) (D.list fs) := by
  intro A φ lo H s v H' hf R S L
  obtain ⟨a, H1, h1, h2⟩ := bnd_inv hf
  split at h2
  · rename_i hz
    cases h2
    refine wpAny_List (wpAny_mono (h pos A φ lo H s a _ h1 R S L) (fun y s1 ⟨φ1, E1, r1⟩ => ?_) fun _ _ x => x)
    have hz' : a.length ≤ 1000000 := by simpa [small] using hz
    refine ⟨by rw [← r1.length, sizeLine_eq]; omega, ?_⟩
    obtain ⟨E2, r2⟩ := made_list (l := a) (s := s1) (t := s1.toks) E1.sim (fun b o e => Heap.get?_push_of_some (lst y.toArray 0) e) (free_end _) (Heap.get?_push_size _ rfl) (by simpa using r1)
    exact ⟨_, E1.trans E2, r2⟩
  · cases h2
noncomputable def D.tup (fs : List DE) : DE := fun lo H => bnd (D.args fs lo H) fun vs H => if small vs.length then some (.tup vs, H) else none
theorem se_tup {es : List Expr} {k : Nat} {pos : Pos} {fs : List DE} (h : SA W n env sl es fs) : SE W n env sl (.Tuple es k pos) (D.tup fs) := by
  intro A φ lo H s v H' hf R S L
  obtain ⟨a, H1, h1, h2⟩ := bnd_inv hf
  split at h2
  · rename_i hz
    cases h2
    refine wpAny_Tuple (wpAny_mono (h pos A φ lo H s a _ h1 R S L) (fun y s1 ⟨φ1, E1, r1⟩ => ?_) fun _ _ x => x)
    have hz' : a.length ≤ 1000000 := by simpa [small] using hz
    refine ⟨by rw [← r1.length, sizeLine_eq]; omega, ?_⟩
    have k : ∀ b o, s1.heap.get? b = some o → (s1.heap.push { cls := .type "tuple", data := .seq y.toArray }).get? b = some o := fun b o e => Heap.get?_push_of_some _ e
    have E2 : EP W φ1 φ1 _ [] s1 { s1 with heap := s1.heap.push { cls := .type "tuple", data := .seq y.toArray }, toks := s1.toks } := grow_ep E1.sim k
    exact ⟨φ1, E1.trans E2, .tup _ _ _ ⟨_, Heap.get?_push_size _ rfl, rfl, _, rfl⟩ (r1.post E2.post)⟩
  · cases h2

noncomputable def FS (W : Wd) (k : Nat) (fv : Value) (D : DF) : Prop :=
  ∀ A φ args H s v H' ys, D args H = some (v, H') → Room k A → Sim W φ H s.heap → RVs W.base φ s.heap args ys →
    codeAny (model W.prog W.w) A (.call fv ⟨ys, []⟩) (fun r s' => ∃ y φ', r = .ok (.ret y) ∧ EP W φ φ' H' [] s s' ∧ RV W.base φ' s'.heap v y) s

theorem FS.call {k : Nat} {fv : Value} {D : DF} (F : FS W k fv D) {φ : Adrs} {args : List MV} {H : St} {s : Shared} {v : MV} {H' : St} {ys : List Value} (e : D args H = some (v, H')) (R : Room k A) (S : Sim W φ H s.heap) (r : RVs W.base φ s.heap args ys) :
    wpAny (model W.prog W.w) A (call fv ys) (fun y s' => ∃ φ', EP W φ φ' H' [] s s' ∧ RV W.base φ' s'.heap v y) NoE s := by
  refine wpAny_call (codeAny_mono (F A φ args H s v H' ys e R S r) fun r s' ⟨y, φ', h1, h2, h3⟩ => ?_)
  subst h1
  exact ⟨φ', h2, h3⟩

theorem Room.le {k n : Nat} (R : Room n A) (h : k ≤ n) : Room k A := ⟨R.1, by have := R.2.1; omega, by have := R.2.2; omega⟩

theorem no_star : ∀ {es : List Expr} {env : Env} {pos : Pos}, es.any isStarred = false → (backTo pos (starEach es env)).any (·.1) = false
  | [], _, _, _ => rfl
  | e :: r, env, pos, h => by
    rw [List.any_cons, Bool.or_eq_false_iff] at h
    have ih := no_star (env := env) (pos := pos) h.2
    have : starEach (e :: r) env = (false, eval e env) :: starEach r env := by
      cases e <;> first | rfl | cases h.1
    rw [this]
    show ((false, _) :: backTo pos (starEach r env)).any (·.1) = false
    rw [List.any_cons, ih]; rfl

theorem evalArgs_ok {f : Value} {es : List Expr} {pos : Pos} {Q : Args → Shared → Prop} {E : Value → Shared → Prop} {M : Model} {s : Shared} (h : wpAny M A (spliced (backTo pos (starEach es env))) (fun vs s' => Q ⟨vs, []⟩ s') E s)
    (hs : ∀ e r, es = e :: r → starEach (e :: r) env = (false, eval e env) :: starEach r env) : wpAny M A (evalArgs f true (backTo pos (starEach es env)) []) Q E s := by
  cases es with
  | nil =>
    unfold evalArgs
    show wpAny M A (spliced (backTo pos (starEach [] env)) >>= _) Q E s
    refine wpAny_bind (wpAny_mono h (fun vs s' h' => wpAny_bind (wpAny_pure (wpAny_holding ?_))) fun _ _ x => x)
    exact wpAny_bind (wpAny_pure (wpAny_bind (wpAny_pure (wpAny_pure h'))))
  | cons e r =>
    have := hs e r rfl
    rw [this] at h ⊢
    exact evalArgs_plain h

theorem callFn_ok {k : Nat} {fa : Addr} {o : Obj} {fd : FuncData} {Df : DF} {pos : Pos} {es : List Expr} {fs : List DE} {φ : Adrs} {lo : Lo} {H H1 H2 : St} {s : Shared} {first : List MV} {yf : List Value} {vs : List MV} {v : MV}
    (F : FS W k (.ref fa) Df) (ho : W.K.lookup fa = some o) (hd : o.data = .func fd) (ha : SA W n env sl es fs) (hk : k ≤ n)
    (h1 : D.args fs lo H = some (vs, H1)) (h2 : Df (first ++ vs) H1 = some (v, H2)) (R : Room n A) (S : Sim W φ H s.heap) (L : Loc W env sl lo φ s.heap) (r : RVs W.base φ s.heap first yf)
    (hs : ∀ e r, es = e :: r → starEach (e :: r) env = (false, eval e env) :: starEach r env) :
    wpAny (model W.prog W.w) A (callWith pos (.ref fa) yf (backTo pos (starEach es env)) []) (fun y s' => ∃ φ', EP W φ φ' H2 [] s s' ∧ RV W.base φ' s'.heap v y) NoE s := by
  refine callWith_function (o := o) (fd := fd) (evalArgs_ok ?_ hs)
  refine wpAny_mono (ha pos A φ lo H s vs H1 h1 R S L) (fun y s1 ⟨φ1, E1, r1⟩ => ?_) fun _ _ x => x
  refine ⟨⟨W.KX.keeps E1.sim.base _ _ ho, hd⟩, ?_⟩
  exact wpAny_mono (F.call h2 (R.le hk) E1.sim ((r.post E1.post).append r1)) (fun z s2 ⟨φ2, E2, r2⟩ => ⟨φ2, E1.trans E2, r2⟩) fun _ _ x => x

noncomputable def D.call (Df : DF) (fs : List DE) : DE := fun lo H => bnd (D.args fs lo H) fun vs H => Df vs H
theorem se_call {k : Nat} {g : Str} {fa : Addr} {o : Obj} {fd : FuncData} {Df : DF} {p pos : Pos} {es : List Expr} {fs : List DE} (F : FS W k (.ref fa) Df) (hg : nsIn W.K mainGlobals g = some (some (.ref fa)))
    (ho : W.K.lookup fa = some o) (hd : o.data = .func fd) (ha : SA W n env sl es fs) (hk : k ≤ n) (hx : env.kindOf g = some .globalImplicit) (hdb : (g == ("__debug__" : Str)) = false)
    (hs : ∀ e r, es = e :: r → starEach (e :: r) env = (false, eval e env) :: starEach r env) : SE W n env sl (.Call (.Name g p) es [] pos) (D.call Df fs) := by
  intro A φ lo H s v H' hf R S L
  obtain ⟨vs, H1, h1, h2⟩ := bnd_inv hf
  exact Call_ (glob_name S L hg hx hdb (callFn_ok F ho hd ha hk h1 (first := []) h2 R S L .nil hs))

theorem getMethod_ok {c : Nat} {C N : Addr} {x : Str} {fa : Addr} {o : Obj} {pl : Sem Bool} (K : Cls W c C N) (hf : nsIn W.K N x = some (some (.ref fa))) (ho : W.K.lookup fa = some o) (hc : o.cls = .type "function") (hB : ∃ y, typeLookup (.type "object") x = pure y)
    (hn : x ∉ W.names c) {φ : Adrs} {H : St} {s : Shared} {i : Nat} {l : List MV} {y : Value} {Q : Value × List Value → Shared → Prop} {E : Value → Shared → Prop}
    (S : Sim W φ H s.heap) (hi : H[i]? = some (.obj c l)) (r : RV W.base φ s.heap (.ref i) y) (q : Q (.ref fa, [y]) s) : wpAny (model W.prog W.w) A (getMethod y x pl) Q E s := by
  obtain ⟨a, d, rfl, ha, o'⟩ := S.obj_of hi r
  obtain ⟨m, I, fm, _⟩ := inst_of K.cls o'
  obtain ⟨nm, q', bs, sn, sub, ab, col, dd, k0, k1, k2, k3, k5, newId, hC⟩ := K.obj
  have X := W.KX.keeps S.base
  have hns : s.heap.Ns N (s.heap.nsMap N) := .of_isNs (isNs_held X K.ns)
  obtain ⟨h, g, dr, t, os⟩ := s
  obtain ⟨yB, hB⟩ := hB
  exact method_of (X _ _ hC) hns (ns_of X hns K.ga) (ns_of X hns K.gt) (ns_of X hns hf) (X _ _ ho) hc hB I (fm.2.2 x hn) q

noncomputable def isObj (c : Nat) (v : MV) (H : St) : Bool := match v with
  | .ref i => (match H[i]? with
    | some (.obj c' _) => c' == c
    | _ => false)
  | _ => false
theorem isObj_inv {c : Nat} {v : MV} {H : St} (h : isObj c v H = true) : ∃ i l, v = .ref i ∧ H[i]? = some (.obj c l) := by
  unfold isObj at h
  split at h
  · split at h
    · rename_i i _ c' l hi
      exact ⟨i, l, rfl, by rw [hi, beq_iff_eq.mp h]⟩
    · cases h
  · cases h
noncomputable def D.meth (c : Nat) (Df : DF) (f : DE) (fs : List DE) : DE := fun lo H => bnd (f lo H) fun v H => if isObj c v H then bnd (D.args fs lo H) fun vs H => Df (v :: vs) H else none
theorem se_meth {k c : Nat} {C N : Addr} {x : Str} {fa : Addr} {o : Obj} {fd : FuncData} {Df : DF} {e : Expr} {apos pos : Pos} {es : List Expr} {f : DE} {fs : List DE} {pl : Sem Bool} (K : Cls W c C N) (F : FS W k (.ref fa) Df)
    (hf : nsIn W.K N x = some (some (.ref fa))) (ho : W.K.lookup fa = some o) (hc : o.cls = .type "function") (hd : o.data = .func fd) (hB : ∃ y, typeLookup (.type "object") x = pure y) (hn : x ∉ W.names c)
    (he : SE W n env sl e f) (ha : SA W n env sl es fs) (hk : k ≤ n)
    (hs : ∀ e r, es = e :: r → starEach (e :: r) env = (false, eval e env) :: starEach r env)
    (hm : eval (.Call (.Attribute e x apos) es [] pos) env = (do
      let ov ← eval e env
      standAt apos.atName
      let (f, first) ← holding [ov] (getMethod ov x pl)
      callWith pos f first (backTo pos (starEach es env)) [])) : SE W n env sl (.Call (.Attribute e x apos) es [] pos) (D.meth c Df f fs) := by
  intro A φ lo H s v H' hf' R S L
  obtain ⟨a, H1, h1, h2⟩ := bnd_inv hf'
  split at h2
  · rename_i hobj
    obtain ⟨i, l, rfl, hi⟩ := isObj_inv hobj
    obtain ⟨vs, H2, h3, h4⟩ := bnd_inv h2
    refine MethodCall_ (pl := pl) (wpAny_mono (he A φ lo H s _ H1 h1 R S L) (fun y s1 ⟨φ1, E1, r1⟩ => ?_) fun _ _ x => x) hm
    refine getMethod_ok K hf ho hc hB hn E1.sim hi r1 ?_
    refine wpAny_mono (callFn_ok F ho hd ha hk h3 (first := [.ref i]) h4 R E1.sim (L.post0 E1.post) (.cons r1 .nil) hs) (fun z s2 ⟨φ2, E2, r2⟩ => ⟨φ2, E1.trans E2, r2⟩) fun _ _ x => x
  · cases h2
end
end Mine
namespace Mine

noncomputable abbrev DT := MV → Lo → St → Option (Lo × St)

noncomputable def TG (W : Wd) (n : Nat) (env : Env) (T : List Addr) (sl : List (Option Str)) (t : Expr) (g : DT) : Prop :=
  ∀ A φ lo H s v y lo' H', g v lo H = some (lo', H') → Room n A → Sim W φ H s.heap → Loc W env sl lo φ s.heap → RV W.base φ s.heap v y →
    wpAny (model W.prog W.w) A (assign t env y) (fun _ s' => ∃ φ', EP W φ φ' H' T s s' ∧ Loc W env sl lo' φ' s'.heap) NoE s

theorem as_attr {M : Model} {env : Env} {A : Around} {s : Shared} {E : Value → Shared → Prop} {o : Expr} {attr : Str} {pos : Pos} {v : Value} {Q : Unit → Shared → Prop} (h : wpAny M A (eval o env) (fun ov s₂ => wpAny M A (setAttr ov attr v) Q E s₂) E s) :
    wpAny M A (assign (.Attribute o attr pos) env v) Q E s := by
  rw [assign_Attribute]
  refine wpAny_bind (wpAny_holding (wpAny_mono h (fun ov s₂ h₂ => ?_) fun _ _ x => x))
  refine wpAny_bind (wpAny_standAt (wpAny_bind (wpAny_holding (wpAny_mono h₂ (fun _ s₃ h₃ => wpAny_release' h₃) fun _ _ x => x))))
theorem as_sub {M : Model} {env : Env} {A : Around} {s : Shared} {E : Value → Shared → Prop} {o i : Expr} {pos : Pos} {v : Value} {Q : Unit → Shared → Prop}
    (h : wpAny M A (eval o env) (fun ov s₂ => wpAny M A (eval i env) (fun iv s₃ => wpAny M A (setItem ov iv v) Q E s₃) E s₂) E s) : wpAny M A (assign (.Subscript o i pos) env v) Q E s := by
  rw [assign_Subscript]
  refine wpAny_bind (wpAny_holding (wpAny_mono h (fun ov s₂ h₂ => ?_) fun _ _ x => x))
  refine wpAny_bind (wpAny_holding (wpAny_mono h₂ (fun iv s₃ h₃ => ?_) fun _ _ x => x))
  exact wpAny_bind (wpAny_standAt (wpAny_bind (wpAny_holding (wpAny_mono h₃ (fun _ s₄ h₄ => wpAny_release' h₄) fun _ _ x => x))))

theorem same_post {φ : Adrs} {S : List Addr} {h h' : Heap} {a : Addr} (hs : Heap.SameBut a h h') (ha : a ∈ S ∨ a ∈ φ.map (·.2)) (hf : ∀ o, h.get? a = some o → fixed o = false) (hz : ∃ o, h'.get? a = some o) : Post φ φ S h h' := by
  refine ⟨List.prefix_rfl, fun _ hp => .inl hp, fun b x e h1 h2 => ?_, fun b x e hx => ?_, fun b x e => ?_⟩
  · refine (hs.2 b fun q => ?_).trans e
    subst q
    exact ha.elim h1 h2
  · refine (hs.2 b fun q => ?_).trans e
    subst q
    rw [hf x e] at hx; cases hx
  · by_cases q : b = a
    · subst q; exact hz
    · exact ⟨x, (hs.2 b q).trans e⟩

section
variable {W : Wd} {n : Nat} {env : Env} {T : List Addr} {sl : List (Option Str)} {A : Around}

theorem own_base {lo : Lo} {φ : Adrs} {h : Heap} (L : Loc W env sl lo φ h) : ∀ a ∈ ownOfE env, a ∉ φ.map (·.2) ∧ W.base.get? a = none := fun a ha => by
  have := L.own a ((List.mem_cons.mp ha).imp id id)
  exact ⟨this.1, this.2.1⟩

theorem Sim.own {φ : Adrs} {H : St} {h h' : Heap} {lo : Lo} (S : Sim W φ H h) (L : Loc W env sl lo φ h) {a : Addr} (P : Post φ φ [a] h h') (hs : Heap.SameBut a h h') (ha : a ∈ ownOfE env) : Sim W φ H h' :=
  S.keep P (fun b hb => by rw [List.mem_singleton.mp hb]; exact own_base L a ha) fun b o e hb => (hs.2 b fun q => (own_base L a ha).1 (q ▸ hb)).trans e
theorem Post.one {φ φ' : Adrs} {h h' : Heap} {a : Addr} {T : List Addr} (P : Post φ φ' [a] h h') (ha : a ∈ T) : Post φ φ' T h h' := P.weaken fun b hb => by rw [List.mem_singleton.mp hb]; exact ha

noncomputable def D.tname (i : Nat) : DT := fun v lo H => if i < lo.length then some (lo.set i (some v), H) else none

theorem store_ok {i : Nat} {x : Str} (hx : sl[i]? = some (some x)) (hk : (env.kindOf x = some .local ∧ env.locals ∈ T) ∨ (env.kindOf x = some .cell ∧ ∀ c ∈ env.cells.map (·.2), c ∈ T)) {φ : Adrs} {lo lo' : Lo} {H H' : St} {s : Shared} {v : MV} {y : Value}
    (hf : D.tname i v lo H = some (lo', H')) (S : Sim W φ H s.heap) (L : Loc W env sl lo φ s.heap) (r : RV W.base φ s.heap v y) :
    wpAny (model W.prog W.w) A (storeName env x y) (fun _ s' => ∃ φ', EP W φ φ' H' T s s' ∧ Loc W env sl lo' φ' s'.heap) NoE s := by
  unfold D.tname at hf
  split at hf
  · rename_i hi
    cases hf
    have hset : ∀ (j : Nat) (z : Str) (u : MV), sl[j]? = some (some z) → (lo.set i (some v))[j]? = some (some u) → (z = x ∧ u = v) ∨ (z ≠ x ∧ lo[j]? = some (some u)) := by
      intro j z u h1 h2
      by_cases hj : j = i
      · subst hj
        rw [hx] at h1
        rw [List.getElem?_set_self hi] at h2
        exact .inl ⟨(Option.some.inj (Option.some.inj h1)).symm, (Option.some.inj (Option.some.inj h2)).symm⟩
      · rw [List.getElem?_set_ne (Ne.symm hj)] at h2
        exact .inr ⟨fun e => hj (L.uniq j i x (e ▸ h1) hx), h2⟩
    rcases hk with ⟨hk, hT⟩ | ⟨hk, hT⟩
    · obtain ⟨m, hm, hr⟩ := L.loc
      refine wpAny_storeName_local hk hm (fun h' hn hs => ?_) (by rw [L.kind]; rfl)
      have hown : env.locals ∈ ownOfE env := .head _
      obtain ⟨_, _, o0, ho0, hf0⟩ := L.own env.locals (.inl rfl)
      have P : Post φ φ [_] s.heap h' := same_post hs (.inl (List.mem_singleton.mpr rfl)) (fun o e => by rw [ho0] at e; cases e; exact hf0) (by obtain ⟨o, _, _, e, _⟩ := hn; exact ⟨o, e⟩)
      refine ⟨φ, ⟨S.own L P hs hown, P.one hT, ⟨h', _, rfl⟩⟩, ?_⟩
      have kc : ∀ c ∈ env.cells.map (·.2), (∃ z, env.cells.lookup z = some c) → ∀ o, s.heap.get? c = some o → h'.get? c = some o := fun c hc ⟨z, hz⟩ o e => (hs.2 c (L.apart z c hz).1).trans e
      refine ⟨L.kind, L.glob, L.blt, fun a ha => ?_, L.uniq, ⟨_, hn, fun j z u h1 h2 h3 => ?_⟩, fun j z u h1 h2 h3 => ?_, fun z hz => ?_, L.apart⟩
      · obtain ⟨h1, h2, o, h3, h4⟩ := L.own a ha
        refine ⟨h1, h2, ?_⟩
        by_cases hl : a = env.locals
        · subst hl
          obtain ⟨o', es, ep, e1, e2, _⟩ := hn
          exact ⟨o', e1, by unfold fixed; rw [e2]⟩
        · exact ⟨o, (hs.2 a hl).trans h3, h4⟩
      · rcases hset j z u h1 h3 with ⟨rfl, rfl⟩ | ⟨hne, h3'⟩
        · exact ⟨y, by simp, r.post P⟩
        · obtain ⟨w, e, rw'⟩ := hr j z u h1 h2 h3'
          exact ⟨w, by simp [hne, e], rw'.post P⟩
      · rcases hset j z u h1 h3 with ⟨rfl, rfl⟩ | ⟨hne, h3'⟩
        · rw [hk] at h2; cases h2
        · obtain ⟨c, w, e1, ⟨o, e2, e3⟩, rw'⟩ := L.cel j z u h1 h2 h3'
          exact ⟨c, w, e1, ⟨o, kc c (lookup_mem e1) ⟨_, e1⟩ o e2, e3⟩, rw'.post P⟩
      · obtain ⟨c, w, e1, o, e2, e3⟩ := L.has z hz
        exact ⟨c, w, e1, o, kc c (lookup_mem e1) ⟨_, e1⟩ o e2, e3⟩
    · obtain ⟨c, v0, hc, hcell⟩ := L.has x hk
      refine wpAny_storeName_cell L.kind hk hc hcell (fun h' hn hs => ?_)
      have hown : c ∈ ownOfE env := .tail _ (lookup_mem hc)
      obtain ⟨_, _, o0, ho0, hf0⟩ := L.own c (.inr (lookup_mem hc))
      have P : Post φ φ [_] s.heap h' := same_post hs (.inl (List.mem_singleton.mpr rfl)) (fun o e => by rw [ho0] at e; cases e; exact hf0) (by obtain ⟨o, e, _⟩ := hn; exact ⟨o, e⟩)
      refine ⟨φ, ⟨S.own L P hs hown, P.one (hT c (lookup_mem hc)), ⟨h', s.toks, rfl⟩⟩, ?_⟩
      have hcl := (L.apart x c hc).1
      refine ⟨L.kind, L.glob, L.blt, fun a ha => ?_, L.uniq, ?_, fun j z u h1 h2 h3 => ?_, fun z hz => ?_, L.apart⟩
      · obtain ⟨h1, h2, o, h3, h4⟩ := L.own a ha
        refine ⟨h1, h2, ?_⟩
        by_cases hl : a = c
        · subst hl
          obtain ⟨o', e1, e2⟩ := hn
          exact ⟨o', e1, by unfold fixed; rw [e2]⟩
        · exact ⟨o, (hs.2 a hl).trans h3, h4⟩
      · obtain ⟨m, ⟨o, es, ep, e0, er⟩, hr⟩ := L.loc
        refine ⟨m, ⟨o, es, ep, (hs.2 _ (Ne.symm hcl)).trans e0, er⟩, fun j z u h1 h2 h3 => ?_⟩
        rcases hset j z u h1 h3 with ⟨rfl, rfl⟩ | ⟨hne, h3'⟩
        · rw [hk] at h2; cases h2
        · obtain ⟨w, e, rw'⟩ := hr j z u h1 h2 h3'
          exact ⟨w, e, rw'.post P⟩
      · rcases hset j z u h1 h3 with ⟨rfl, rfl⟩ | ⟨hne, h3'⟩
        · exact ⟨c, y, hc, hn, r.post P⟩
        · obtain ⟨c', w, e1, ⟨o, e2, e3⟩, rw'⟩ := L.cel j z u h1 h2 h3'
          refine ⟨c', w, e1, ⟨o, (hs.2 c' fun q => ?_).trans e2, e3⟩, rw'.post P⟩
          subst q
          exact hne ((L.apart _ _ hc).2 z e1)
      · obtain ⟨c', w, e1, o, e2, e3⟩ := L.has z hz
        by_cases q : c' = c
        · subst q
          exact ⟨c', some y, e1, hn⟩
        · exact ⟨c', w, e1, o, (hs.2 c' q).trans e2, e3⟩
  · cases hf

theorem tg_name {i : Nat} {x : Str} {pos : Pos} (hx : sl[i]? = some (some x)) (hk : (env.kindOf x = some .local ∧ env.locals ∈ T) ∨ (env.kindOf x = some .cell ∧ ∀ c ∈ env.cells.map (·.2), c ∈ T)) : TG W n env T sl (.Name x pos) (D.tname i) := by
  intro A φ lo H s v y lo' H' hf R S L r
  exact wpAny_assign_Name (store_ok hx hk hf S L r)

theorem turn_ep {φ : Adrs} {H : St} {s : Shared} {h' : Heap} {t i : Nat} {o o' : MO} {a d : Addr} (S : Sim W φ H s.heap) (hi : H[i]? = some o) (hp : φ[i]? = some (a, d)) (hs : Heap.SameBut d s.heap h')
    (q : (∀ b x, s.heap.get? b = some x → fixed x = true → h'.get? b = some x) → OR W φ h' o' a d) (hz : ∃ x, h'.get? d = some x) : EP W φ φ (H.set i o') [] s { s with heap := h', toks := t } := by
  have hf : ∀ x, s.heap.get? d = some x → fixed x = false := fun x hx => by
    obtain ⟨x', hx', hf⟩ := S.carrier (List.mem_of_getElem? hp)
    rw [show (a, d).2 = d from rfl, hx] at hx'; cases hx'; exact hf
  exact ⟨S.set hi hp (fun b x hb e => (hs.2 b hb).trans e) hf q, same_post hs (.inr (List.mem_map.mpr ⟨_, List.mem_of_getElem? hp, rfl⟩)) hf hz, ⟨h', t, rfl⟩⟩

noncomputable def setF (c k : Nat) (o v : MV) (H : St) : Option St := match o with
  | .ref i => (match H[i]? with
    | some (.obj c' l) => if c' = c then (if k < l.length then some (H.set i (.obj c (l.set k v))) else if k = l.length then some (H.set i (.obj c (l ++ [v]))) else Option.none) else Option.none
    | _ => Option.none)
  | _ => Option.none

theorem setAttr_ok {c k : Nat} {C N : Addr} {x : Str} (K : Cls W c C N) (hx : (W.names c)[k]? = some x) {φ : Adrs} {H H' : St} {s : Shared} {o v : MV} {y z : Value}
    (S : Sim W φ H s.heap) (hf : setF c k o v H = some H') (ro : RV W.base φ s.heap o y) (rv : RV W.base φ s.heap v z) :
    wpAny (model W.prog W.w) A (setAttr y x z) (fun _ s' => EP W φ φ H' [] s s') NoE s := by
  unfold setF at hf
  split at hf
  · rename_i i
    split at hf
    · rename_i c' l hi
      split at hf
      · rename_i hcc
        subst hcc
        obtain ⟨a, d, rfl, ha, oo⟩ := S.obj_of hi ro
        obtain ⟨m, I, fm, hg, hac, hda⟩ := inst_of K.cls oo
        obtain ⟨nm, q', bs, sn, sub, ab, col, dd, k0, k1, k2, k3, k5, newId, hC⟩ := K.obj
        have X := W.KX.keeps S.base
        have hn : s.heap.Ns N (s.heap.nsMap N) := .of_isNs (isNs_held X K.ns)
        have hm := List.mem_of_getElem? hx
        have hw : Within m (W.names c') := fun u hu => by
          by_cases q : u ∈ W.names c'
          · exact q
          · exact absurd (fm.2.2 u q) hu
        have hsp : ∃ l', (if k < l.length then some (H.set i (.obj c' (l.set k v))) else if k = l.length then some (H.set i (.obj c' (l ++ [v]))) else Option.none) = some (H.set i (.obj c' l')) ∧ ∀ base φ h, FM base φ h (W.names c') l m → RV base φ h v z → FM base φ h (W.names c') l' (fun u => if u = x then some z else m u) := by
          split at hf
          · rename_i hk
            exact ⟨_, by rw [if_pos hk], fun base φ h f r => f.set K.nd hx hk r⟩
          · split at hf
            · rename_i hk hk'
              subst hk'
              exact ⟨_, by rw [if_neg hk, if_pos rfl], fun base φ h f r => f.push K.nd hx r⟩
            · cases hf
        obtain ⟨l', e', hl'⟩ := hsp
        rw [e'] at hf
        cases hf
        obtain ⟨h, g, dr, t, os⟩ := s
        refine store_attr PySem.F.store_object (X _ _ hC) hn (ns_of X hn K.sa) (ns_of X hn (K.fld x hm).1) (K.fld x hm).2 hac I (fun h' tk' I' k1 k2 => ?_) hw (by rw [sizeLine_eq]; have := K.few; omega)
        have hx' : h'.get? a = some (instObj C d) := by
          obtain ⟨o1, e1, e2, e3, e4, e5⟩ := k2 _ hg
          obtain ⟨oc, od, oda, osl⟩ := o1
          simp only at e2 e3 e4 e5
          rw [e1, e2, e3, e4, e5 d rfl]
        obtain ⟨o2, ho2, _, _, hd2⟩ := I'
        rw [hx'] at ho2; cases ho2
        rcases hd2 with ⟨hd2, _⟩ | ⟨d', hd2, hne, hns⟩
        · cases hd2
        cases hd2
        have hs : ∀ b x, b ≠ d → h.get? b = some x → h'.get? b = some x := fun b o hb e => by
          by_cases q : b = a
          · subst q; rw [hg] at e; cases e; exact hx'
          · exact k1 b o q (fun o₀ dx h1 h2 => by rw [hg] at h1; cases h1; cases h2; exact hb) e
        have imm : ∀ b x, h.get? b = some x → fixed x = true → h'.get? b = some x := fun b o e hfx => by
          refine hs b o (fun q => ?_) e
          subst q
          obtain ⟨o3, e3, f3⟩ := S.carrier (List.mem_of_getElem? ha)
          rw [show (a, b).2 = b from rfl, e] at e3; cases e3
          rw [f3] at hfx; cases hfx
        refine ⟨S.set hi ha hs (fun o e => ?_) fun _ => ?_, ⟨List.prefix_rfl, fun _ hp => .inl hp, fun b o e _ h2 => hs b o (fun q => h2 (q ▸ List.mem_map.mpr ⟨_, List.mem_of_getElem? ha, rfl⟩)) e, imm, fun b o e => ?_⟩, ⟨h', tk', rfl⟩⟩
        · obtain ⟨o3, e3, f3⟩ := S.carrier (List.mem_of_getElem? ha)
          rw [show (a, d).2 = d from rfl, e] at e3; cases e3; exact f3
        · simp only [OR, K.cls]
          exact ⟨hx', hda, hac, _, hns, hl' _ _ _ (fm.mono List.prefix_rfl imm) (rv.mono List.prefix_rfl imm)⟩
        · by_cases q : b = d
          · subst q; obtain ⟨o4, _, _, e4, _⟩ := hns; exact ⟨o4, e4⟩
          · exact ⟨o, hs b o q e⟩
      · cases hf
    · cases hf
  · cases hf

noncomputable def D.tattr (c k : Nat) (f : DE) : DT := fun v lo H => bnd (f lo H) fun o H => (setF c k o v H).map fun H' => (lo, H')
theorem tg_attr {c k : Nat} {C N : Addr} {x : Str} {e : Expr} {pos : Pos} {f : DE} (K : Cls W c C N) (hx : (W.names c)[k]? = some x) (he : SE W n env sl e f) : TG W n env T sl (.Attribute e x pos) (D.tattr c k f) := by
  intro A φ lo H s v y lo' H' hf R S L r
  obtain ⟨o, H1, h1, h2⟩ := bnd_inv hf
  obtain ⟨H2, h3, h4⟩ := Option.map_eq_some_iff.mp h2
  cases h4
  refine as_attr (wpAny_mono (he A φ _ H s o H1 h1 R S L) (fun z s1 ⟨φ1, E1, r1⟩ => ?_) fun _ _ x => x)
  refine wpAny_mono (setAttr_ok K hx E1.sim h3 r1 (r.post E1.post)) (fun _ s2 E2 => ⟨φ1, (E1.trans E2).zero, (L.post0 E1.post).post0 E2.post⟩) fun _ _ x => x

theorem mapSeq_set (vs : Array Value) (n j : Nat) (v : Value) : (lst vs n).mapSeq (·.setIfInBounds j v) = lst (vs.setIfInBounds j v) n := by
  simp [Obj.mapSeq, lst]

theorem setItem_at {l : Addr} {vs : Array Value} {m : Nat} {k : Int} {t : Tok} {v : Value} {s : Shared} {Q : Unit → Shared → Prop} {E : Value → Shared → Prop} (hg : s.heap.get? l = some (lst vs m)) (h0 : 0 ≤ k) (hfit : k < 2 ^ 63) (hn : k < vs.size)
    (hQ : ∀ h', h'.get? l = some (lst (vs.setIfInBounds k.toNat v) m) → Heap.SameBut l s.heap h' → Q () { s with heap := h' }) : wpAny (model W.prog W.w) A (setItem (.ref l) (.int k t) v) Q E s := by
  have hl : s.heap.IsList l vs := ⟨_, hg, rfl, _, rfl⟩
  unfold setItem
  try with_reducible refine wpAny_holding ?_
  first | refine wpAny_bind (wpAny_pure ?_) | skip
  refine wpAny_bind (wpAny_sequenceKey hl.typeIs (by decide) ?_)
  refine wpAny_bind (wpAny_callSpecial?_slot (name := Str.ofString "__setitem__") hl.typeIs slot_list_setitem
    (wpAny_call_entry slot_list_setitem hl.typeIs entry_list_setitem ?_ (args_list_setitem _ _ _)))
  show wpAny _ _ (Builtin.List.listSubscript? (.int k t) >>= _) _ _ s
  refine wpAny_bind (wpAny_listSubscript_int (fitsIndex_of h0 hfit) ?_)
  clear hfit
  obtain ⟨j, rfl⟩ := Int.eq_ofNat_of_zero_le h0
  have hj : j < vs.size := by omega
  have e : (s.heap.update l (Obj.mapSeq (·.setIfInBounds j v))).get? l = some (lst (vs.setIfInBounds j v) m) := by
    rw [Heap.get?_update_self _ hg (by rw [mapSeq_set]; rfl), mapSeq_set]
  show wpAny _ _ ((seqItemAt l j >>= fun r => pure (r.map (j, ·))) >>= _) _ _ s
  refine wpAny_bind (wpAny_bind (wpAny_seqItemAt hg rfl (wpAny_pure ?_)))
  rw [Array.getElem?_eq_getElem hj]
  show wpAny _ _ (setSeqItemAt l j v >>= _) _ _ s
  refine wpAny_bind (wpAny_setSeqItemAt hg rfl ?_)
  first
    | exact wpAny_pure ⟨.none, rfl, wpAny_pure (hQ _ e (Heap.SameBut.update ..))⟩
    | exact wpAny_bind (wpAny_pure (wpAny_pure ⟨.none, rfl, wpAny_pure (hQ _ e (Heap.SameBut.update ..))⟩))

noncomputable def setI (o i v : MV) (H : St) : Option St := match o, i with
  | .ref r, .int k => (match H[r]? with
    | some (.list l) => if 0 ≤ k ∧ k < 2 ^ 62 ∧ k < l.length then some (H.set r (.list (l.set k.toNat v))) else Option.none
    | _ => Option.none)
  | _, _ => Option.none
noncomputable def D.tsub (f g : DE) : DT := fun v lo H => bnd (f lo H) fun o H => bnd (g lo H) fun i H => (setI o i v H).map fun H' => (lo, H')

theorem toList_setIf (vs : Array Value) (j : Nat) (v : Value) : (vs.setIfInBounds j v).toList = vs.toList.set j v := by simp

theorem setI_ok {φ : Adrs} {H H' : St} {s : Shared} {o i v : MV} {y k z : Value} (S : Sim W φ H s.heap) (hf : setI o i v H = some H') (ro : RV W.base φ s.heap o y) (ri : RV W.base φ s.heap i k) (rv : RV W.base φ s.heap v z) :
    wpAny (model W.prog W.w) A (setItem y k z) (fun _ s' => EP W φ φ H' [] s s') NoE s := by
  unfold setI at hf
  split at hf
  · rename_i r kk
    split at hf
    · rename_i l hl
      split at hf
      · rename_i hk
        cases hf
        obtain ⟨t, rfl⟩ := ri.int_inv
        obtain ⟨a, vs, m, rfl, ha, hg, rl⟩ := S.list_of hl ro
        have hlen : l.length = vs.size := by rw [rl.length, Array.length_toList]
        refine setItem_at hg hk.1 (by omega) (by omega) fun h' e hs => ?_
        refine turn_ep S hl ha hs (fun imm => ⟨rfl, _, m, e, ?_⟩) ⟨_, e⟩
        rw [toList_setIf]
        exact RVs.set (rv.mono List.prefix_rfl imm) (rl.mono List.prefix_rfl imm) _
      · cases hf
    · cases hf
  · cases hf

theorem tg_sub {e i : Expr} {pos : Pos} {f g : DE} (he : SE W n env sl e f) (hi : SE W n env sl i g) : TG W n env T sl (.Subscript e i pos) (D.tsub f g) := by
  intro A φ lo H s v y lo' H' hf R S L r
  obtain ⟨o, H1, h1, h2⟩ := bnd_inv hf
  obtain ⟨k, H2, h3, h4⟩ := bnd_inv h2
  obtain ⟨H3, h5, h6⟩ := Option.map_eq_some_iff.mp h4
  cases h6
  refine as_sub (wpAny_mono (he A φ _ H s o H1 h1 R S L) (fun z s1 ⟨φ1, E1, r1⟩ => ?_) fun _ _ x => x)
  have L1 := L.post0 E1.post
  refine wpAny_mono (hi A φ1 _ H1 s1 k H2 h3 R E1.sim L1) (fun w s2 ⟨φ2, E2, r2⟩ => ?_) fun _ _ x => x
  have L2 := L1.post0 E2.post
  exact wpAny_mono (setI_ok E2.sim h5 (r1.post E2.post) r2 ((r.post E1.post).post E2.post)) (fun _ s3 E3 => ⟨φ2, ((E1.trans E2).trans E3).zero, L2.post0 E3.post⟩) fun _ _ x => x

noncomputable def getK (c k : Nat) (o : MV) (H : St) : Option MV := match o with
  | .ref i => (match H[i]? with
    | some (.obj c' l) => if c' = c then l[k]? else Option.none
    | _ => Option.none)
  | _ => Option.none
noncomputable def setK (c k : Nat) (o v : MV) (H : St) : Option St := match o with
  | .ref i => (match H[i]? with
    | some (.obj c' l) => if c' = c ∧ k < l.length then some (H.set i (.obj c (l.set k v))) else Option.none
    | _ => Option.none)
  | _ => Option.none
noncomputable def D.key (c k : Nat) (f : DE) : DE := fun lo H => bnd (f lo H) fun o H => (getK c k o H).map fun v => (v, H)
noncomputable def D.tkey (c k : Nat) (f : DE) : DT := fun v lo H => bnd (f lo H) fun o H => (setK c k o v H).map fun H' => (lo, H')

theorem valueAt_get : ∀ {kvs : List (Str × Value)} {ns : List Str}, kvs.map (·.1) = ns → ns.Nodup → ∀ {k : Nat} {x : Str} {y : Value}, ns[k]? = some x → (kvs.map (·.2))[k]? = some y → valueAt kvs x = some y
  | [], _, e, _, _, _, _, h, _ => by subst e; simp at h
  | (a, b) :: r, _, e, nd, 0, x, y, h, h' => by
    subst e
    simp only [List.map_cons, List.getElem?_cons_zero, Option.some.injEq] at h h'
    subst h; subst h'
    simp [valueAt]
  | (a, b) :: r, _, e, nd, k + 1, x, y, h, h' => by
    subst e
    simp only [List.map_cons, List.getElem?_cons_succ, List.nodup_cons] at h h' nd
    have hne : x ≠ a := fun e => nd.1 (e ▸ List.mem_of_getElem? h)
    have := valueAt_get rfl nd.2 h h'
    simp only [valueAt] at this ⊢
    rw [List.find?_cons, show decide (a = x) = false by simpa using Ne.symm hne]
    exact this
theorem stored_names {kvs : List (Str × Value)} {ns : List Str} (e : kvs.map (·.1) = ns) {x : Str} (hx : x ∈ ns) (y : Value) : stored kvs x y = kvs.map fun kv => if kv.1 = x then (kv.1, y) else kv := by
  unfold stored
  rw [if_pos]
  subst e
  obtain ⟨p, hp, rfl⟩ := List.mem_map.mp hx
  exact List.any_eq_true.mpr ⟨p, hp, by simp⟩
theorem stored_vals : ∀ {kvs : List (Str × Value)} {ns : List Str}, kvs.map (·.1) = ns → ns.Nodup → ∀ {k : Nat} {x : Str}, ns[k]? = some x → ∀ y : Value,
    (kvs.map fun kv => if kv.1 = x then (kv.1, y) else kv).map (·.1) = ns ∧ (kvs.map fun kv => if kv.1 = x then (kv.1, y) else kv).map (·.2) = (kvs.map (·.2)).set k y
  | [], _, e, _, _, _, h, _ => by subst e; simp at h
  | (a, b) :: r, _, e, nd, 0, x, h, y => by
    subst e
    simp only [List.map_cons, List.getElem?_cons_zero, Option.some.injEq, List.nodup_cons] at h nd
    subst h
    have : (r.map fun kv => if kv.1 = a then (kv.1, y) else kv) = r := by
      refine (List.map_congr_left fun kv hkv => ?_).trans (List.map_id r)
      rw [if_neg]
      · rfl
      · intro e; exact nd.1 (e ▸ List.mem_map_of_mem hkv)
    simp [this]
  | (a, b) :: r, _, e, nd, k + 1, x, h, y => by
    subst e
    simp only [List.map_cons, List.getElem?_cons_succ, List.nodup_cons] at h nd
    have hne : a ≠ x := fun e => nd.1 (e ▸ List.mem_of_getElem? h)
    obtain ⟨h1, h2⟩ := stored_vals rfl nd.2 h y
    simp only [List.map_cons, if_neg hne, List.set_cons_succ]
    exact ⟨by rw [h1], by rw [h2]⟩

structure Dic (W : Wd) (c : Nat) : Prop where
  cls : W.cls c = none
  nd : (W.names c).Nodup
  few : (W.names c).length ≤ 1000

theorem getK_ok {c k : Nat} {x : Str} (K : Dic W c) (hx : (W.names c)[k]? = some x) {φ : Adrs} {H : St} {s : Shared} {o v : MV} {y : Value} {t : Tok} {value slice : Expr} {Q : Value → Shared → Prop} {E : Value → Shared → Prop}
    (S : Sim W φ H s.heap) (hf : getK c k o H = some v) (r : RV W.base φ s.heap o y)
    (hs : ∀ o, ∃ ops, subscripted slice false (.ref o) (.str x t) = operate ops (getItem (.ref o) (.str x t)))
    (q : ∀ z, RV W.base φ s.heap v z → Q z { s with toks := s.toks + 1 }) : wpAny (model W.prog W.w) A (subscriptTail value slice y (.str x t)) Q E s := by
  unfold getK at hf
  split at hf
  · rename_i i
    split at hf
    · rename_i c' l hi
      split at hf
      · rename_i hcc
        subst hcc
        obtain ⟨a, d, rfl, ha, oo⟩ := S.obj_of hi r
        simp only [OR, K.cls] at oo
        obtain ⟨rfl, kvs, hd, hn, rl⟩ := oo
        obtain ⟨z, hz, rz⟩ := rl.get hf
        have hm := hd.mapOf
        obtain ⟨ops, ho⟩ := hs a
        exact tail_any hm.typeIs slot_dict_getitem.lookup (wpAny_getItem_of (strKind_is W.prog W.w x t) hm (valueAt_get hn K.nd hx hz) (q z rz)) ho
      · cases hf
    · cases hf
  · cases hf

theorem se_key {c k : Nat} {x : Str} {e : Expr} {kk : Nat} {p pos : Pos} {f : DE} (K : Dic W c) (hx : (W.names c)[k]? = some x) (he : SE W n env sl e f)
    (hs : ∀ o t, ∃ ops, subscripted (.Constant (.str x) kk p) false (.ref o) (.str x t) = operate ops (getItem (.ref o) (.str x t))) : SE W n env sl (.Subscript e (.Constant (.str x) kk p) pos) (D.key c k f) := by
  intro A φ lo H s v H' hf R S L
  obtain ⟨o, H1, h1, h2⟩ := bnd_inv hf
  obtain ⟨v', h3, h4⟩ := Option.map_eq_some_iff.mp h2
  cases h4
  refine Subscript_ (wpAny_mono (he A φ lo H s o _ h1 R S L) (fun y s1 ⟨φ1, E1, r1⟩ => ?_) fun _ _ x => x)
  refine Constant_str ?_
  refine getK_ok (s := { s1 with toks := s1.toks + 1 }) K hx E1.sim h3 r1 (fun o => hs o _) fun z rz => ⟨φ1, E1.trans ((EP.tok E1.sim _).trans (.tok E1.sim _)), rz⟩

theorem setK_ok {c k : Nat} {x : Str} (K : Dic W c) (hx : (W.names c)[k]? = some x) {φ : Adrs} {H H' : St} {s : Shared} {o v : MV} {y z : Value} {t : Tok}
    (S : Sim W φ H s.heap) (hf : setK c k o v H = some H') (r : RV W.base φ s.heap o y) (rv : RV W.base φ s.heap v z) :
    wpAny (model W.prog W.w) A (setItem y (.str x t) z) (fun _ s' => EP W φ φ H' [] s s') NoE s := by
  unfold setK at hf
  split at hf
  · rename_i i
    split at hf
    · rename_i c' l hi
      split at hf
      · rename_i hcc
        obtain ⟨hcc, hk⟩ := hcc
        subst hcc
        cases hf
        obtain ⟨a, d, rfl, ha, oo⟩ := S.obj_of hi r
        simp only [OR, K.cls] at oo
        obtain ⟨rfl, kvs, hd, hn, rl⟩ := oo
        have hxm := List.mem_of_getElem? hx
        have hlen : kvs.length ≤ 1000 := by have := K.few; rw [← hn] at this; simpa using this
        refine wpAny_setItem_pairs (strKind_is W.prog W.w x t) hd (fun h' hd' hs => ?_) (by rw [sizeLine_eq]; omega)
        refine turn_ep S hi ha hs (fun imm => ?_) (by obtain ⟨o, _, _, e, _⟩ := hd'; exact ⟨o, e⟩)
        simp only [OR, K.cls]
        rw [stored_names hn hxm] at hd'
        obtain ⟨h1, h2⟩ := stored_vals hn K.nd hx z
        exact ⟨trivial, _, hd', h1, by rw [h2]; exact RVs.set (rv.mono List.prefix_rfl imm) (rl.mono List.prefix_rfl imm) _⟩
      · cases hf
    · cases hf
  · cases hf

theorem tg_key {c k : Nat} {x : Str} {e : Expr} {kk : Nat} {p pos : Pos} {f : DE} (K : Dic W c) (hx : (W.names c)[k]? = some x) (he : SE W n env sl e f) : TG W n env T sl (.Subscript e (.Constant (.str x) kk p) pos) (D.tkey c k f) := by
  intro A φ lo H s v y lo' H' hf R S L r
  obtain ⟨o, H1, h1, h2⟩ := bnd_inv hf
  obtain ⟨H2, h3, h4⟩ := Option.map_eq_some_iff.mp h2
  cases h4
  refine as_sub (wpAny_mono (he A φ _ H s o H1 h1 R S L) (fun z s1 ⟨φ1, E1, r1⟩ => ?_) fun _ _ x => x)
  have L1 := L.post0 E1.post
  refine Constant_str ?_
  refine wpAny_mono (setK_ok (s := { s1 with toks := s1.toks + 1 }) K hx E1.sim h3 r1 (r.post E1.post)) (fun _ s2 E2 => ?_) fun _ _ x => x
  exact ⟨φ1, ((E1.trans (.tok E1.sim _)).trans E2).zero, (L1.post0 (EP.tok (W := W) (S := []) E1.sim (s1.toks + 1)).post).post0 E2.post⟩
end
end Mine
namespace Mine

noncomputable def D.assigns : List DT → List MV → Lo → St → Option (Lo × St)
  | [], [], lo, H => some (lo, H)
  | g :: gs, v :: vs, lo, H => (match g v lo H with
    | some (lo', H') => D.assigns gs vs lo' H'
    | none => none)
  | _, _, _, _ => none

section
variable {W : Wd} {n : Nat} {env : Env} {T : List Addr} {sl : List (Option Str)} {A : Around}

noncomputable def TGs (W : Wd) (n : Nat) (env : Env) (T : List Addr) (sl : List (Option Str)) (ts : List (Value → Sem Unit)) (gs : List DT) : Prop :=
  ∀ A φ lo H s vs ys lo' H', D.assigns gs vs lo H = some (lo', H') → Room n A → Sim W φ H s.heap → Loc W env sl lo φ s.heap → RVs W.base φ s.heap vs ys →
    wpAny (model W.prog W.w) A (assignInOrder ts ys) (fun _ s' => ∃ φ', EP W φ φ' H' T s s' ∧ Loc W env sl lo' φ' s'.heap) NoE s
theorem tgs_nil : TGs W n env T sl [] [] := by
  intro A φ lo H s vs ys lo' H' hf R S L r
  cases r with
  | nil => cases hf; exact wpAny_pure ⟨φ, .refl S, L⟩
  | cons q r => cases hf
theorem tgs_cons' {t : Value → Sem Unit} {ts : List (Value → Sem Unit)} {g : DT} {gs : List DT}
    (ht : ∀ A φ lo H s v y lo' H', g v lo H = some (lo', H') → Room n A → Sim W φ H s.heap → Loc W env sl lo φ s.heap → RV W.base φ s.heap v y →
      wpAny (model W.prog W.w) A (t y) (fun _ s' => ∃ φ', EP W φ φ' H' T s s' ∧ Loc W env sl lo' φ' s'.heap) NoE s) (hr : TGs W n env T sl ts gs) : TGs W n env T sl (t :: ts) (g :: gs) := by
  intro A φ lo H s vs ys lo' H' hf R S L r
  cases r with
  | nil => cases hf
  | cons q r =>
    simp only [D.assigns] at hf
    split at hf
    · rename_i lo1 H1 h1
      unfold assignInOrder
      refine wpAny_bind (wpAny_holding (wpAny_mono (ht A φ lo H s _ _ _ _ h1 R S L q) (fun _ s1 ⟨φ1, E1, L1⟩ => ?_) fun _ _ x => x))
      exact wpAny_mono (hr A φ1 lo1 H1 s1 _ _ _ _ hf R E1.sim L1 (r.post E1.post)) (fun _ s2 ⟨φ2, E2, L2⟩ => ⟨φ2, E1.trans E2, L2⟩) fun _ _ x => x
    · cases hf
theorem tgs_cons {t : Expr} {ts : List Expr} {g : DT} {gs : List DT} (ht : TG W n env T sl t g) (hr : TGs W n env T sl ((assignEach ts env).map (·.2)) gs) (he : (assignEach (t :: ts) env).map (·.2) = assign t env :: (assignEach ts env).map (·.2)) :
    TGs W n env T sl ((assignEach (t :: ts) env).map (·.2)) (g :: gs) := by
  rw [he]
  exact tgs_cons' ht hr

noncomputable def D.ttup (gs : List DT) : DT := fun v lo H => match v with
  | .tup vs => if vs.length = gs.length then D.assigns gs vs lo H else none
  | _ => none
theorem tg_tup {elts : List Expr} {k : Nat} {pos : Pos} {gs : List DT} (h : TGs W n env T sl ((assignEach elts env).map (·.2)) gs) (hl : (assignEach elts env).length = gs.length) (hstar : (assignEach elts env).findIdx? (·.1) = none) :
    TG W n env T sl (.Tuple elts k pos) (D.ttup gs) := by
  intro A φ lo H s v y lo' H' hf R S L r
  unfold D.ttup at hf
  split at hf
  · rename_i vs
    split at hf
    · rename_i hlen
      obtain ⟨a, ys, rfl, hT, rl⟩ := r.tup_inv
      refine assign_Tuple_tuple R.1 hT (by rw [hl, ← hlen, rl.length]; simp) hstar (fun h' hx => ?_)
      have E1 : EP W φ φ H [] s { s with heap := h', toks := s.toks } := grow_ep S fun b o e => hx b o (Nat.ne_of_lt (Heap.lt_size e)) e
      refine wpAny_mono (h A φ lo H { s with heap := h' } vs ys lo' H' hf R E1.sim (L.post0 E1.post) (rl.post E1.post)) (fun _ s2 ⟨φ2, E2, L2⟩ => ⟨φ2, E1.zero.trans E2, L2⟩) fun _ _ x => x
    · cases hf
  · cases hf

noncomputable def D.assign (f : DE) (g : DT) : DS := fun lo H => bnd (f lo H) fun v H => (g v lo H).map fun p => (.next, p.1, p.2)
theorem ss_assign {t value : Expr} {pos : Pos} {f : DE} {g : DT} (hv : SE W n env sl value f) (ht : TG W n env (ownOfE env) sl t g) (hs : swapsWithSole [t] value pos.line env = pure false) (hw : swappedStores [t] value env = pure none)
    (he : (assignEach [t] env).map (·.2) = [assign t env]) : SS W n env sl (.Assign [t] value pos) (D.assign f g) := by
  intro A φ lo H s fl lo' H' hf R S L
  obtain ⟨v, H1, h1, h2⟩ := bnd_inv hf
  obtain ⟨p, h3, h4⟩ := Option.map_eq_some_iff.mp h2
  cases h4
  refine wpAny_Assign_stores (wpAny_mono (hv A φ lo H s v H1 h1 R S L) (fun y s1 ⟨φ1, E1, r1⟩ => ?_) fun _ _ x => x) hs hw
  rw [he]
  show wpAny _ A (assign t env y) _ _ s1
  exact wpAny_mono (ht A φ1 lo H1 s1 v y _ _ h3 R E1.sim (L.post0 E1.post) r1) (fun _ s2 ⟨φ2, E2, L2⟩ => ⟨φ2, E1.zero.trans E2, L2, trivial⟩) fun _ _ x => x

noncomputable def D.swap (f : DE) (is : List Nat) : DS := fun lo H => bnd (f lo H) fun v H => match v with
  | .tup vs => if vs.length = is.length then (D.assigns (is.reverse.map D.tname) vs.reverse lo H).map fun p => (.next, p.1, p.2) else none
  | _ => none
theorem RVs.reverse {base : Heap} {φ : Adrs} {h : Heap} : ∀ {v : List MV} {x : List Value}, RVs base φ h v x → RVs base φ h v.reverse x.reverse
  | _, _, .nil => .nil
  | _, _, .cons q r => by simp only [List.reverse_cons]; exact (RVs.reverse r).append (.cons q .nil)
theorem tgs_names : ∀ {is : List Nat} {xs : List Str}, is.length = xs.length → (∀ (k i : Nat) (x : Str), is[k]? = some i → xs[k]? = some x → sl[i]? = some (some x) ∧ ((env.kindOf x = some .local ∧ env.locals ∈ T) ∨ (env.kindOf x = some .cell ∧ ∀ c ∈ env.cells.map (·.2), c ∈ T))) → TGs W n env T sl (xs.map fun x => bindName env x) (is.map D.tname)
  | [], [], _, _ => tgs_nil
  | i :: is, x :: xs, hl, h => by
    refine tgs_cons' (fun A φ lo H s v y lo' H' hf R S L r => ?_) (tgs_names (by simpa using hl) fun k j z h1 h2 => h (k + 1) j z (by simpa using h1) (by simpa using h2))
    obtain ⟨h1, h2⟩ := h 0 i x rfl rfl
    exact wpAny_bindName (store_ok h1 h2 hf S L r)
  | [], _ :: _, hl, _ => by cases hl
  | _ :: _, [], hl, _ => by cases hl
theorem ss_swap {elts : List Expr} {k : Nat} {tpos pos : Pos} {value : Expr} {f : DE} {is : List Nat} {xs : List Str} (hv : SE W n env sl value f)
    (hs : swapsWithSole [.Tuple elts k tpos] value pos.line env = pure false) (hw : swappedStores [.Tuple elts k tpos] value env = pure (some xs)) (hl : is.length = xs.length)
    (hx : ∀ (k i : Nat) (x : Str), is[k]? = some i → xs[k]? = some x → sl[i]? = some (some x) ∧ (env.kindOf x = some .local ∨ env.kindOf x = some .cell)) :
    SS W n env sl (.Assign [.Tuple elts k tpos] value pos) (D.swap f is) := by
  intro A φ lo H s fl lo' H' hf R S L
  obtain ⟨v, H1, h1, h2⟩ := bnd_inv hf
  split at h2
  · rename_i vs
    split at h2
    · rename_i hlen
      obtain ⟨p, h3, h4⟩ := Option.map_eq_some_iff.mp h2
      cases h4
      refine Assign_Tuple_swapped (wpAny_mono (hv A φ lo H s _ H1 h1 R S L) (fun y s1 ⟨φ1, E1, r1⟩ => ?_) fun _ _ x => x) hs hw
      obtain ⟨a, ys, rfl, hT, rl⟩ := r1.tup_inv
      have e : xs.length = ys.toArray.size := by rw [← hl, ← hlen, rl.length]; simp
      rw [e]
      refine unpackItems_tuple R.1 hT (fun h' hx' => ?_)
      have E2 : EP W φ1 φ1 H1 [] s1 { s1 with heap := h', toks := s1.toks } := grow_ep E1.sim fun b o e => hx' b o (Nat.ne_of_lt (Heap.lt_size e)) e
      have TT : TGs W n env (ownOfE env) sl (xs.reverse.map fun x => bindName env x) (is.reverse.map D.tname) := by
        refine tgs_names (by simp [hl]) fun k i x h1 h2 => ?_
        have hk : k < is.length := by simpa using (List.getElem?_eq_some_iff.mp h1).1
        rw [List.getElem?_reverse hk] at h1
        rw [List.getElem?_reverse (hl ▸ hk)] at h2
        rw [← hl] at h2
        obtain ⟨q1, q2⟩ := hx _ i x h1 h2
        exact ⟨q1, q2.imp (fun q => ⟨q, .head _⟩) fun q => ⟨q, fun c hc => .tail _ hc⟩⟩
      refine wpAny_mono (TT A φ1 lo H1 { s1 with heap := h' } vs.reverse ys.reverse _ _ h3 R E2.sim ((L.post0 E1.post).post0 E2.post) (rl.reverse.post E2.post)) (fun _ s2 ⟨φ2, E3, L3⟩ => ⟨φ2, (E1.zero.trans E2.zero).trans E3, L3, trivial⟩) fun _ _ x => x
    · cases h2
  · cases h2

noncomputable def D.ret (f : DE) : DS := fun lo H => bnd (f lo H) fun v H => some (.ret v, lo, H)
theorem ss_ret {e : Expr} {pos : Pos} {f : DE} (he : SE W n env sl e f) : SS W n env sl (.Return (some e) pos) (D.ret f) := by
  intro A φ lo H s fl lo' H' hf R S L
  obtain ⟨v, H1, h1, h2⟩ := bnd_inv hf
  cases h2
  exact wpAny_Return_some (wpAny_mono (he A φ lo H s v _ h1 R S L) (fun y s1 ⟨φ1, E1, r1⟩ => ⟨φ1, E1.zero, L.post0 E1.post, r1⟩) fun _ _ x => x)
noncomputable def D.ret0 : DS := fun lo H => some (.ret .none, lo, H)
theorem ss_ret0 {pos : Pos} : SS W n env sl (.Return none pos) D.ret0 := by
  intro A φ lo H s fl lo' H' hf R S L
  cases hf
  exact wpAny_Return_none ⟨φ, .refl S, L, .none⟩
noncomputable def D.brk : DS := fun lo H => some (.brk, lo, H)
theorem ss_brk {pos : Pos} : SS W n env sl (.Break pos) D.brk := by
  intro A φ lo H s fl lo' H' hf R S L
  cases hf
  exact wpAny_bind (wpAny_standAt (wpAny_pure ⟨φ, .refl S, L, trivial⟩))
noncomputable def D.cont : DS := fun lo H => some (.cont, lo, H)
theorem ss_cont {pos : Pos} : SS W n env sl (.Continue pos) D.cont := by
  intro A φ lo H s fl lo' H' hf R S L
  cases hf
  exact wpAny_bind (wpAny_standAt (wpAny_pure ⟨φ, .refl S, L, trivial⟩))
noncomputable def D.expr (f : DE) : DS := fun lo H => bnd (f lo H) fun _ H => some (.next, lo, H)
theorem ss_expr {e : Expr} {pos : Pos} {f : DE} (he : SE W n env sl e f) (hi : interactive env = false) (hs : swapsWith e none pos.line env = pure false) : SS W n env sl (.Expr e pos) (D.expr f) := by
  intro A φ lo H s fl lo' H' hf R S L
  obtain ⟨v, H1, h1, h2⟩ := bnd_inv hf
  cases h2
  exact wpAny_Expr_any (wpAny_mono (he A φ lo H s v _ h1 R S L) (fun y s1 ⟨φ1, E1, r1⟩ => ⟨φ1, E1.zero, L.post0 E1.post, trivial⟩) fun _ _ x => x) hi hs

noncomputable def D.ifs (t : Lo → St → Option (Bool × St)) (b o : DS) : DS := fun lo H => bnd (t lo H) fun c H => if c then b lo H else o lo H
theorem ss_if {t : Expr} {body orelse : List Stmt} {pos : Pos} {ft : Lo → St → Option (Bool × St)} {b o : DS} (ht : ST W n env sl t ft) (hb : SB W n env sl body b) (ho : SB W n env sl orelse o) : SS W n env sl (.If t body orelse pos) (D.ifs ft b o) := by
  intro A φ lo H s fl lo' H' hf R S L
  obtain ⟨c, H1, h1, h2⟩ := bnd_inv hf
  refine wpAny_If (wpAny_mono (ht A φ lo H s c H1 h1 R S L) (fun y s1 ⟨φ1, E1, r1⟩ => ?_) fun _ _ x => x)
  subst r1
  have L1 := L.post0 E1.post
  cases y
  · exact wpAny_mono (ho A φ1 lo H1 s1 fl lo' H' h2 R E1.sim L1) (fun z s2 ⟨φ2, E2, L2, r2⟩ => ⟨φ2, E1.zero.trans E2, L2, r2⟩) fun _ _ x => x
  · exact wpAny_mono (hb A φ1 lo H1 s1 fl lo' H' h2 R E1.sim L1) (fun z s2 ⟨φ2, E2, L2, r2⟩ => ⟨φ2, E1.zero.trans E2, L2, r2⟩) fun _ _ x => x

noncomputable def D.skip : DS := fun lo H => some (.next, lo, H)
noncomputable def D.seq (a b : DS) : DS := fun lo H => match a lo H with
  | some (.next, lo', H') => b lo' H'
  | r => r
theorem sb_nil : SB W n env sl [] D.skip := by
  intro A φ lo H s fl lo' H' hf R S L
  cases hf
  exact wpAny_execs_nil ⟨φ, .refl S, L, trivial⟩
theorem sb_cons {t : Stmt} {r : List Stmt} {a b : DS} (ht : SS W n env sl t a) (hr : SB W n env sl r b) : SB W n env sl (t :: r) (D.seq a b) := by
  intro A φ lo H s fl lo' H' hf R S L
  unfold D.seq at hf
  split at hf
  · rename_i lo1 H1 h1
    refine wpAny_execs_cons (wpAny_mono (ht A φ lo H s _ _ _ h1 R S L) (fun y s1 ⟨φ1, E1, L1, r1⟩ => ?_) fun _ _ x => x)
    cases y <;> simp only [RFl] at r1
    exact wpAny_mono (hr A φ1 lo1 H1 s1 fl lo' H' hf R E1.sim L1) (fun z s2 ⟨φ2, E2, L2, r2⟩ => ⟨φ2, E1.trans E2, L2, r2⟩) fun _ _ x => x
  · rename_i hne
    refine wpAny_execs_cons (wpAny_mono (ht A φ lo H s fl lo' H' hf R S L) (fun y s1 ⟨φ1, E1, L1, r1⟩ => ?_) fun _ _ x => x)
    cases fl with
    | next => exact absurd hf (hne lo' H')
    | brk => cases y <;> simp only [RFl] at r1; exact ⟨φ1, E1, L1, trivial⟩
    | cont => cases y <;> simp only [RFl] at r1; exact ⟨φ1, E1, L1, trivial⟩
    | ret v => cases y <;> simp only [RFl] at r1; exact ⟨φ1, E1, L1, r1⟩

end
end Mine
namespace Mine

section
variable {W : Wd} {n : Nat} {env : Env} {sl : List (Option Str)} {A : Around}

noncomputable abbrev Res := Fl × Lo × St

noncomputable def after : Option Res → Option (Lo × St ⊕ Res)
  | some (.next, lo, H) => some (.inl (lo, H))
  | some (.cont, lo, H) => some (.inl (lo, H))
  | some (.brk, lo, H) => some (.inr (.next, lo, H))
  | some (.ret v, lo, H) => some (.inr (.ret v, lo, H))
  | none => none

theorem turn_ok {body : List Stmt} {b : DS} (hb : SB W n env sl body b) {φ : Adrs} {lo : Lo} {H : St} {s : Shared} {x : Lo × St ⊕ Res} {k : Nat} {I : Nat → Shared → Prop} {R : Result → Shared → Prop} {E : Value → Shared → Prop}
    (ha : after (b lo H) = some x) (Ro : Room n A) (S : Sim W φ H s.heap) (L : Loc W env sl lo φ s.heap)
    (h1 : ∀ lo' H' φ' s', x = .inl (lo', H') → EP W φ φ' H' (ownOfE env) s s' → Loc W env sl lo' φ' s'.heap → ∃ m, m < k ∧ I m s')
    (h2 : ∀ fl lo' H' φ' s' f, x = .inr (fl, lo', H') → EP W φ φ' H' (ownOfE env) s s' → Loc W env sl lo' φ' s'.heap → RFl W φ' s'.heap fl f → (f = .next ∨ ∃ v, f = .ret v) → R (.ok f) s') :
    wpAny (model W.prog W.w) A (execs body env) (fun f s' => match f with
      | .next | .cont => ∃ m, m < k ∧ I m s'
      | .brk => R (.ok .next) s'
      | .ret v => R (.ok (.ret v)) s') E s := by
  unfold after at ha
  split at ha <;> cases ha
  all_goals
    rename_i h4
    refine wpAny_mono (hb A φ lo H s _ _ _ h4 Ro S L) (fun z s3 ⟨φ3, E3, L3, r3⟩ => ?_) fun _ _ x => x.elim
    cases z <;> simp only [RFl] at r3
  · exact h1 _ _ φ3 s3 rfl E3 L3
  · exact h1 _ _ φ3 s3 rfl E3 L3
  · exact h2 _ _ _ φ3 s3 .next rfl E3 L3 trivial (.inl rfl)
  · exact h2 _ _ _ φ3 s3 _ rfl E3 L3 r3 (.inr ⟨_, rfl⟩)

noncomputable def D.loop (t : Lo → St → Option (Bool × St)) (b : DS) : Nat → DS
  | 0 => fun _ _ => none
  | k + 1 => fun lo H => bnd (t lo H) fun c H => if c then (match after (b lo H) with
    | some (.inl (lo', H')) => D.loop t b k lo' H'
    | some (.inr r) => some r
    | none => none) else some (.next, lo, H)
noncomputable abbrev fuel : Nat := 200
theorem ss_while {t : Expr} {body : List Stmt} {pos : Pos} {ft : Lo → St → Option (Bool × St)} {b : DS} (ht : ST W n env sl t ft) (hb : SB W n env sl body b) : SS W n env sl (.While t body [] pos) (D.loop ft b fuel) := by
  intro A φ lo H s fl lo' H' hf R S L
  refine wpAny_While (codeAny_whileLoop (fun k s' => ∃ φ1 lo1 H1, D.loop ft b k lo1 H1 = some (fl, lo', H') ∧ EP W φ φ1 H1 (ownOfE env) s s' ∧ Loc W env sl lo1 φ1 s'.heap) ?_ fuel ⟨φ, lo, H, hf, .refl S, L⟩)
  rintro k s1 ⟨φ1, lo1, H1, hf1, E1, L1⟩
  cases k with
  | zero => cases hf1
  | succ k =>
    obtain ⟨c, H2, h1, h2⟩ := bnd_inv hf1
    refine wpAny_mono (ht A φ1 lo1 H1 s1 c H2 h1 R E1.sim L1) (fun y s2 ⟨φ2, E2, r2⟩ => ?_) fun _ _ x => x.elim
    subst r2
    have L2 := L1.post0 E2.post
    cases y with
    | false =>
      cases h2
      exact wpAny_execs_nil ⟨φ2, E1.trans E2.zero, L2, trivial⟩
    | true =>
      simp only [if_true] at h2
      simp only [if_true]
      cases hx : after (b lo1 H2) with
      | none => rw [hx] at h2; cases h2
      | some x =>
        rw [hx] at h2
        refine turn_ok (k := k + 1) (R := fun r s' => match r with | .ok f => ∃ φ', EP W φ φ' H' (ownOfE env) s s' ∧ Loc W env sl lo' φ' s'.heap ∧ RFl W φ' s'.heap fl f | .error e => cameBackBy (model W.prog W.w) A env NoE e s') (I := fun k s' => ∃ φ1 lo1 H1, D.loop ft b k lo1 H1 = some (fl, lo', H') ∧ EP W φ φ1 H1 (ownOfE env) s s' ∧ Loc W env sl lo1 φ1 s'.heap) hb hx R E2.sim L2
          (fun lo5 H5 φ5 s5 ex E5 L5 => ?_) (fun fl5 lo5 H5 φ5 s5 f ex E5 L5 rf hff => ?_)
        · rw [ex] at h2
          exact ⟨k, Nat.lt_succ_self k, φ5, lo5, H5, h2, (E1.trans E2.zero).trans E5, L5⟩
        · rw [ex] at h2
          cases h2
          exact ⟨φ5, (E1.trans E2.zero).trans E5, L5, rf⟩

theorem lot_ok {M : Model} {target : Expr} {it : Addr} {v : Value} {o : Obj} {T : String} {s : Shared} {Q : Unit → Shared → Prop} {E : Value → Shared → Prop} (ho : s.heap.get? it = some o) (hc : o.cls = .type T)
    (hT : (["enumerate", "zip", "dict_itemiterator", "dict_reverseitemiterator", "odict_iterator", "itertools.zip_longest", "itertools.pairwise"] : List String).contains T = false) (q : Q () s) : wpAny M A (letOwnedTupleGo target (.ref it) v) Q E s := by
  have body : wpAny M A (do
      let (.ref r, .ref a) := (Value.ref it, v) | (pure () : Sem Unit)
      let o ← load r
      match o.cls, o.data with
      | .type n, .fields vs =>
        if ["enumerate", "zip", "dict_itemiterator", "dict_reverseitemiterator", "odict_iterator", "itertools.zip_longest", "itertools.pairwise"].contains n && vs[0]? == some (rawInt a) then
          rule "for.unpacks-the-owned-tuple"
          updateField r 0 .none
      | _, _ => pure ()) Q E s := by
    cases v with
    | ref a =>
      refine wpAny_bind (wpAny_load ho ?_)
      rw [hc]
      split
      · rename_i h1 h2
        cases h1
        rw [hT, Bool.false_and]
        exact wpAny_pure q
      · exact wpAny_pure q
    | _ => exact wpAny_pure q
  unfold letOwnedTupleGo
  split <;> first | exact body | exact wpAny_pure q

noncomputable def rangeItems (a b c : Int) : List MV := (List.range (Builtin.Range.rangeSize a b c).toNat).map fun i : Nat => .int (a + i * c)
end
end Mine
namespace Mine

section
variable {W : Wd} {n : Nat} {env : Env} {sl : List (Option Str)} {A : Around}

noncomputable def CB (W : Wd) (fv : Value) (b : List MV → St → Option (MV × St)) : Prop :=
  ∀ A φ args H s v H' ys, b args H = some (v, H') → A.handled = none → A.units + 64 < cLine → Sim W φ H s.heap → RVs W.base φ s.heap args ys →
    wpAny (model W.prog W.w) A (call fv ys) (fun y s' => ∃ φ', EP W φ φ' H' [] s s' ∧ RV W.base φ' s'.heap v y) NoE s

noncomputable def D.bcall (b : List MV → St → Option (MV × St)) (fs : List DE) : DE := fun lo H => bnd (D.args fs lo H) fun vs H => b vs H

theorem callWith_type {T : String} {M : Model} {pos : Pos} {args : List (Bool × Sem Value)} {s : Shared} {Q : Value → Shared → Prop} {E : Value → Shared → Prop} (hplain : args.any (·.1) = false)
    (h : wpAny M A (evalArgs (.type T) true args []) (fun a s₁ => wpAny M A (call (.type T) ([] ++ a.pos) a.kw) Q E s₁) E s) : wpAny M A (callWith pos (.type T) [] args []) Q E s := by
  unfold callWith
  refine wpAny_bind (wpAny_holding (wpAny_mono h (fun a s₁ h₁ => wpAny_bind (wpAny_standAt ?_)) fun _ _ x => x))
  simp only [hplain, List.any_nil, Bool.or_false]
  refine wpAny_bind (wpAny_pure ?_)
  exact wpAny_bind (wpAny_mono h₁ (fun r s₂ hr => wpAny_bind (wpAny_holding (wpAny_point (wpAny_pure hr)))) fun _ _ x => x)

theorem se_bcall {g : Str} {p pos : Pos} {es : List Expr} {fs : List DE} {fv : Value} {b : List MV → St → Option (MV × St)} (hb : CB W fv b) (hfv : (∃ id, fv = .builtin id) ∨ ∃ T, fv = .type T) (hg : nsIn W.K mainGlobals g = some none) (hv : bootBuiltins g = some fv)
    (hn : g ≠ "__name__") (hx : env.kindOf g = some .globalImplicit) (hd : (g == ("__debug__" : Str)) = false) (ha : SA W n env sl es fs) (hst : es.any isStarred = false) (hs : ∀ e r, es = e :: r → starEach (e :: r) env = (false, eval e env) :: starEach r env) :
    SE W n env sl (.Call (.Name g p) es [] pos) (D.bcall b fs) := by
  intro A φ lo H s v H' hf R S L
  obtain ⟨vs, H1, h1, h2⟩ := bnd_inv hf
  refine Call_ (blt_name S L hg hv hn hx hd ?_)
  have key : wpAny (model W.prog W.w) A (evalArgs fv true (backTo pos (starEach es env)) []) (fun a s₁ => wpAny (model W.prog W.w) A (call fv ([] ++ a.pos) a.kw) (fun y s' => ∃ φ', EP W φ φ' H' [] s s' ∧ RV W.base φ' s'.heap v y) NoE s₁) NoE s := by
    refine evalArgs_ok (wpAny_mono (ha pos A φ lo H s vs H1 h1 R S L) (fun y s1 ⟨φ1, E1, r1⟩ => ?_) fun _ _ x => x) hs
    exact wpAny_mono (hb A φ1 vs H1 s1 v H' y h2 R.1 R.units E1.sim r1) (fun z s2 ⟨φ2, E2, r2⟩ => ⟨φ2, E1.trans E2, r2⟩) fun _ _ x => x
  rcases hfv with ⟨id, rfl⟩ | ⟨T, rfl⟩
  · exact callWith_builtin (no_star hst) key
  · exact callWith_type (no_star hst) key

noncomputable def b.len : List MV → St → Option (MV × St)
  | [.ref i], H => (match H[i]? with
    | some (.list l) => if small l.length then some (.int l.length, H) else none
    | _ => none)
  | _, _ => none
theorem cb_len : CB W (.builtin "len") b.len := by
  intro A φ args H s v H' ys hb hA hu S r
  unfold b.len at hb
  split at hb
  · rename_i i
    split at hb
    · rename_i l hl
      split at hb
      · rename_i hz
        cases hb
        obtain ⟨_, rfl, q⟩ := r.one_inv
        obtain ⟨a, vs, m, rfl, ha, hg, rl⟩ := S.list_of hl q
        have hz' : l.length ≤ 1000000 := by simpa [small] using hz
        have hlen : l.length = vs.size := by rw [rl.length, Array.length_toList]
        rw [hlen]
        exact call_len_list ⟨_, hg, rfl, _, rfl⟩ (by omega) ⟨φ, .tok S _, .int ..⟩
      · cases hb
    · cases hb
  · cases hb

noncomputable def b.abs : List MV → St → Option (MV × St)
  | [.int i], H => some (.int (if i < 0 then -i else i), H)
  | _, _ => none
theorem cb_abs : CB W (.builtin "abs") b.abs := by
  intro A φ args H s v H' ys hb hA hu S r
  unfold b.abs at hb
  split at hb
  · cases hb
    obtain ⟨_, rfl, q⟩ := r.one_inv
    obtain ⟨_, rfl⟩ := q.int_inv
    exact call_abs_int fun u tk => ⟨φ, .tok S _, .int ..⟩
  · cases hb

theorem intsOf_inv {l : List MV} : ∀ {ns : List Int}, intsOf l = some ns → l = ns.map .int := by
  induction l with
  | nil => intro ns h; cases h; rfl
  | cons v l ih =>
    intro ns h
    cases v with
    | int i =>
      obtain ⟨ns, h1, rfl⟩ := Option.map_eq_some_iff.mp h
      rw [List.map_cons, ← ih h1]
    | _ => cases h
noncomputable def b.range (args : List MV) (H : St) : Option (MV × St) := match intsOf args with
  | some [b] => some (.rng 0 b 1, H)
  | some [a, b] => some (.rng a b 1, H)
  | some [a, b, c] => if c == 0 then none else if c.natAbs < 1073741824 then some (.rng a b c, H) else none
  | _ => none
theorem cb_range : CB W (.type "range") b.range := by
  intro A φ args H s v H' ys hb hA hu S r
  unfold b.range at hb
  split at hb
  · rename_i h
    rw [intsOf_inv h] at r
    cases hb
    obtain ⟨_, rfl, q⟩ := r.one_inv
    obtain ⟨_, rfl⟩ := q.int_inv
    exact call_range_1 ⟨φ, grow_ep S fun b o e => Heap.get?_push_of_some _ e, .rng _ _ _ _ _ _ _ (Heap.get?_push_size _ rfl)⟩
  · rename_i h
    rw [intsOf_inv h] at r
    cases hb
    obtain ⟨_, _, rfl, q, q'⟩ := r.two_inv
    obtain ⟨_, rfl⟩ := q.int_inv; obtain ⟨_, rfl⟩ := q'.int_inv
    exact call_range_2 ⟨φ, grow_ep S fun b o e => Heap.get?_push_of_some _ e, .rng _ _ _ _ _ _ _ (Heap.get?_push_size _ rfl)⟩
  · rename_i h
    rw [intsOf_inv h] at r
    split at hb
    · cases hb
    · rename_i hz
      split at hb
      · rename_i hs
        cases hb
        obtain ⟨_, _, rfl, q, r⟩ := r.cons_inv
        obtain ⟨_, _, rfl, q', q''⟩ := r.two_inv
        obtain ⟨_, rfl⟩ := q.int_inv; obtain ⟨_, rfl⟩ := q'.int_inv; obtain ⟨_, rfl⟩ := q''.int_inv
        exact call_range_3 (by simpa using hz) ⟨φ, grow_ep S fun b o e => Heap.get?_push_of_some _ e, .rng _ _ _ _ _ _ _ (Heap.get?_push_size _ rfl)⟩ (.inl (PyProof.noPylong_small hs))
      · cases hb
  · cases hb

noncomputable def b.list : List MV → St → Option (MV × St)
  | [.ref i], H => (match H[i]? with
    | some (.list l) => if small l.length then some (.ref H.length, H ++ [.list l]) else none
    | _ => none)
  | [.tup l], H => if small l.length then some (.ref H.length, H ++ [.list l]) else none
  | _, _ => none
theorem cb_list : CB W (.type "list") b.list := by
  intro A φ args H s v H' ys hb hA hu S r
  unfold b.list at hb
  split at hb
  · rename_i i
    split at hb
    · rename_i l hl
      split at hb
      · rename_i hz
        cases hb
        obtain ⟨_, rfl, q⟩ := r.one_inv
        obtain ⟨a, vs, m, rfl, ha, hg, rl⟩ := S.list_of hl q
        have hz' : l.length ≤ 1000000 := by simpa [small] using hz
        have hlen : l.length = vs.size := by rw [rl.length, Array.length_toList]
        refine call_list_seq a (.inl rfl) hg rfl rfl (fun h' c' k e => ?_) (by rw [sizeLine_eq]; omega)
        exact ⟨_, made_list (t := s.toks) S k (free_end _) e rl⟩
      · cases hb
    · cases hb
  · rename_i l
    split at hb
    · rename_i hz
      cases hb
      obtain ⟨_, rfl, q⟩ := r.one_inv
      obtain ⟨a, vs, rfl, hT, rl⟩ := q.tup_inv
      obtain ⟨o, ho, hc, m, hd⟩ := hT
      have hz' : l.length ≤ 1000000 := by simpa [small] using hz
      have hlen := rl.length
      refine call_list_seq a (.inr rfl) ho hc hd (fun h' c' k e => ?_) (by rw [sizeLine_eq, List.size_toArray]; omega)
      exact ⟨_, made_list (t := s.toks) S k (free_end _) e (by simpa using rl)⟩
    · cases hb
  · cases hb

noncomputable def b.tuple : List MV → St → Option (MV × St)
  | [.ref i], H => (match H[i]? with
    | some (.list l) => if small l.length then some (.tup l, H) else none
    | _ => none)
  | _, _ => none
theorem cb_tuple : CB W (.type "tuple") b.tuple := by
  intro A φ args H s v H' ys hb hA hu S r
  unfold b.tuple at hb
  split at hb
  · rename_i i
    split at hb
    · rename_i l hl
      split at hb
      · rename_i hz
        cases hb
        obtain ⟨_, rfl, q⟩ := r.one_inv
        obtain ⟨a, vs, m, rfl, ha, hg, rl⟩ := S.list_of hl q
        have hz' : l.length ≤ 1000000 := by simpa [small] using hz
        have hlen : l.length = vs.size := by rw [rl.length, Array.length_toList]
        refine call_tuple_list ⟨_, hg, rfl, _, rfl⟩ (fun h' k => ?_) (by rw [sizeLine_eq]; omega)
        have k' : ∀ b o, s.heap.get? b = some o → (h'.push { cls := .type "tuple", data := .seq vs }).get? b = some o := fun b o e => Heap.get?_push_of_some _ (k b o e)
        have E2 : EP W φ φ H [] s { s with heap := h'.push { cls := .type "tuple", data := .seq vs }, toks := s.toks } := grow_ep S k'
        exact ⟨φ, E2, .tup _ _ _ ⟨_, Heap.get?_push_size _ rfl, rfl, _, by rw [Array.toArray_toList]⟩ (rl.post E2.post)⟩
      · cases hb
    · cases hb
  · cases hb

noncomputable def CM (W : Wd) (id : String) (b : MV → List MV → St → Option (MV × St)) : Prop :=
  ∀ A φ o args H s v H' y ys, b o args H = some (v, H') → A.handled = none → A.units + 64 < cLine → Sim W φ H s.heap → RV W.base φ s.heap o y → RVs W.base φ s.heap args ys →
    wpAny (model W.prog W.w) A (call (.builtin id) (y :: ys)) (fun z s' => ∃ φ', EP W φ φ' H' [] s s' ∧ RV W.base φ' s'.heap v z) NoE s

noncomputable def isList (v : MV) (H : St) : Bool := match v with
  | .ref i => (match H[i]? with
    | some (.list _) => true
    | _ => false)
  | _ => false
noncomputable def D.lmeth (b : MV → List MV → St → Option (MV × St)) (f : DE) (fs : List DE) : DE := fun lo H => bnd (f lo H) fun o H => if isList o H then bnd (D.args fs lo H) fun vs H => b o vs H else none
theorem se_lmeth {bid : String} {x : Str} {e : Expr} {apos pos : Pos} {es : List Expr} {f : DE} {fs : List DE} {pl : Sem Bool} {b : MV → List MV → St → Option (MV × St)} (hb : CM W bid b) (slot : Slot "list" x bid) (hty : typeOf (.builtin bid) = pure (.type "method_descriptor"))
    (he : SE W n env sl e f) (ha : SA W n env sl es fs) (hst : es.any isStarred = false) (hs : ∀ e r, es = e :: r → starEach (e :: r) env = (false, eval e env) :: starEach r env)
    (hm : eval (.Call (.Attribute e x apos) es [] pos) env = (do
      let ov ← eval e env
      standAt apos.atName
      let (f, first) ← holding [ov] (getMethod ov x pl)
      callWith pos f first (backTo pos (starEach es env)) [])) : SE W n env sl (.Call (.Attribute e x apos) es [] pos) (D.lmeth b f fs) := by
  intro A φ lo H s v H' hf R S L
  obtain ⟨o, H1, h1, h2⟩ := bnd_inv hf
  split at h2
  · rename_i hl
    obtain ⟨vs, H2, h3, h4⟩ := bnd_inv h2
    refine MethodCall_ (pl := pl) (wpAny_mono (he A φ lo H s o H1 h1 R S L) (fun y s1 hq => ?_) fun _ _ x => x) hm
    obtain ⟨φ1, E1, r1⟩ := hq
    unfold isList at hl
    split at hl
    · rename_i i
      split at hl
      · rename_i l hi
        obtain ⟨a, ws, m, rfl, ha', hg, rl⟩ := E1.sim.list_of hi r1
        refine getMethod_builtin ⟨_, hg, rfl⟩ PySem.F.plainAttrs_list slot hty (fun b e => by cases e; exact ⟨_, hg, rfl⟩) ?_
        refine callWith_builtin (no_star hst) (evalArgs_ok (wpAny_mono (ha pos A φ1 lo H1 s1 vs H2 h3 R E1.sim (L.post0 E1.post)) (fun z s2 ⟨φ2, E2, r2⟩ => ?_) fun _ _ x => x) hs)
        exact wpAny_mono (hb A φ2 _ vs H2 s2 v H' _ z h4 R.1 R.units E2.sim (r1.post E2.post) r2) (fun u s3 ⟨φ3, E3, r3⟩ => ⟨φ3, (E1.trans E2).trans E3, r3⟩) fun _ _ x => x
      · cases hl
    · cases hl
  · cases h2

noncomputable def m.append : MV → List MV → St → Option (MV × St)
  | .ref i, [v], H => (match H[i]? with
    | some (.list l) => if small l.length then some (.none, H.set i (.list (l ++ [v]))) else none
    | _ => none)
  | _, _, _ => none
theorem cm_append : CM W "list.append" m.append := by
  intro A φ o args H s v H' y ys hb hA hu S ro rs
  unfold m.append at hb
  split at hb
  · rename_i i x
    split at hb
    · rename_i l hl
      split at hb
      · rename_i hz
        cases hb
        obtain ⟨_, rfl, q⟩ := rs.one_inv
        obtain ⟨a, vs, m, rfl, ha, hg, rl⟩ := S.list_of hl ro
        have hz' : l.length ≤ 1000000 := by simpa [small] using hz
        have hlen : l.length = vs.size := by rw [rl.length, Array.length_toList]
        refine append_at hg (fun h' hs e => ?_) (by rw [sizeLine_eq]; omega)
        refine ⟨φ, turn_ep (t := s.toks) S hl ha hs (fun imm => ⟨rfl, _, _, e, ?_⟩) ⟨_, e⟩, .none⟩
        rw [Array.toList_push]
        exact (rl.mono List.prefix_rfl imm).append (.cons (q.mono List.prefix_rfl imm) .nil)
      · cases hb
    · cases hb
  · cases hb

noncomputable def m.extend : MV → List MV → St → Option (MV × St)
  | .ref i, [.ref j], H => (match H[i]?, H[j]? with
    | some (.list l), some (.list k) => if small (l.length + k.length) then some (.none, H.set i (.list (l ++ k))) else none
    | _, _ => none)
  | _, _, _ => none
theorem cm_extend : CM W "list.extend" m.extend := by
  intro A φ o args H s v H' y ys hb hA hu S ro rs
  unfold m.extend at hb
  split at hb
  · rename_i i j
    split at hb
    · rename_i l k hl hk
      split at hb
      · rename_i hz
        cases hb
        obtain ⟨_, rfl, q⟩ := rs.one_inv
        obtain ⟨a, vs, m, rfl, ha, hg, rl⟩ := S.list_of hl ro
        obtain ⟨a', ws, m', rfl, ha', hg', rk⟩ := S.list_of hk q
        have hz' : l.length + k.length ≤ 1000000 := by simpa [small] using hz
        have h1 : l.length = vs.size := by rw [rl.length, Array.length_toList]
        have h2 : k.length = ws.size := by rw [rk.length, Array.length_toList]
        have e := PySem.IsL.update hg (fun x => x ++ ws)
        refine call_meets PySem.F.slot_list_extend ⟨_, hg, rfl⟩ PySem.F.entry_list_extend (PySem.F.args_list_extend_2 _ _)
          (PySem.AutoSeq1.list_extend_list_list_0 a vs m a' ws m' (by simp [Builtin.List.listTooLong, sizeLine_eq]; omega) (by rw [sizeLine_eq]; omega) (by rw [sizeLine_eq]; omega)) ⟨hg, hg', ?_⟩
        refine ⟨φ, turn_ep (t := s.toks) S hl ha (Heap.SameBut.update ..) (fun imm => ⟨rfl, _, _, e, ?_⟩) ⟨_, e⟩, .none⟩
        rw [Array.toList_append]
        exact (rl.mono List.prefix_rfl imm).append (rk.mono List.prefix_rfl imm)
      · cases hb
    · cases hb
  · cases hb

noncomputable def pick {α : Type} (l : List α) (lo hi st : Option Int) : List α :=
  (sliceRange (sliceBounds lo hi st l.length).1 (sliceBounds lo hi st l.length).2.1 (sliceBounds lo hi st l.length).2.2).filterMap (l[·]?)
theorem RVs.pickAt {base : Heap} {φ : Adrs} {h : Heap} {l : List MV} {vs : List Value} (r : RVs base φ h l vs) : ∀ idx : List Nat, RVs base φ h (idx.filterMap (l[·]?)) (idx.filterMap (vs[·]?))
  | [] => .nil
  | i :: r' => by
    have ih := RVs.pickAt r r'
    cases e : l[i]? with
    | none =>
      have e' : vs[i]? = none := by
        have := r.length
        rw [List.getElem?_eq_none_iff] at e ⊢
        omega
      simp only [List.filterMap_cons, e, e']
      exact ih
    | some m =>
      obtain ⟨y, e', q⟩ := r.get e
      simp only [List.filterMap_cons, e, e']
      exact .cons q ih
theorem pick_rv {base : Heap} {φ : Adrs} {h : Heap} {l : List MV} {vs : Array Value} (r : RVs base φ h l vs.toList) (lo hi st : Option Int) : RVs base φ h (pick l lo hi st) (slicePick vs lo hi st).toList := by
  have hlen : l.length = vs.size := by rw [r.length, Array.length_toList]
  unfold pick slicePick
  rw [hlen]
  have : (fun i => vs[i]?) = fun i : Nat => vs.toList[i]? := by funext i; rw [Array.getElem?_toList]
  simp only [this]
  exact r.pickAt _

noncomputable def D.part : Option DE → Lo → St → Option (Option Int × St)
  | none, _, H => some (none, H)
  | some f, lo, H => bnd (f lo H) fun v H => match v with
    | .int i => some (some i, H)
    | _ => none
noncomputable def SPt (W : Wd) (n : Nat) (env : Env) (sl : List (Option Str)) (e : Option Expr) (f : Option DE) : Prop :=
  ∀ A φ lo H s v H', D.part f lo H = some (v, H') → Room n A → Sim W φ H s.heap → Loc W env sl lo φ s.heap →
    wpAny (model W.prog W.w) A (evalPart e env) (fun y s' => ∃ φ', EP W φ φ' H' [] s s' ∧ IsPart y v) NoE s
theorem sp_none : SPt W n env sl none none := by
  intro A φ lo H s v H' hf R S L
  cases hf
  exact wpAny_pure ⟨φ, .refl S, .none⟩
theorem sp_some {e : Expr} {f : DE} (h : SE W n env sl e f) : SPt W n env sl (some e) (some f) := by
  intro A φ lo H s v H' hf R S L
  obtain ⟨a, H1, h1, h2⟩ := bnd_inv hf
  split at h2
  · cases h2
    refine wpAny_mono (h A φ lo H s _ _ h1 R S L) (fun y s1 ⟨φ1, E1, r1⟩ => ?_) fun _ _ x => x
    cases r1
    exact ⟨φ1, E1, .int _ _⟩
  · cases h2

noncomputable def itemsOf (v : MV) (H : St) : Option (List MV) := match v with
  | .ref i => (match H[i]? with
    | some (.list l) => some l
    | _ => none)
  | .frz l => some (l.map .int)
  | _ => none
theorem ints_rvs {base : Heap} {φ : Adrs} {h : Heap} : ∀ {vs : List Value} {l : List Int}, IntsAre vs l → RVs base φ h (l.map .int) vs
  | _, _, .nil => .nil
  | _, _, .cons i t r => .cons (.int i t) (ints_rvs r)
theorem items_ok {φ : Adrs} {H : St} {h : Heap} {v : MV} {y : Value} {l : List MV} (S : Sim W φ H h) (e : itemsOf v H = some l) (r : RV W.base φ h v y) : ∃ a vs, y = .ref a ∧ h.IsList a vs ∧ RVs W.base φ h l vs.toList := by
  unfold itemsOf at e
  split at e
  · rename_i i
    split at e
    · rename_i l hl
      cases e
      obtain ⟨a, vs, m, rfl, ha, hg, rl⟩ := S.list_of hl r
      exact ⟨a, vs, rfl, ⟨_, hg, rfl, _, rfl⟩, rl⟩
    · cases e
  · cases e
    obtain ⟨a, vs, rfl, hl, hi⟩ := r.frz_inv
    exact ⟨a, vs.toArray, rfl, hl.at fun o e => S.base _ _ e, by simpa using ints_rvs hi⟩
  · cases e

noncomputable def D.slice (f : DE) (pl pu ps : Option DE) : DE := fun lo H => bnd (f lo H) fun v H => bnd (D.part pl lo H) fun a H => bnd (D.part pu lo H) fun b H => bnd (D.part ps lo H) fun c H =>
  if c = some 0 then none else match itemsOf v H with
  | some l => if small l.length then some (.ref H.length, H ++ [.list (pick l a b c)]) else none
  | none => none
theorem se_slice {e : Expr} {l u st : Option Expr} {p pos : Pos} {f : DE} {pl pu ps : Option DE} (he : SE W n env sl e f) (hl : SPt W n env sl l pl) (hu : SPt W n env sl u pu) (hs : SPt W n env sl st ps) : SE W n env sl (.Subscript e (.Slice l u st p) pos) (D.slice f pl pu ps) := by
  intro A φ lo H s v H' hf R S L
  obtain ⟨v0, H1, h1, h2⟩ := bnd_inv hf
  obtain ⟨a, H2, h3, h4⟩ := bnd_inv h2
  obtain ⟨b, H3, h5, h6⟩ := bnd_inv h4
  obtain ⟨c, H4, h7, h8⟩ := bnd_inv h6
  split at h8
  · cases h8
  rename_i hc
  split at h8
  · rename_i its hits
    split at h8
    · rename_i hz
      cases h8
      refine Subscript_ (wpAny_mono (he A φ lo H s v0 H1 h1 R S L) (fun y s1 ⟨φ1, E1, r1⟩ => ?_) fun _ _ x => x)
      have L1 := L.post0 E1.post
      refine wpAny_Slice (wpAny_mono (hl A φ1 lo H1 s1 a H2 h3 R E1.sim L1) (fun ya s2 ⟨φ2, E2, r2⟩ => ?_) fun _ _ x => x)
      have L2 := L1.post0 E2.post
      refine wpAny_mono (hu A φ2 lo H2 s2 b H3 h5 R E2.sim L2) (fun yb s3 ⟨φ3, E3, r3⟩ => ?_) fun _ _ x => x
      have L3 := L2.post0 E3.post
      refine wpAny_mono (hs A φ3 lo H3 s3 c _ h7 R E3.sim L3) (fun yc s4 ⟨φ4, E4, r4⟩ => ?_) fun _ _ x => x
      have rv := ((r1.post E2.post).post E3.post).post E4.post
      obtain ⟨ad, vs, rfl, hL, rl⟩ := items_ok E4.sim hits rv
      have hz' : its.length ≤ 1000000 := by simpa [small] using hz
      have hlen : its.length = vs.size := by rw [rl.length, Array.length_toList]
      have hsub : ∃ ops, subscripted (.Slice l u st p) false (.ref ad) (.ref s4.heap.objs.size) = operate ops (getItem (.ref ad) (.ref s4.heap.objs.size)) := by
        cases st with
        | none => exact ⟨_, rfl⟩
        | some _ => exact ⟨_, rfl⟩
      obtain ⟨ops, hops⟩ := hsub
      have hl' := hL.push { cls := .type "slice", data := .fields #[ya, yb, yc] }
      refine tail_any (s := { s4 with heap := s4.heap.push { cls := .type "slice", data := .fields #[ya, yb, yc] } }) (Heap.IsList.typeIs (s := { s4 with heap := s4.heap.push { cls := .type "slice", data := .fields #[ya, yb, yc] } }) hl') list_getitem_lookup
        (wpAny_getItem_list_slice hl' (Heap.IsSliceOf.new ..) r2 r3 r4 hc ?_ (by rw [sizeLine_eq]; omega)) hops
      have kk : ∀ x o, s4.heap.get? x = some o → ((s4.heap.push { cls := .type "slice", data := .fields #[ya, yb, yc] }).push (lst (slicePick vs a b c) 0)).get? x = some o := fun x o e => Heap.get?_push_of_some _ (Heap.get?_push_of_some _ e)
      obtain ⟨E5, R5⟩ := made_list (t := s4.toks) E4.sim kk (free_above (by rw [Heap.size_push]; exact Nat.le_succ _)) (Heap.get?_push_size _ rfl) (pick_rv rl a b c)
      exact ⟨_, (((E1.trans E2).trans E3).trans E4).trans E5, R5⟩
    · cases h8
  · cases h8
end
end Mine
namespace Mine

theorem Post.drop {φ φ' φ'' : Adrs} {S : List Addr} {h h' h'' : Heap} (x : Post φ φ' [] h h') (y : Post φ' φ'' S h' h'') (hS : ∀ a ∈ S, h.get? a = none) : Post φ φ'' [] h h'' := by
  refine ⟨x.ext.trans y.ext, fun p hp => ?_, fun a o e h1 h2 => ?_, fun a o e hf => y.imm a o (x.imm a o e hf) hf, fun a o e => ?_⟩
  · rcases y.fresh p hp with q | q
    · exact x.fresh p q
    · right
      cases e : h.get? p.2 with
      | none => rfl
      | some o => obtain ⟨o', e'⟩ := x.alive _ _ e; rw [e'] at q; cases q
  · refine y.keep a o (x.keep a o e h1 h2) (fun hm => ?_) fun hm => ?_
    · rw [hS a hm] at e; cases e
    · obtain ⟨p, hp, rfl⟩ := List.mem_map.mp hm
      rcases x.fresh p hp with q | q
      · exact h2 (List.mem_map_of_mem q)
      · rw [e] at q; cases q
  · obtain ⟨o', e'⟩ := x.alive a o e
    exact y.alive a o' e'

theorem cells_mem {x : Str} : ∀ {ns : List (Str × NameKind)} {n : Nat} {acc : List (Str × Addr)}, ((x, NameKind.cell) ∈ ns ∨ ∃ c, (x, c) ∈ acc) → ∃ c, (x, c) ∈ cellsFrom n ns acc
  | [], _, _, h => h.elim (fun q => by cases q) id
  | (y, k) :: r, n, acc, h => by
    unfold cellsFrom
    by_cases hk : (k == NameKind.cell) = true
    · rw [if_pos hk]
      refine cells_mem ?_
      rcases h with q | ⟨c, q⟩
      · rcases List.mem_cons.mp q with e | q
        · cases e; exact .inr ⟨n, .head _⟩
        · exact .inl q
      · exact .inr ⟨c, .tail _ q⟩
    · rw [if_neg hk]
      refine cells_mem ?_
      rcases h with q | q
      · rcases List.mem_cons.mp q with e | q
        · cases e; exact absurd rfl hk
        · exact .inl q
      · exact .inr q
theorem assoc_some {l : List (Str × Addr)} {x : Str} {c : Addr} (h : (x, c) ∈ l) : (l.lookup x).isSome = true := by
  induction l with
  | nil => cases h
  | cons p r ih =>
    obtain ⟨y, d⟩ := p
    rw [List.lookup_cons]
    by_cases hy : x = y
    · subst hy; simp
    · have : (x == y) = false := by simpa using hy
      rw [this]
      rcases List.mem_cons.mp h with q | q
      · cases q; exact absurd rfl hy
      · exact ih q
theorem cells_some {x : Str} {ns : List (Str × NameKind)} {n : Nat} (h : ns.lookup x = some .cell) : ((cellsFrom n ns []).lookup x).isSome = true := by
  obtain ⟨c, hc⟩ := cells_mem (n := n) (acc := []) (.inl (mem_of_lookup h))
  exact assoc_some hc
theorem bindL_get {k : Str → Option NameKind} : ∀ {ns : List Str} {ys : List Value} (m : Str → Option Value), ns.Nodup → ns.length = ys.length → ∀ {i : Nat} {x : Str} {y : Value}, ns[i]? = some x → ys[i]? = some y → k x = some .local → bindL k (ns.zip ys) m x = some y
  | [], _, _, _, _, _, _, _, h, _, _ => by simp at h
  | _ :: _, [], _, _, hl, _, _, _, _, _, _ => by simp at hl
  | a :: r, b :: t, m, nd, hl, i, x, y, h, h', hk => by
    simp only [List.zip_cons_cons, bindL]
    have nd' := List.nodup_cons.mp nd
    have keep : ∀ {r : List Str} {t : List Value} {m : Str → Option Value}, x ∉ r → bindL k (r.zip t) m x = m x := by
      intro r
      induction r with
      | nil => intro t m _; cases t <;> rfl
      | cons c r ih =>
        intro t m hx
        cases t with
        | nil => rfl
        | cons d t =>
          simp only [List.zip_cons_cons, bindL]
          rw [ih (fun q => hx (.tail _ q))]
          split
          · show (if x = c then some d else m x) = m x; rw [if_neg (fun q => hx (by rw [q]; exact .head _))]
          · rfl
    cases i with
    | zero =>
      simp only [List.getElem?_cons_zero, Option.some.injEq] at h h'
      subst h; subst h'
      rw [keep nd'.1, if_pos hk]; simp
    | succ i =>
      simp only [List.getElem?_cons_succ] at h h'
      exact bindL_get _ nd'.2 (by simpa using hl) h h' hk
theorem bindC_get {k : Str → Option NameKind} : ∀ {ns : List Str} {ys : List Value} (m : Str → Option Value), ns.Nodup → ns.length = ys.length → ∀ {i : Nat} {x : Str} {y : Value}, ns[i]? = some x → ys[i]? = some y → k x = some .cell → bindC k (ns.zip ys) m x = some y
  | [], _, _, _, _, _, _, _, h, _, _ => by simp at h
  | _ :: _, [], _, _, hl, _, _, _, _, _, _ => by simp at hl
  | a :: r, b :: t, m, nd, hl, i, x, y, h, h', hk => by
    simp only [List.zip_cons_cons, bindC]
    have nd' := List.nodup_cons.mp nd
    have keep : ∀ {r : List Str} {t : List Value} {m : Str → Option Value}, x ∉ r → bindC k (r.zip t) m x = m x := by
      intro r
      induction r with
      | nil => intro t m _; cases t <;> rfl
      | cons c r ih =>
        intro t m hx
        cases t with
        | nil => rfl
        | cons d t =>
          simp only [List.zip_cons_cons, bindC]
          rw [ih (fun q => hx (.tail _ q))]
          split
          · rfl
          · show (if x = c then some d else m x) = m x; rw [if_neg (fun q => hx (by rw [q]; exact .head _))]
    cases i with
    | zero =>
      simp only [List.getElem?_cons_zero, Option.some.injEq] at h h'
      subst h; subst h'
      rw [keep nd'.1, if_neg (by rw [hk]; decide)]; simp
    | succ i =>
      simp only [List.getElem?_cons_succ] at h h'
      exact bindC_get _ nd'.2 (by simpa using hl) h h' hk

section
variable {W : Wd} {n : Nat} {A : Around}

noncomputable def D.fn (na ns : Nat) (dm : List MV) (b : DS) : DF := fun args H => if args.length + dm.length = na then (match b ((args ++ dm).map some ++ List.replicate (ns - na) none) H with
  | some (.ret v, _, H') => some (v, H')
  | some (.next, _, H') => some (.none, H')
  | _ => none) else none

theorem fs_def {k : Nat} {fa : Addr} {name qual : Str} {params : Arguments} {body : List Stmt} {scope : Scope} {dV kV doc pm cdv ct oc : Value} {an od : Option Addr} {osl : Array (Option Value)} {b : DS} {names : List Str} {sl : List (Option Str)} {dm : List MV} {dv : List Value}
    (ho : W.K.lookup fa = some ⟨oc, od, .func (fnOf name qual params body scope dV kV doc pm an cdv ct), osl⟩) (hcd : codeIn W.K cdv qual = true)
    (hb : ∀ L, SB W k (envOfC qual scope L fa cdv) sl body b)
    (hdv : ∀ φ h, RVs W.base φ h dm dv)
    (hbind : ∀ (s : Shared) (ys : List Value), ys.length + dv.length = names.length → (∀ b o, W.base.get? b = some o → s.heap.get? b = some o) → BindsTo s (fnOf name qual params body scope dV kV doc pm an cdv ct) ⟨ys, []⟩ (names.zip (ys ++ dv)))
    (hnd : names.Nodup) (hsl : ∀ (i : Nat) (x : Str), names[i]? = some x → sl[i]? = some (some x)) (huniq : ∀ (i j : Nat) (x : Str), sl[i]? = some (some x) → sl[j]? = some (some x) → i = j)
    (hkinds : ∀ x ∈ names, scope.names.lookup x = some .local ∨ scope.names.lookup x = some .cell) (hcn : ((cellsFrom 0 scope.names []).map (·.1)).Nodup)
    (hco : scope.isCoroutine = false) (hgen : scope.isGenerator = false) (hk : scope.kind = .function) : FS W (k + 1) (.ref fa) (D.fn names.length sl.length dm b) := by
  intro A φ args H s v H' ys e R S r
  unfold D.fn at e
  by_cases hlen : args.length + dm.length = names.length
  case neg => rw [if_neg hlen] at e; cases e
  rw [if_pos hlen] at e
  have hy : ys.length + dv.length = names.length := by rw [← r.length, ← (hdv φ s.heap).length]; exact hlen
  have X := W.KX.keeps S.base
  have hroom : A.depth < recursionLimit := by have := R.2.1; simp only [recursionLimit]; omega
  refine codeAny_call_function hroom (X _ _ ho) rfl hco hgen rfl (codeRec_of X hcd) (hbind s ys hy S.base _ _ _ _ ?_)
  refine wpAny_newFunctionEnv_cells hk (fun p hp => ?_) fun env' he s1 x => ?_
  · have hx : p.1 ∈ names := by
      obtain ⟨i, hi, e⟩ := List.mem_iff_getElem.mp hp
      have := List.getElem_zip (h := hi)
      rw [e] at this
      rw [this]
      exact List.getElem_mem _
    rcases hkinds _ hx with q | q
    · exact .inl q
    · exact .inr ⟨q, cells_some q⟩
  subst he
  refine ⟨(W.T.nolimit.keeps S.base).keeps x.toInCall.keep, codeAny_func ?_⟩
  have keep := x.toInCall.keep
  have hL : s.heap.get? s.heap.objs.size = none := free_end _
  have hcells : ∀ c ∈ (cellsFrom (s.heap.objs.size + 1) scope.names []).map (·.2), s.heap.objs.size < c ∧ ∃ z, (cellsFrom (s.heap.objs.size + 1) scope.names []).lookup z = some c ∧ s1.heap.IsCell c (bindC (envOfC qual scope s.heap.objs.size fa cdv).kindOf (names.zip (ys ++ dv)) (fun _ => none) z) := by
    intro c hc
    obtain ⟨p, hp, rfl⟩ := List.mem_map.mp hc
    have hlk : (cellsFrom (s.heap.objs.size + 1) scope.names []).lookup p.1 = some p.2 := lookup_of_mem_nodup (cellsFrom_names scope.names 0 (s.heap.objs.size + 1) [] [] rfl ▸ hcn) hp
    exact ⟨x.above p.1 p.2 hp, p.1, hlk, x.cell p.1 p.2 hlk⟩
  have hfree : ∀ a ∈ ownOfE (envOfC qual scope s.heap.objs.size fa cdv), s.heap.get? a = none := by
    intro a ha
    rcases List.mem_cons.mp ha with rfl | ha
    · exact hL
    · exact free_above (Nat.le_of_lt (hcells a ha).1)
  have E0 : EP W φ φ H [] s s1 := by
    obtain ⟨h1, tk, rfl, _⟩ := x.done
    exact grow_ep S keep
  have hslot : ∀ (i : Nat) (z : Str) (u : MV), sl[i]? = some (some z) → ((args ++ dm).map some ++ List.replicate (sl.length - names.length) none)[i]? = some (some u) → names[i]? = some z ∧ ∃ y, (ys ++ dv)[i]? = some y ∧ RV W.base φ s1.heap u y := by
    intro i z u h1 h2
    have hl' : ((args ++ dm).map some).length = names.length := by simpa using hlen
    by_cases hi : i < names.length
    · rw [List.getElem?_append_left (by rw [hl']; exact hi), List.getElem?_map] at h2
      obtain ⟨w, hw, hw'⟩ := Option.map_eq_some_iff.mp h2
      cases hw'
      have hn := hsl i names[i] (List.getElem?_eq_getElem hi)
      rw [h1] at hn
      refine ⟨by rw [List.getElem?_eq_getElem hi]; exact (Option.some.inj hn) ▸ rfl, ?_⟩
      obtain ⟨y, e1, e2⟩ := (r.append (hdv φ s.heap)).get hw
      exact ⟨y, e1, e2.post E0.post⟩
    · rw [List.getElem?_append_right (by rw [hl']; omega)] at h2
      have := List.mem_of_getElem? h2
      rw [List.mem_replicate] at this
      cases this.2
  have hlz : names.length = (ys ++ dv).length := by rw [List.length_append, hy]
  have L0 : Loc W (envOfC qual scope s.heap.objs.size fa cdv) sl ((args ++ dm).map some ++ List.replicate (sl.length - names.length) none) φ s1.heap := by
    refine ⟨hk, rfl, rfl, fun a ha => ⟨fun hm => ?_, ?_, ?_⟩, huniq, ⟨_, x.toInCall.ns, fun i z u h1 h2 h3 => ?_⟩, fun i z u h1 h2 h3 => ?_, fun z hz => ?_, fun z c hc => ⟨?_, fun y hy' => ?_⟩⟩
    · obtain ⟨p, hp, rfl⟩ := List.mem_map.mp hm
      obtain ⟨o, ho', _⟩ := S.carrier hp
      rw [hfree _ (List.mem_cons.mpr (ha.imp id id))] at ho'; cases ho'
    · cases e1 : W.base.get? a with
      | none => rfl
      | some o => have := S.base _ _ e1; rw [hfree _ (List.mem_cons.mpr (ha.imp id id))] at this; cases this
    · rcases ha with rfl | ha
      · obtain ⟨o, es, ep, e1, e2, _⟩ := x.toInCall.ns
        exact ⟨o, e1, by unfold fixed; rw [e2]⟩
      · obtain ⟨_, z, _, o, e1, e2⟩ := hcells a ha
        exact ⟨o, e1, by unfold fixed; rw [e2]⟩
    · obtain ⟨hn, y, e1, e2⟩ := hslot i z u h1 h3
      exact ⟨y, bindL_get _ hnd hlz hn e1 h2, e2⟩
    · obtain ⟨hn, y, e1, e2⟩ := hslot i z u h1 h3
      obtain ⟨c, hc⟩ := Option.isSome_iff_exists.mp (cells_some (n := s.heap.objs.size + 1) (x := z) h2)
      refine ⟨c, y, hc, ?_, e2⟩
      have := x.cell z c hc
      rw [show bindC (newEnv scope s.heap.objs.size mainGlobals (cellsFrom (s.heap.objs.size + 1) scope.names []) (qual ++ ".<locals>.") (some fa) cdv none builtinsNs).kindOf (names.zip (ys ++ dv)) (fun _ => none) z = some y from bindC_get _ hnd hlz hn e1 h2] at this
      exact this
    · obtain ⟨c, hc⟩ := Option.isSome_iff_exists.mp (cells_some (n := s.heap.objs.size + 1) (x := z) hz)
      exact ⟨c, _, hc, x.cell z c hc⟩
    · exact Nat.ne_of_gt (hcells c (lookup_mem hc)).1
    · exact name_of_addr x.apart (mem_of_lookup hy') (mem_of_lookup hc)
  have Rk : Room k (A.deeper (envOfC qual scope s.heap.objs.size fa cdv)) := ⟨R.1, by have := R.2.1; show A.depth + 1 + k ≤ 600; omega, by have := R.2.2; show A.units + 3 + 20 * k ≤ 8000; omega⟩
  have fin : ∀ fl lo' (v' : MV), b ((args ++ dm).map some ++ List.replicate (sl.length - names.length) none) H = some (fl, lo', H') → (∀ φ' h f, RFl W φ' h fl f → ∃ y, (match f with | .ret v => v | _ => Value.none) = y ∧ RV W.base φ' h v y) → _ := fun fl lo' v' hb' hv' =>
    wpAny_mono (hb s.heap.objs.size _ φ _ H s1 fl lo' H' hb' Rk E0.sim L0) (Q' := fun f s' => ∃ y φ', Except.ok (Flow.ret (match f with | .ret v => v | _ => Value.none)) = (.ok (.ret y) : Result) ∧ EP W φ φ' H' [] s s' ∧ RV W.base φ' s'.heap v y)
      (E' := fun e s' => wpAny (model W.prog W.w) (A.deeper (envOfC qual scope s.heap.objs.size fa cdv)) (leaving (envOfC qual scope s.heap.objs.size fa cdv) e) (fun _ s'' => ∃ y φ', (.error e : Result) = .ok (.ret y) ∧ EP W φ φ' H' [] s s'' ∧ RV W.base φ' s''.heap v y) (fun e' s'' => ∃ y φ', (.error e' : Result) = .ok (.ret y) ∧ EP W φ φ' H' [] s s'' ∧ RV W.base φ' s''.heap v y) s')
      (fun f s2 ⟨φ2, E2, L2, rf⟩ => by
        obtain ⟨y, e1, e2⟩ := hv' φ2 s2.heap f rf
        exact ⟨y, φ2, by rw [e1], ⟨E2.sim, E0.post.drop E2.post hfree, E0.same.trans E2.same⟩, e2⟩) fun _ _ x => x.elim
  split at e
  · rename_i v' lo' H2 hb'
    cases e
    exact fin _ _ v hb' fun φ' h f rf => by cases f <;> simp only [RFl] at rf; exact ⟨_, rfl, rf⟩
  · rename_i lo' H2 hb'
    cases e
    exact fin _ _ .none hb' fun φ' h f rf => by cases f <;> simp only [RFl] at rf; exact ⟨_, rfl, .none⟩
  · cases e

theorem under_make {C : Addr} {rest : List Value} : (A.under (.builtin "type.__call__" ⟨.ref C :: rest, []⟩)).depth = A.depth + 1 ∧ (A.under (.builtin "type.__call__" ⟨.ref C :: rest, []⟩)).units = A.units + 1 ∧
    (A.under (.builtin "type.__call__" ⟨.ref C :: rest, []⟩)).handled = A.handled := ⟨rfl, rfl, rfl⟩

noncomputable def D.make (c : Nat) (Df : DF) : DF := fun args H => bnd (Df (.ref H.length :: args) (H ++ [.obj c []])) fun v H' => match v with
  | .none => some (.ref H.length, H')
  | _ => none

theorem fs_make {k c : Nat} {C N fI : Addr} {Df : DF} (K : Cls W c C N) (F : FS W k (.ref fI) Df) (hm : makesIn W.K C = true) (hi : findIn W.K (.ref C) "__init__" = some (some (.ref fI))) (hf : typeIn W.K (.ref fI) = some (.type "function")) :
    FS W (k + 1) (.ref C) (D.make c Df) := by
  intro A φ args H s v H' ys e R S r
  obtain ⟨v0, H1, h1, h2⟩ := bnd_inv e
  split at h2
  · cases h2
    have X := W.KX.keeps S.base
    obtain ⟨h, g, d, t, os⟩ := s
    refine make_core (makes_of X hm) (looks_findIn X hi) (fun self => bind_fn X self hf) (.inl rfl) ?_
    have kk : ∀ b o, h.get? b = some o → ((h.push emptyDict).push (instObj C h.objs.size)).get? b = some o := fun b o e => Heap.get?_push_of_some _ (Heap.get?_push_of_some _ e)
    have hd : ((h.push emptyDict).push (instObj C h.objs.size)).get? h.objs.size = some emptyDict := Heap.get?_push_of_some _ (Heap.get?_push_size _ rfl)
    have hx : ((h.push emptyDict).push (instObj C h.objs.size)).get? (h.objs.size + 1) = some (instObj C h.objs.size) := by
      have := Heap.get?_push_size (h.push emptyDict) (o := instObj C h.objs.size) rfl
      rwa [Heap.size_push] at this
    have hC : h.objs.size + 1 ≠ C := fun q => by
      obtain ⟨nm, q', bs, sn, sub, ab, col, dd, k0, k1, k2, k3, k5, newId, hC⟩ := K.obj
      have := Heap.lt_size (X _ _ hC)
      rw [← q] at this
      exact absurd this (Nat.not_lt.mpr (Nat.le_succ _))
    have E0 : EP W φ (φ ++ [(h.objs.size + 1, h.objs.size)]) (H ++ [.obj c []]) [] ⟨h, g, d, t, os⟩ ⟨(h.push emptyDict).push (instObj C h.objs.size), g, d, t, os⟩ := by
      refine new_obj (s := ⟨h, g, d, t, os⟩) (t := t) S kk (free_end _) ?_
      simp only [OR, K.cls]
      refine ⟨hx, Nat.ne_of_lt (Nat.lt_succ_self _), hC, _, Heap.Ns1.of_empty ⟨_, #[], _, hd, rfl, fun e he => absurd he (by simp), fun _ => rfl⟩, Nat.zero_le _, fun i x hx => ?_, fun _ _ => rfl⟩
      simp
    have R' : Room k (A.under (.builtin "type.__call__" ⟨.ref C :: ys, []⟩)) := by
      obtain ⟨u1, u2, u3⟩ := under_make (A := A) (C := C) (rest := ys)
      refine ⟨u3.trans R.1, ?_, ?_⟩
      · rw [u1]; have := R.2.1; omega
      · rw [u2]; have := R.2.2; omega
    have rr : RVs W.base (φ ++ [(h.objs.size + 1, h.objs.size)]) ((h.push emptyDict).push (instObj C h.objs.size)) (.ref H.length :: args) (.ref (h.objs.size + 1) :: ys) := by
      refine .cons (.ref _ _ h.objs.size ?_) (r.post E0.post)
      rw [← S.len]; simp
    refine codeAny_mono (F _ _ _ _ _ _ _ _ h1 R' E0.sim rr) fun r2 s2 ⟨y, φ2, e2, E2, r2'⟩ => ?_
    subst e2
    cases r2'
    refine ⟨rfl, .ref (h.objs.size + 1), φ2, rfl, E0.trans E2, .ref _ _ h.objs.size ?_⟩
    refine prefix_get E2.post.ext ?_
    rw [← S.len]; simp
  · cases h2

theorem se_make {env : Env} {sl : List (Option Str)} {k : Nat} {g : Str} {C : Addr} {Df : DF} {p pos : Pos} {es : List Expr} {fs : List DE} (F : FS W k (.ref C) Df) (hg : nsIn W.K mainGlobals g = some (some (.ref C))) (hkeep : keepIn W.K (.ref C) = true)
    (ha : SA W n env sl es fs) (hk : k ≤ n) (hx : env.kindOf g = some .globalImplicit) (hdb : (g == ("__debug__" : Str)) = false) (hst : es.any isStarred = false)
    (hs : ∀ e r, es = e :: r → starEach (e :: r) env = (false, eval e env) :: starEach r env) : SE W n env sl (.Call (.Name g p) es [] pos) (D.call Df fs) := by
  intro A φ lo H s v H' hf R S L
  obtain ⟨vs, H1, h1, h2⟩ := bnd_inv hf
  refine Call_ (glob_name S L hg hx hdb ?_)
  refine callWith_of (P := fun h => W.K.In h) (by rw [no_star hst]; rfl) (keeps_K hkeep) (evalArgs_ok ?_ hs)
  refine wpAny_mono (ha pos A φ lo H s vs H1 h1 R S L) (fun y s1 ⟨φ1, E1, r1⟩ => ?_) fun _ _ x => x
  refine ⟨W.KX.keeps E1.sim.base, ?_⟩
  exact wpAny_mono (F.call h2 (R.le hk) E1.sim r1) (fun z s2 ⟨φ2, E2, r2⟩ => ⟨φ2, E1.trans E2, r2⟩) fun _ _ x => x
end
end Mine
namespace Mine

noncomputable def ExtBs (Is : List Addr) (h h' : Heap) : Prop := ∀ b o, b ∉ Is → h.get? b = some o → h'.get? b = some o
noncomputable def AuxS (W : Wd) (env : Env) (φ : Adrs) (h : Heap) (Is : List Addr) : Prop := ∀ it ∈ Is, it ∉ φ.map (·.2) ∧ it ∉ ownOfE env ∧ W.base.get? it = none ∧ ∃ o, h.get? it = some o ∧ fixed o = false

section
variable {W : Wd} {n : Nat} {env : Env} {sl : List (Option Str)} {A : Around}

theorem AuxS.imm {φ : Adrs} {h h' : Heap} {Is : List Addr} (X : AuxS W env φ h Is) (hx : ExtBs Is h h') : ∀ b o, h.get? b = some o → fixed o = true → h'.get? b = some o := fun b o e hf => by
  refine hx b o (fun q => ?_) e
  obtain ⟨_, _, _, o', e', f'⟩ := X b q
  rw [e] at e'; cases e'
  rw [hf] at f'; cases f'

theorem exts_sim {φ : Adrs} {H : St} {h h' : Heap} {Is : List Addr} (S : Sim W φ H h) (X : AuxS W env φ h Is) (hx : ExtBs Is h h') : Sim W φ H h' := by
  refine ⟨fun b o e => hx b o (fun q => ?_) (S.base b o e), S.len, S.nodup, S.out, fun i o e => ?_⟩
  · rw [(X b q).2.2.1] at e; cases e
  · obtain ⟨a, d, e1, q⟩ := S.obj i o e
    refine ⟨a, d, e1, q.mono List.prefix_rfl (X.imm hx) fun x hx' => hx d x (fun q => ?_) hx'⟩
    exact (X d q).1 (List.mem_map.mpr ⟨_, List.mem_of_getElem? e1, rfl⟩)

theorem exts_loc {φ : Adrs} {lo : Lo} {h h' : Heap} {Is : List Addr} (L : Loc W env sl lo φ h) (X : AuxS W env φ h Is) (hx : ExtBs Is h h') : Loc W env sl lo φ h' := by
  have imm := X.imm hx
  have ko : ∀ a ∈ ownOfE env, ∀ o, h.get? a = some o → h'.get? a = some o := fun a ha o e => hx a o (fun q => (X a q).2.1 ha) e
  refine ⟨L.kind, L.glob, L.blt, fun a ha => ?_, L.uniq, ?_, fun i x v h1 h2 h3 => ?_, fun x hx => ?_, L.apart⟩
  · obtain ⟨h1, h2, o, h3, h4⟩ := L.own a ha
    exact ⟨h1, h2, o, ko a (List.mem_cons.mpr (ha.imp id id)) o h3, h4⟩
  · obtain ⟨m, ⟨o, es, ep, e, r⟩, hv⟩ := L.loc
    refine ⟨m, ⟨o, es, ep, ko _ (.head _) _ e, r⟩, fun i x v h1 h2 h3 => ?_⟩
    obtain ⟨y, e', r'⟩ := hv i x v h1 h2 h3
    exact ⟨y, e', r'.mono List.prefix_rfl imm⟩
  · obtain ⟨c, y, e1, ⟨o, e2, e3⟩, r⟩ := L.cel i x v h1 h2 h3
    exact ⟨c, y, e1, ⟨o, ko c (.tail _ (lookup_mem e1)) o e2, e3⟩, r.mono List.prefix_rfl imm⟩
  · obtain ⟨c, v, e1, o, e2, e3⟩ := L.has x hx
    exact ⟨c, v, e1, o, ko c (.tail _ (lookup_mem e1)) o e2, e3⟩

theorem exts_post {φ φ' : Adrs} {S : List Addr} {h₀ h h' : Heap} {Is : List Addr} (P : Post φ φ' S h₀ h) (hn : ∀ a ∈ Is, h₀.get? a = none) (hx : ExtBs Is h h') : Post φ φ' S h₀ h' := by
  have hne : ∀ a o, h₀.get? a = some o → a ∉ Is := fun a o e q => by rw [hn a q] at e; cases e
  exact ⟨P.ext, P.fresh, fun a o e h1 h2 => hx a o (hne a o e) (P.keep a o e h1 h2), fun a o e hf => hx a o (hne a o e) (P.imm a o e hf), fun a o e => by
    obtain ⟨o', e'⟩ := P.alive a o e
    exact ⟨o', hx a o' (hne a o e) e'⟩⟩

theorem AuxS.keep {φ φ' : Adrs} {h h' : Heap} {Is : List Addr} {S : List Addr} (X : AuxS W env φ h Is) (P : Post φ φ' S h h') (hS : ∀ a ∈ Is, a ∉ S) : ∀ a ∈ Is, ∀ o, h.get? a = some o → h'.get? a = some o :=
  fun a ha o e => P.keep a o e (hS a ha) (X a ha).1
theorem AuxS.step {φ φ' : Adrs} {h h' : Heap} {Is : List Addr} {S : List Addr} (X : AuxS W env φ h Is) (P : Post φ φ' S h h') (hS : ∀ a ∈ Is, a ∉ S) : AuxS W env φ' h' Is := by
  intro a ha
  obtain ⟨h1, h2, h3, o, h4, h5⟩ := X a ha
  refine ⟨fun hm => ?_, h2, h3, o, P.keep a o h4 (hS a ha) h1, h5⟩
  obtain ⟨p, hp, rfl⟩ := List.mem_map.mp hm
  rcases P.fresh p hp with q | q
  · exact h1 (List.mem_map_of_mem q)
  · rw [q] at h4; cases h4
theorem AuxS.at {φ : Adrs} {h h' : Heap} {Is Js : List Addr} (X : AuxS W env φ h Is) (hs : ∀ a ∈ Js, a ∈ Is) (ho : ∀ a ∈ Js, ∃ o, h'.get? a = some o ∧ fixed o = false) : AuxS W env φ h' Js := fun a ha => by
  obtain ⟨h1, h2, h3, _⟩ := X a (hs a ha)
  exact ⟨h1, h2, h3, ho a ha⟩
theorem auxs_new {φ : Adrs} {H : St} {lo : Lo} {h h' : Heap} {Is : List Addr} (S : Sim W φ H h) (L : Loc W env sl lo φ h) (hn : ∀ a ∈ Is, h.get? a = none) (ho : ∀ a ∈ Is, ∃ o, h'.get? a = some o ∧ fixed o = false) : AuxS W env φ h' Is := by
  intro it hi
  refine ⟨fun hm => ?_, fun hm => ?_, ?_, ho it hi⟩
  · obtain ⟨p, hp, rfl⟩ := List.mem_map.mp hm
    obtain ⟨x, hx, _⟩ := S.carrier hp
    rw [hn _ hi] at hx; cases hx
  · obtain ⟨_, _, x, hx, _⟩ := L.own it ((List.mem_cons.mp hm).imp id id)
    rw [hn _ hi] at hx; cases hx
  · cases e : W.base.get? it with
    | none => rfl
    | some x => have := S.base _ _ e; rw [hn _ hi] at this; cases this

noncomputable abbrev Src := St → Nat → Option (Option MV)

structure Nx (W : Wd) (target : Expr) (src : Src) (φ0 : Adrs) (I : Addr) (Is : List Addr) (It : Nat → Heap → Prop) : Prop where
  frame : ∀ i h h', (∀ a ∈ Is, ∀ o, h.get? a = some o → h'.get? a = some o) → It i h → It i h'
  live : ∀ i h, It i h → ∀ a ∈ Is, ∃ o, h.get? a = some o ∧ fixed o = false
  self : ∀ i A (s : Shared) (E : Value → Shared → Prop) (Q : Value → Shared → Prop), It i s.heap → Q (.ref I) s → wpAny (model W.prog W.w) A (pyIter (.ref I)) Q E s
  stop : ∀ i φ H A (s : Shared) (E : Value → Shared → Prop), φ0 <+: φ → A.handled = none → Sim W φ H s.heap → (∀ a ∈ Is, a ∉ φ.map (·.2)) → It i s.heap → src H i = some none →
    wpAny (model W.prog W.w) A (pyNext (.ref I)) (fun r s' => r = none ∧ ExtBs Is s.heap s'.heap ∧ Same s s') E s
  item : ∀ i φ H A (s : Shared) (E : Value → Shared → Prop) v, φ0 <+: φ → A.handled = none → Sim W φ H s.heap → (∀ a ∈ Is, a ∉ φ.map (·.2)) → It i s.heap → src H i = some (some v) →
    wpAny (model W.prog W.w) A (pyNext (.ref I)) (fun r s' => ∃ y, r = some y ∧ wpAny (model W.prog W.w) A (letOwnedTupleGo target (.ref I) y) (fun _ s'' => It (i + 1) s''.heap ∧ ExtBs Is s.heap s''.heap ∧ Same s s'' ∧ RV W.base φ s''.heap v y) E s') E s

noncomputable def srcL (r : Nat) : Src := fun H i => match H[r]? with
  | some (.list l) => some l[i]?
  | _ => none
noncomputable def srcV (l : List MV) : Src := fun _ i => some l[i]?
noncomputable def srcOf (v : MV) (H : St) : Option (Src × Nat) := match v with
  | .ref r => (match H[r]? with
    | some (.list l) => some (srcL r, l.length + 1)
    | _ => none)
  | .rng x y z => if Builtin.Range.small x y z then some (srcV (rangeItems x y z), (rangeItems x y z).length + 1) else none
  | _ => none

theorem ExtBs.one {it : Addr} {h h' : Heap} (x : Heap.ExtBut it h h') : ExtBs [it] h h' := fun b o hb e => x b o (fun q => hb (by rw [q]; exact .head _)) e

theorem nx_list {target : Expr} {r : Nat} {φ0 : Adrs} {a d I : Addr} (hr : φ0[r]? = some (a, d)) (hne : a ≠ I) : Nx W target (srcL r) φ0 I [I] (fun i h => h.IsListIter I a i) := by
  refine ⟨fun i h h' k x => x.at fun o e => k I (.head _) o e, fun i h x b hb => ?_, fun i A s E Q x q => wpAny_pyIter_listiter x q, fun i φ H A s E hφ hh S hI x e => ?_, fun i φ H A s E v hφ hh S hI x e => ?_⟩
  · obtain ⟨o, e1, e2, e3⟩ := x
    rw [List.mem_singleton.mp hb]
    exact ⟨o, e1, by unfold fixed; rw [e3, e2]; rfl⟩
  all_goals
    unfold srcL at e
    split at e
    case h_2 => cases e
    rename_i l hl
    obtain ⟨a1, d1, e1, rfl, vs, m, hg, rl⟩ := S.obj r _ hl
    rw [prefix_get hφ hr] at e1; cases e1
  · refine wpAny_pyNext_list_end hh x ⟨_, hg, rfl, _, rfl⟩ ?_ fun h' hx => ⟨rfl, .one hx, h', s.toks, rfl⟩
    rw [← Array.getElem?_toList]
    have hnone : l[i]? = none := Option.some.inj e
    have := rl.length
    rw [List.getElem?_eq_none_iff] at hnone ⊢
    omega
  · obtain ⟨y, ey, ry⟩ := rl.get (Option.some.inj e)
    refine wpAny_pyNext_list_item x ⟨_, hg, rfl, _, rfl⟩ (by rw [← Array.getElem?_toList]; exact ey) fun h' hit hsb => ⟨y, rfl, ?_⟩
    obtain ⟨o3, ho3, hc3, hd3⟩ := id hit
    refine lot_ok (s := { s with heap := h' }) ho3 hc3 (by decide) ⟨hit, .one hsb.extBut, ⟨h', s.toks, rfl⟩, ry.mono List.prefix_rfl fun b o e1 hf => hsb.extBut b o (fun q => ?_) e1⟩
    subst q
    obtain ⟨o, e2, e3, e4⟩ := x
    rw [e1] at e2; cases e2
    unfold fixed at hf
    rw [e4, e3] at hf
    cases hf

theorem nx_range {target : Expr} {x0 y0 z0 : Int} {φ0 : Adrs} {I : Addr} : Nx W target (srcV (rangeItems x0 y0 z0)) φ0 I [I] (fun i h => i ≤ (Builtin.Range.rangeSize x0 y0 z0).toNat ∧ IsRangeIter h I (x0 + (i : Nat) * z0) (Builtin.Range.rangeSize x0 y0 z0 - (i : Nat)) z0) := by
  unfold rangeItems
  generalize hN : (Builtin.Range.rangeSize x0 y0 z0).toNat = N at *
  have hN' : Builtin.Range.rangeSize x0 y0 z0 ≤ N ∧ (0 < N → Builtin.Range.rangeSize x0 y0 z0 = N) := by omega
  generalize Builtin.Range.rangeSize x0 y0 z0 = sz at *
  refine ⟨fun i h h' k x => ⟨x.1, k I (.head _) _ x.2⟩, fun i h x b hb => ?_, fun i A s E Q x q => wpAny_pyIter_rangeiter x.2 q, fun i φ H A s E hφ hh S hI x e => ?_, fun i φ H A s E v hφ hh S hI x e => ?_⟩
  · rw [List.mem_singleton.mp hb]
    exact ⟨_, x.2, rfl⟩
  · have hi : N ≤ i := by
      have e' := Option.some.inj e
      rw [List.getElem?_eq_none_iff] at e'
      simpa using e'
    exact wpAny_pyNext_range_end hh x.2 (by omega) fun h' hx' => ⟨rfl, .one hx', h', s.toks, rfl⟩
  · have e' := Option.some.inj e
    obtain ⟨hi, e2⟩ := List.getElem?_eq_some_iff.mp e'
    have hi' : i < N := by simpa using hi
    rw [List.getElem_map, List.getElem_range] at e2
    subst e2
    refine wpAny_pyNext_range_item x.2 (by omega) fun h' hit hsb => ⟨_, rfl, ?_⟩
    refine lot_ok (s := { s with heap := h', toks := s.toks + 1 }) hit rfl (by decide) ⟨⟨hi', ?_⟩, .one hsb.extBut, ⟨h', _, rfl⟩, .int ..⟩
    have e1 : x0 + ((i + 1 : Nat) : Int) * z0 = x0 + (i : Int) * z0 + z0 := by push_cast; rw [Int.add_mul, Int.one_mul, Int.add_assoc]
    have e2 : sz - ((i + 1 : Nat) : Int) = sz - (i : Int) - 1 := by push_cast; omega
    rw [e1, e2]; exact hit

theorem start_ok {target : Expr} {v : MV} {y : Value} {φ : Adrs} {H : St} {s : Shared} {src : Src} {k : Nat} {E : Value → Shared → Prop} {Q : Value → Shared → Prop} (S : Sim W φ H s.heap) (r : RV W.base φ s.heap v y) (e : srcOf v H = some (src, k))
    (q : ∀ I Is It h', Nx W target src φ I Is It → It 0 h' → (∀ b o, s.heap.get? b = some o → h'.get? b = some o) → (∀ a ∈ Is, s.heap.get? a = none ∧ a < h'.objs.size) → s.heap.objs.size ≤ h'.objs.size → Q (.ref I) { s with heap := h', toks := s.toks }) :
    wpAny (model W.prog W.w) A (pyIter y) Q E s := by
  unfold srcOf at e
  split at e
  · rename_i r
    split at e
    · rename_i l hl
      cases e
      obtain ⟨a, vs, m, rfl, ha, hg, rl⟩ := S.list_of hl r
      refine wpAny_pyIter_list ⟨_, hg, rfl, _, rfl⟩ ?_
      have hit : (s.heap.push { cls := .type "list_iterator", data := .fields #[.ref a, .int 0 0] }).get? s.heap.objs.size = some { cls := .type "list_iterator", data := .fields #[.ref a, .int 0 0] } := Heap.get?_push_size _ rfl
      refine q _ _ _ _ (nx_list ha fun q => ?_) ⟨_, hit, rfl, rfl⟩ (fun b o e => Heap.get?_push_of_some _ e) (fun b hb => ?_) (by rw [Heap.size_push]; exact Nat.le_succ _)
      · rw [q, free_end] at hg; cases hg
      · rw [List.mem_singleton.mp hb]; exact ⟨free_end _, Heap.lt_size hit⟩
    · cases e
  · rename_i x0 y0 z0
    split at e
    · rename_i hsm
      cases e
      obtain ⟨ra, t, u, w, rfl, hr⟩ := r.rng_inv
      refine wpAny_pyIter_range hr hsm ?_
      have hit := Heap.get?_push_size s.heap (o := { cls := .type "range_iterator", data := .fields #[rawInt x0, rawInt (Builtin.Range.rangeSize x0 y0 z0), rawInt z0] }) rfl
      refine q _ _ _ _ nx_range ⟨Nat.zero_le _, by simpa using hit⟩ (fun b o e => Heap.get?_push_of_some _ e) (fun b hb => ?_) (by rw [Heap.size_push]; exact Nat.le_succ _)
      rw [List.mem_singleton.mp hb]; exact ⟨free_end _, Heap.lt_size hit⟩
    · cases e
  · cases e

noncomputable def CT (W : Wd) (n : Nat) (env : Env) (sl : List (Option Str)) (ifs : List Expr) (f : Lo → St → Option (Bool × St)) : Prop :=
  ∀ A φ lo H s v H', f lo H = some (v, H') → Room n A → Sim W φ H s.heap → Loc W env sl lo φ s.heap →
    wpAny (model W.prog W.w) A (forIn ifs true fun c r => if r = true then do let ok ← isTrue c env (eval c env); pure (ForInStep.yield ok) else pure (ForInStep.yield r)) (fun y s' => ∃ φ', EP W φ φ' H' [] s s' ∧ y = v) NoE s
noncomputable def D.yes : Lo → St → Option (Bool × St) := fun _ H => some (true, H)
theorem ct_nil : CT W n env sl [] D.yes := by
  intro A φ lo H s v H' hf R S L
  cases hf
  exact wpAny_tests_nil ⟨φ, .refl S, rfl⟩
theorem ct_one {c : Expr} {f : Lo → St → Option (Bool × St)} (h : ST W n env sl c f) : CT W n env sl [c] f := by
  intro A φ lo H s v H' hf R S L
  exact wpAny_tests_one (h A φ lo H s v H' hf R S L)

noncomputable def D.cl (src : Src) (g : DT) (t : Lo → St → Option (Bool × St)) (e : DE) : Nat → Nat → List MV → Lo → St → Option (List MV × St)
  | 0, _, _ => fun _ _ => none
  | k + 1, i, acc => fun lo H => match src H i with
    | none => none
    | some none => some (acc, H)
    | some (some v) => bnd (g v lo H) fun lo1 H1 => bnd (t lo1 H1) fun c H2 => if c then (bnd (e lo1 H2) fun x H3 => if small acc.length then D.cl src g t e k (i + 1) (acc ++ [x]) lo1 H3 else none) else D.cl src g t e k (i + 1) acc lo1 H2

structure CLoop (W : Wd) (env : Env) (sl : List (Option Str)) (φ0 φ₀ : Adrs) (s₀ : Shared) (B : Addr) (Is : List Addr) (It : Nat → Heap → Prop) (acc : List MV) (vs : Array Value) (m i : Nat) (φ : Adrs) (lo : Lo) (H : St) (s : Shared) : Prop where
  p : φ0 <+: φ
  E : EP W φ₀ φ H [env.locals] s₀ s
  L : Loc W env sl lo φ s.heap
  X : AuxS W env φ s.heap (B :: Is)
  I : It i s.heap
  D : s.heap.get? B = some (lst vs m)
  r : RVs W.base φ s.heap acc vs.toList

theorem CLoop.step {φ0 φ₀ φ φ' : Adrs} {s₀ s s' : Shared} {B I : Addr} {Is : List Addr} {It : Nat → Heap → Prop} {acc : List MV} {vs : Array Value} {m i : Nat} {lo lo' : Lo} {H H' : St} {target : Expr} {src : Src} (N : Nx W target src φ0 I Is It)
    (C : CLoop W env sl φ0 φ₀ s₀ B Is It acc vs m i φ lo H s) (E : EP W φ φ' H' [env.locals] s s') (L : Loc W env sl lo' φ' s'.heap) : CLoop W env sl φ0 φ₀ s₀ B Is It acc vs m i φ' lo' H' s' := by
  have hls : ∀ a ∈ B :: Is, a ∉ [env.locals] := fun a ha hm => (C.X a ha).2.1 (by rw [List.mem_singleton.mp hm]; exact .head _)
  have K := C.X.keep E.post hls
  exact ⟨C.p.trans E.post.ext, C.E.trans E, L, C.X.step E.post hls, N.frame _ _ _ (fun a ha => K a (.tail _ ha)) C.I, K B (.head _) _ C.D, C.r.post E.post⟩
theorem CLoop.item {φ0 φ₀ φ : Adrs} {s₀ s s' : Shared} {B I : Addr} {Is : List Addr} {It : Nat → Heap → Prop} {acc : List MV} {vs : Array Value} {m i : Nat} {lo : Lo} {H : St} {target : Expr} {src : Src} (N : Nx W target src φ0 I Is It) (hDI : B ∉ Is) (hn : ∀ a ∈ B :: Is, s₀.heap.get? a = none)
    (C : CLoop W env sl φ0 φ₀ s₀ B Is It acc vs m i φ lo H s) (I3 : It (i + 1) s'.heap) (hx : ExtBs Is s.heap s'.heap) (hsm : Same s s') : CLoop W env sl φ0 φ₀ s₀ B Is It acc vs m (i + 1) φ lo H s' := by
  have XI : AuxS W env φ s.heap Is := C.X.at (fun a ha => .tail _ ha) fun a ha => (C.X a (.tail _ ha)).2.2.2
  have D3 := hx B _ hDI C.D
  refine ⟨C.p, ⟨exts_sim C.E.sim XI hx, exts_post C.E.post (fun a ha => hn a (.tail _ ha)) hx, C.E.same.trans hsm⟩, exts_loc C.L XI hx, C.X.at (fun a ha => ha) fun a ha => ?_, I3, D3, C.r.mono List.prefix_rfl (XI.imm hx)⟩
  rcases List.mem_cons.mp ha with rfl | ha
  · exact ⟨_, D3, rfl⟩
  · exact N.live _ _ I3 a ha
theorem CLoop.push {φ0 φ₀ φ : Adrs} {s₀ s : Shared} {h' : Heap} {B I : Addr} {Is : List Addr} {It : Nat → Heap → Prop} {acc : List MV} {vs : Array Value} {m i : Nat} {lo : Lo} {H : St} {x : MV} {y : Value} {target : Expr} {src : Src} (N : Nx W target src φ0 I Is It) (hDI : B ∉ Is) (hn : ∀ a ∈ B :: Is, s₀.heap.get? a = none)
    (C : CLoop W env sl φ0 φ₀ s₀ B Is It acc vs m i φ lo H s) (hx : ExtBs [B] s.heap h') (hD' : h'.get? B = some (lst (vs.push y) (m + 1))) (ry : RV W.base φ s.heap x y) : CLoop W env sl φ0 φ₀ s₀ B Is It (acc ++ [x]) (vs.push y) (m + 1) i φ lo H { s with heap := h', toks := s.toks } := by
  have XD : AuxS W env φ s.heap [B] := C.X.at (fun a ha => by rw [List.mem_singleton.mp ha]; exact .head _) fun a ha => by rw [List.mem_singleton.mp ha]; exact ⟨_, C.D, rfl⟩
  have I7 : It i h' := N.frame _ _ _ (fun a ha o e => hx a o (fun q => hDI (by rw [List.mem_singleton.mp q] at ha; exact ha)) e) C.I
  refine ⟨C.p, ⟨exts_sim C.E.sim XD hx, exts_post C.E.post (fun a ha => by rw [List.mem_singleton.mp ha]; exact hn B (.head _)) hx, C.E.same.trans ⟨h', s.toks, rfl⟩⟩, exts_loc C.L XD hx, C.X.at (fun a ha => ha) fun a ha => ?_, I7, hD', ?_⟩
  · rcases List.mem_cons.mp ha with rfl | ha
    · exact ⟨_, hD', rfl⟩
    · exact N.live _ _ I7 a ha
  · rw [Array.toList_push]
    exact (C.r.mono List.prefix_rfl (XD.imm hx)).append (.cons (ry.mono List.prefix_rfl (XD.imm hx)) .nil)

theorem cl_ok {elt target iter : Expr} {ifs : List Expr} {scope : Scope} {pos : Pos} {src : Src} {g : DT} {t : Lo → St → Option (Bool × St)} {e : DE} {φ0 : Adrs} {I B : Addr} {Is : List Addr} {It : Nat → Heap → Prop}
    (N : Nx W target src φ0 I Is It) (ht : TG W n env [env.locals] sl target g) (hc : CT W n env sl ifs t) (he : SE W n env sl elt e) (hDI : B ∉ Is)
    {lo : Lo} {H H' : St} {s : Shared} {k : Nat} {acc : List MV} {R : Result → Shared → Prop} (hf : D.cl src g t e k 0 [] lo H = some (acc, H')) (Ro : Room n A) (S : Sim W φ0 H s.heap) (L : Loc W env sl lo φ0 s.heap)
    (X : AuxS W env φ0 s.heap (B :: Is)) (hI : It 0 s.heap) (hD : s.heap.get? B = some (lst #[] 0)) (s₀ : Shared) (φ₀ : Adrs) (hn : ∀ a ∈ B :: Is, s₀.heap.get? a = none) (E0 : EP W φ₀ φ0 H [env.locals] s₀ s)
    (q : ∀ φ' lo' s' vs m, EP W φ₀ φ' H' [env.locals] s₀ s' → Loc W env sl lo' φ' s'.heap → s'.heap.get? B = some (lst vs m) → RVs W.base φ' s'.heap acc vs.toList → B ∉ φ'.map (·.2) → R (.ok .next) s') :
    codeAny (model W.prog W.w) A (.compLoop (.ListComp elt [⟨target, iter, ifs, 0⟩] scope pos) 0 (.ref I) (.ref B) env) R s := by
  refine codeAny_loop rfl (fun k s' => ∃ φ1 lo1 H1 i acc1 vs m, D.cl src g t e k i acc1 lo1 H1 = some (acc, H') ∧ CLoop W env sl φ0 φ₀ s₀ B Is It acc1 vs m i φ1 lo1 H1 s') ?_ k ⟨φ0, lo, H, 0, [], #[], 0, hf, List.prefix_rfl, E0, L, X, hI, hD, .nil⟩
  rintro k s1 ⟨φ1, lo1, H1, i, acc1, vs, m, hf1, C1⟩
  show wpAny _ _ ((compTurn (.ListComp elt [⟨target, iter, ifs, 0⟩] scope pos) 0 (.ref I) (.ref B) env).onRaise (fun x => do noteFrame x env; theTreesLotGoes x)) _ _ s1
  refine wpAny_noted ?_
  rw [compTurn_list]
  refine wpAny_bind (wpAny_standAt ?_)
  have Ro' : Room n (A.under (.compLoop (.ListComp elt [⟨target, iter, ifs, 0⟩] scope pos) 0 (.ref I) (.ref B) env)) := ⟨Ro.1, Ro.2.1, Ro.2.2⟩
  have hcar : ∀ a ∈ Is, a ∉ φ1.map (·.2) := fun a ha => (C1.X a (.tail _ ha)).1
  cases k with
  | zero => cases hf1
  | succ k =>
  simp only [D.cl] at hf1
  split at hf1
  · cases hf1
  · rename_i hs
    cases hf1
    refine wpAny_bind (wpAny_mono (N.stop i φ1 _ _ s1 _ C1.p Ro.1 C1.E.sim hcar C1.I hs) (fun r s2 hq => ?_) fun _ _ x => x)
    obtain ⟨rfl, hx, hsm⟩ := hq
    have XI : AuxS W env φ1 s1.heap Is := C1.X.at (fun a ha => .tail _ ha) fun a ha => (C1.X a (.tail _ ha)).2.2.2
    exact wpAny_pure (q φ1 lo1 s2 vs m ⟨exts_sim C1.E.sim XI hx, exts_post C1.E.post (fun a ha => hn a (.tail _ ha)) hx, C1.E.same.trans hsm⟩ (exts_loc C1.L XI hx) (hx B _ hDI C1.D) (C1.r.mono List.prefix_rfl (XI.imm hx)) (C1.X B (.head _)).1)
  · rename_i v hs
    refine wpAny_bind (wpAny_mono (N.item i φ1 H1 _ s1 _ v C1.p Ro.1 C1.E.sim hcar C1.I hs) (fun r s2 hq => ?_) fun _ _ x => x)
    obtain ⟨y, rfl, hq⟩ := hq
    refine wpAny_bind (wpAny_mono hq (fun _ s3 hq3 => ?_) fun _ _ x => x)
    have C3 := C1.item N hDI hn hq3.1 hq3.2.1 hq3.2.2.1
    obtain ⟨lo4, H4, g4, hf4⟩ := bnd_inv hf1
    refine wpAny_bind (noE (wpAny_mono (ht _ φ1 lo1 H1 s3 v y lo4 H4 g4 Ro' C3.E.sim C3.L hq3.2.2.2) (fun _ s4 hq4 => ?_) fun _ _ x => x.elim))
    obtain ⟨φ4, E4, L4⟩ := hq4
    have C4 := C3.step N E4 L4
    clear hq3 C3 E4 L4
    obtain ⟨c, H5, t5, hf5⟩ := bnd_inv hf4
    refine wpAny_bind (noE (wpAny_mono (hc _ φ4 lo4 H4 s4 c H5 t5 Ro' C4.E.sim C4.L) (fun y5 s5 hq5 => ?_) fun _ _ x => x.elim))
    obtain ⟨φ5, E5, rfl⟩ := hq5
    have C5 := C4.step N E5.zero (C4.L.post0 E5.post)
    clear C4 E5
    cases y5 with
    | false =>
      simp only [Bool.false_eq_true, if_false] at hf5 ⊢
      exact wpAny_bind (wpAny_pure (wpAny_pure ⟨rfl, k, Nat.lt_succ_self k, φ5, lo4, H5, i + 1, acc1, vs, m, hf5, C5⟩))
    | true =>
      simp only [if_true] at hf5 ⊢
      obtain ⟨x6, H6, e6, hf6⟩ := bnd_inv hf5
      split at hf6
      case isFalse => cases hf6
      rename_i hz
      refine wpAny_bind (wpAny_bind (noE (wpAny_mono (he _ φ5 lo4 H5 s5 x6 H6 e6 Ro' C5.E.sim C5.L) (fun y6 s6 hq6 => ?_) fun _ _ x => x.elim)))
      obtain ⟨φ6, E6, ry6⟩ := hq6
      have C6 := C5.step N E6.zero (C5.L.post0 E6.post)
      have hvz : vs.size ≤ sizeLine := by
        rw [sizeLine_eq]
        have hz' : acc1.length ≤ 1000000 := by simpa [small] using hz
        have := C6.r.length.trans Array.length_toList
        omega
      refine wpAny_bind (append_at (s := s6) C6.D (fun h' hsb hD' => ?_) hvz)
      exact wpAny_pure (wpAny_pure ⟨rfl, k, Nat.lt_succ_self k, φ6, lo4, H6, i + 1, acc1 ++ [x6], vs.push y6, m + 1, hf6, C6.push N hDI hn (.one hsb.extBut) hD' ry6⟩)
end
end Mine
namespace Mine

noncomputable def clOf (env : Env) : List (Str × NameKind) → List (Str × Addr) → List (Str × Addr)
  | [], acc => acc
  | (x, k) :: r, acc => if k == .free then (match env.cells.lookup x with
    | some c => clOf env r ((x, c) :: acc)
    | none => clOf env r acc) else clOf env r acc
theorem clOf_mem {env : Env} : ∀ {ns : List (Str × NameKind)} {acc : List (Str × Addr)} {p : Str × Addr}, p ∈ clOf env ns acc → p ∈ acc ∨ env.cells.lookup p.1 = some p.2
  | [], _, _, h => .inl h
  | (x, k) :: r, acc, p, h => by
    simp only [clOf] at h
    split at h
    · split at h
      · rename_i c hc
        rcases clOf_mem h with q | q
        · rcases List.mem_cons.mp q with rfl | q
          · exact .inr hc
          · exact .inl q
        · exact .inr q
      · exact clOf_mem h
    · exact clOf_mem h
theorem clOf_acc {env : Env} : ∀ {ns : List (Str × NameKind)} {acc : List (Str × Addr)} {p : Str × Addr}, p ∈ acc → p ∈ clOf env ns acc
  | [], _, _, h => h
  | (x, k) :: r, acc, p, h => by
    simp only [clOf]
    split
    · split
      · exact clOf_acc (.tail _ h)
      · exact clOf_acc h
    · exact clOf_acc h
theorem clOf_has {env : Env} : ∀ {ns : List (Str × NameKind)} {acc : List (Str × Addr)} {x : Str} {c : Addr}, (x, NameKind.free) ∈ ns → env.cells.lookup x = some c → (x, c) ∈ clOf env ns acc
  | (y, k) :: r, acc, x, c, h, hc => by
    simp only [clOf]
    rcases List.mem_cons.mp h with q | q
    · cases q
      simp only [hc, beq_self_eq_true, if_true]
      exact clOf_acc (.head _)
    · split
      · split
        · exact clOf_has q hc
        · exact clOf_has q hc
      · exact clOf_has q hc
theorem lookup_some_of_mem {l : List (Str × Addr)} {x : Str} {c : Addr} (h : (x, c) ∈ l) : ∃ c', l.lookup x = some c' := by
  induction l with
  | nil => cases h
  | cons p r ih =>
    obtain ⟨y, d⟩ := p
    by_cases hy : x = y
    · subst hy; exact ⟨d, by simp⟩
    · rcases List.mem_cons.mp h with q | q
      · cases q; exact absurd rfl hy
      · obtain ⟨c', e⟩ := ih q
        refine ⟨c', ?_⟩
        rw [List.lookup_cons]
        have : (x == y) = false := by simpa using hy
        rw [this]; exact e
theorem clOf_lookup {env : Env} {ns : List (Str × NameKind)} {x : Str} {c : Addr} (h : (clOf env ns []).lookup x = some c) : env.cells.lookup x = some c := by
  rcases clOf_mem (mem_of_lookup h) with q | q
  · cases q
  · exact q
theorem clOf_lookup' {env : Env} {ns : List (Str × NameKind)} {x : Str} {c : Addr} (hx : (x, NameKind.free) ∈ ns) (h : env.cells.lookup x = some c) : (clOf env ns []).lookup x = some c := by
  obtain ⟨c', e⟩ := lookup_some_of_mem (clOf_has (acc := []) hx h)
  have := clOf_lookup e
  rw [h] at this; cases this; exact e

theorem closure_go {env : Env} : ∀ {ns : List (Str × NameKind)} {acc : List (Str × Addr)}, (∀ x, (x, NameKind.free) ∈ ns → ∃ c, env.cells.lookup x = some c) →
    (forIn ns acc fun (p : Str × NameKind) (cs : List (Str × Addr)) => (do
      if p.2 == NameKind.free then do let a ← cellOf env p.1; pure (ForInStep.yield ((p.1, a) :: cs)) else pure (ForInStep.yield cs) : Sem (ForInStep (List (Str × Addr))))) = pure (clOf env ns acc)
  | [], acc, _ => by simp [clOf]
  | (x, k) :: r, acc, h => by
    rw [List.forIn_cons]
    by_cases hk : k = .free
    · subst hk
      obtain ⟨c, hc⟩ := h x (.head _)
      have : cellOf env x = pure c := by unfold cellOf; rw [hc]
      simp only [clOf, this, hc, beq_self_eq_true, if_true, pure_bind]
      exact closure_go fun y hy => h y (.tail _ hy)
    · have : (k == NameKind.free) = false := by simpa using hk
      simp only [clOf, this, Bool.false_eq_true, if_false, pure_bind]
      exact closure_go fun y hy => h y (.tail _ hy)
theorem closure_ok {scope : Scope} {env : Env} (h : ∀ x, (x, NameKind.free) ∈ scope.names → ∃ c, env.cells.lookup x = some c) : closureFor scope env = pure (clOf env scope.names []) := by
  unfold closureFor
  have := closure_go (ns := scope.names) (acc := []) h
  exact (congrArg (· >>= fun cs => pure cs) this).trans (pure_bind ..)

theorem relabel_cell {scope : Scope} {env : Env} {x : Str} (h : (relabel scope env).names.lookup x = some .cell) (hc : ∀ p ∈ scope.names, p.2 ≠ .cell) : (x, NameKind.free) ∈ scope.names ∧ env.kindOf x = some .cell := by
  have hm := mem_of_lookup h
  obtain ⟨p, hp, e⟩ := List.mem_map.mp (show (x, NameKind.cell) ∈ scope.names.map _ from hm)
  obtain ⟨y, k⟩ := p
  dsimp only at e
  split at e
  · rename_i hk
    cases e
    simp only [Bool.and_eq_true, beq_iff_eq] at hk
    exact ⟨hk.1.1 ▸ hp, hk.2⟩
  · cases e
    exact absurd rfl (hc _ hp)

section
variable {W : Wd} {n : Nat} {env : Env} {sl csl : List (Option Str)} {A : Around}

noncomputable def D.compTo (q m : Nat) (g : DT) (t : Lo → St → Option (Bool × St)) (e : DE) (v : MV) : Lo → St → Option (MV × St) := fun lo H => if lo.length = q then (match srcOf v H with
  | some (src, k) => (D.cl src g t e k 0 [] (lo ++ List.replicate m none) H).map fun p => (.ref p.2.length, p.2 ++ [.list p.1])
  | none => none) else none
noncomputable def D.comp (q m : Nat) (f : DE) (g : DT) (t : Lo → St → Option (Bool × St)) (e : DE) : DE := fun lo H => bnd (f lo H) fun v H => D.compTo q m g t e v lo H

structure CompOk (W : Wd) (n : Nat) (env : Env) (sl csl : List (Option Str)) (q : Nat) (scope : Scope) (elt target : Expr) (ifs : List Expr) (g : DT) (t : Lo → St → Option (Bool × St)) (e : DE) : Prop where
  kind : scope.kind = .function
  nocell : ∀ p ∈ scope.names, p.2 ≠ .cell
  names : ∀ x ∈ scope.names, x.2 = .local → scope.names.lookup x.1 = some .local
  free : ∀ p ∈ scope.names, p.2 = .free → env.kindOf p.1 = some .cell
  cap : ∀ (i : Nat) (x : Str), csl[i]? = some (some x) → i < q → sl[i]? = some (some x) ∧ (x, NameKind.free) ∈ scope.names ∧ (relabel scope env).names.lookup x = some .cell
  uniq : ∀ (i j : Nat) (x : Str), csl[i]? = some (some x) → csl[j]? = some (some x) → i = j
  tgt : ∀ C, TG W n (compEnvC scope (clOf env scope.names []) C env) [C] csl target g
  tests : ∀ C, CT W n (compEnvC scope (clOf env scope.names []) C env) csl ifs t
  elt : ∀ C, SE W n (compEnvC scope (clOf env scope.names []) C env) csl elt e

theorem comp_core {q m : Nat} {scope : Scope} {elt target iter : Expr} {ifs : List Expr} {g : DT} {t : Lo → St → Option (Bool × St)} {e : DE} {pos : Pos} (K : CompOk W n env sl csl q scope elt target ifs g t e)
    {φ : Adrs} {lo : Lo} {H H' : St} {s : Shared} {v v' : MV} {y1 : Value} (hf : D.compTo q m g t e v lo H = some (v', H')) (Ro : Room n A) (S : Sim W φ H s.heap) (L : Loc W env sl lo φ s.heap) (r : RV W.base φ s.heap v y1)
    {RR : Value → Addr → Result → Shared → Prop} {E : Value → Shared → Prop}
    (hq : ∀ B C φ' s' mm, EP W φ φ' H' [] s s' → RV W.base φ' s'.heap v' (.ref B) → s'.heap.Ns C mm → AuxS W env φ' s'.heap [C] → s.heap.get? C = none → RR (.ref B) C (.ok .next) s') :
    wpAny (model W.prog W.w) A (pyIter y1) (fun it s₂ => wpAny (model W.prog W.w) A (newList []) (fun acc s₃ => wpAny (model W.prog W.w) A (newFunctionEnv scope env.globals (clOf env scope.names []) [] env.qual none .none (some env)) (fun cenv s₄ =>
      codeAny (model W.prog W.w) A (.compStart (.ListComp elt [⟨target, iter, ifs, 0⟩] scope pos) 0 it acc { cenv with scope := relabel scope env }) (RR acc cenv.locals) s₄) E s₃) E s₂) E s := by
  unfold D.compTo at hf
  split at hf
  case isFalse => cases hf
  rename_i hlen
  split at hf
  case h_2 => cases hf
  rename_i src k hsrc
  obtain ⟨p, hcl, hp⟩ := Option.map_eq_some_iff.mp hf
  obtain ⟨acc, H1⟩ := p
  cases hp
  refine start_ok (target := target) S r hsrc fun I Is It h1 N hI k1 hfr hle => ?_
  refine wpAny_newObj_type (wpAny_newFunctionEnv (fun x hx => K.nocell x hx) (by intro y hy; simp at hy) (fun h₂ hns₂ hsb₂ => ?_) K.kind)
  dsimp only at hns₂ hsb₂ ⊢
  generalize hH2 : h1.push { cls := .type "list", dict := none, data := .seq ([] : List Value).toArray } = H2 at hns₂ hsb₂ ⊢
  have hC : H2.objs.size = h1.objs.size + 1 := by rw [← hH2, Heap.size_push]
  have hBC : h1.objs.size ≠ H2.objs.size := by rw [hC]; exact Nat.ne_of_lt (Nat.lt_succ_self _)
  have hCs : s.heap.get? H2.objs.size = none := free_above (by rw [hC]; exact Nat.le_succ_of_le hle)
  have hBs : s.heap.get? h1.objs.size = none := free_above hle
  have k12 : ∀ b o, h1.get? b = some o → h₂.get? b = some o := fun b o e => hsb₂.extBut b o (by rw [hC]; exact Nat.ne_of_lt (Nat.lt_succ_of_lt (Heap.lt_size e))) (Heap.get?_push_of_some _ (hH2 ▸ Heap.get?_push_of_some _ e))
  have old : ∀ b o, s.heap.get? b = some o → h₂.get? b = some o := fun b o e => k12 b o (k1 b o e)
  have hB2 : h₂.get? h1.objs.size = some (lst #[] 0) := hsb₂.extBut _ _ hBC (Heap.get?_push_of_some _ (hH2 ▸ Heap.get?_push_size _ rfl))
  have hBI : h1.objs.size ∉ Is := fun hm => Nat.lt_irrefl _ (hfr _ hm).2
  have hCI : H2.objs.size ∉ h1.objs.size :: Is := fun hm => by
    rcases List.mem_cons.mp hm with q | q
    · exact hBC q.symm
    · have := (hfr _ q).2; rw [hC] at this; exact Nat.lt_irrefl _ (Nat.lt_of_succ_lt this)
  have hfree : ∀ a ∈ H2.objs.size :: h1.objs.size :: Is, s.heap.get? a = none := fun a ha => by
    rcases List.mem_cons.mp ha with rfl | ha
    · exact hCs
    · rcases List.mem_cons.mp ha with rfl | ha
      · exact hBs
      · exact (hfr a ha).1
  have hI2 : It 0 h₂ := N.frame _ _ _ (fun a _ o e => k12 a o e) hI
  have hlive : ∀ a ∈ H2.objs.size :: h1.objs.size :: Is, ∃ o, h₂.get? a = some o ∧ fixed o = false := fun a ha => by
    rcases List.mem_cons.mp ha with rfl | ha
    · obtain ⟨o, es, ep, e1, e2, _⟩ := hns₂
      exact ⟨o, e1, by unfold fixed; rw [e2]⟩
    · rcases List.mem_cons.mp ha with rfl | ha
      · exact ⟨_, hB2, rfl⟩
      · exact N.live _ _ hI2 a ha
  have XA : AuxS W env φ h₂ (H2.objs.size :: h1.objs.size :: Is) := auxs_new S L hfree hlive
  have main : ∀ s₃ : Shared, s₃ = { s with heap := h₂, toks := s.toks + ([] : List (Str × Value)).length } →
      codeAny (model W.prog W.w) A (.compLoop (.ListComp elt [⟨target, iter, ifs, 0⟩] scope pos) 0 (.ref I) (.ref h1.objs.size) (compEnvC scope (clOf env scope.names []) H2.objs.size env)) (RR (.ref h1.objs.size) H2.objs.size) s₃ := by
    rintro s₃ rfl
    have E0 : EP W φ φ H [H2.objs.size] s { s with heap := h₂, toks := s.toks + ([] : List (Str × Value)).length } := grow_ep S old
    have LC : Loc W (compEnvC scope (clOf env scope.names []) H2.objs.size env) csl (lo ++ List.replicate m none) φ h₂ := by
      have L2 : Loc W env sl lo φ h₂ := L.post0 (grow_post old)
      have low : ∀ (i : Nat) (u : MV), (lo ++ List.replicate m none)[i]? = some (some u) → i < q ∧ lo[i]? = some (some u) := fun i u e => by
        by_cases hi : i < lo.length
        · rw [List.getElem?_append_left hi] at e
          exact ⟨hlen ▸ hi, e⟩
        · rw [List.getElem?_append_right (Nat.le_of_not_lt hi)] at e
          have := List.mem_of_getElem? e
          rw [List.mem_replicate] at this
          cases this.2
      refine ⟨K.kind, L2.glob, L2.blt, fun a ha => ?_, K.uniq, ⟨_, hns₂, fun i x u h1 h2 h3 => ?_⟩, fun i x u h1 h2 h3 => ?_, fun x hx => ?_, fun x c hc => ?_⟩
      · rcases ha with rfl | ha
        · exact ⟨(XA _ (.head _)).1, (XA _ (.head _)).2.2.1, hlive _ (.head _)⟩
        · obtain ⟨p, hp, rfl⟩ := List.mem_map.mp ha
          rcases clOf_mem hp with q | q
          · cases q
          · exact L2.own _ (.inr (lookup_mem q))
      · obtain ⟨hi, e⟩ := low i u h3
        have := (K.cap i x h1 hi).2.2
        rw [show (relabel scope env).names.lookup x = some .local from h2] at this
        cases this
      · obtain ⟨hi, e⟩ := low i u h3
        obtain ⟨c1, c2, c3⟩ := K.cap i x h1 hi
        obtain ⟨c, y, e1, e2, e3⟩ := L2.cel i x u c1 (K.free _ c2 rfl) e
        exact ⟨c, y, clOf_lookup' c2 e1, e2, e3⟩
      · obtain ⟨c1, c2⟩ := relabel_cell (show (relabel scope env).names.lookup x = some .cell from hx) K.nocell
        obtain ⟨c, u, e1, e2⟩ := L2.has x c2
        exact ⟨c, u, clOf_lookup' c1 e1, e2⟩
      · have e1 := clOf_lookup hc
        refine ⟨fun q => ?_, fun y hy => (L2.apart x c e1).2 y (clOf_lookup hy)⟩
        have q' : c = H2.objs.size := q
        subst q'
        exact (XA _ (.head _)).2.1 (.tail _ (lookup_mem e1))
    have XC : AuxS W (compEnvC scope (clOf env scope.names []) H2.objs.size env) φ h₂ (h1.objs.size :: Is) := fun a ha => by
      obtain ⟨q1, q2, q3, q4⟩ := XA a (.tail _ ha)
      refine ⟨q1, fun hm => ?_, q3, q4⟩
      rcases List.mem_cons.mp hm with rfl | hm
      · exact hCI ha
      · obtain ⟨p, hp, rfl⟩ := List.mem_map.mp hm
        rcases clOf_mem hp with q | q
        · cases q
        · exact q2 (.tail _ (lookup_mem q))
    refine cl_ok (env := compEnvC scope (clOf env scope.names []) H2.objs.size env) N (K.tgt _) (K.tests _) (K.elt _) hBI hcl Ro E0.sim LC XC hI2 hB2 s φ (fun a ha => hfree a (.tail _ ha)) E0 fun φ' lo' s' vs m' E' L' hB' r' hcar => ?_
    have E1 : EP W φ φ' H1 [] s s' := ⟨E'.sim, (Post.refl φ [] s.heap).drop E'.post (fun a ha => by rw [List.mem_singleton.mp ha]; exact hCs), E'.same⟩
    have hbase : W.base.get? h1.objs.size = none := (XA _ (.tail _ (.head _))).2.2.1
    have hout : OR W φ' s'.heap (.list acc) h1.objs.size h1.objs.size := ⟨rfl, vs, m', hB', r'⟩
    have E2 : EP W φ (φ' ++ [(h1.objs.size, h1.objs.size)]) (H1 ++ [.list acc]) [] s s' := by
      refine ⟨E1.sim.new hcar hbase hout, ⟨E1.post.ext.trans (List.prefix_append ..), fun p hp => ?_, E1.post.keep, E1.post.imm, E1.post.alive⟩, E1.same⟩
      rcases List.mem_append.mp hp with q | q
      · exact E1.post.fresh p q
      · rw [List.mem_singleton.mp q]; exact .inr hBs
    obtain ⟨mm, hmm, _⟩ := L'.loc
    have hlC := L'.own H2.objs.size (.inl rfl)
    refine hq _ _ _ _ mm E2 (.ref _ _ h1.objs.size ?_) hmm (fun a ha => ?_) hCs
    · rw [← E1.sim.len]; simp
    · rw [List.mem_singleton.mp ha]
      refine ⟨fun hm => ?_, (XA _ (.head _)).2.1, hlC.2.1, hlC.2.2⟩
      rw [List.map_append] at hm
      rcases List.mem_append.mp hm with q | q
      · exact hlC.1 q
      · simp at q; exact hBC q.symm
  exact codeAny_compStart_list (main _ rfl) (N.self 0 A _ _ _ hI2 (main _ rfl))

theorem se_comp {q m : Nat} {scope : Scope} {elt target iter : Expr} {ifs : List Expr} {f : DE} {g : DT} {t : Lo → St → Option (Bool × St)} {e : DE} {pos : Pos} (K : CompOk W n env sl csl q scope elt target ifs g t e) (hi : SE W n env sl iter f)
    (hs : ∀ x, foldedSetIterable iter env x = pure x) : SE W n env sl (.ListComp elt [⟨target, iter, ifs, 0⟩] scope pos) (D.comp q m f g t e) := by
  intro A φ lo H s v H' hf R S L
  obtain ⟨v1, H1, h1, h2⟩ := bnd_inv hf
  rw [eval_ListComp]
  refine wpAny_comprehension_free (use := none) rfl hs (closure_ok fun x hx => ?_) K.kind K.names (wpAny_mono (hi A φ lo H s v1 H1 h1 R S L) (fun y1 s1 ⟨φ1, E1, r1⟩ => ?_) fun _ _ x => x)
  · obtain ⟨c, u, e1, _⟩ := L.has x (K.free _ hx rfl)
    exact ⟨c, e1⟩
  refine comp_core (RR := compPost (model W.prog W.w) A NoE none _) K h2 R E1.sim (L.post0 E1.post) r1 fun B C φ' s' mm E2 rB hmm XC hC => ⟨mm, hmm, fun h' hsb => ?_⟩
  have hx : ExtBs [C] s'.heap h' := .one hsb.extBut
  exact ⟨φ', E1.trans ⟨exts_sim E2.sim XC hx, exts_post E2.post (fun a ha => by rw [List.mem_singleton.mp ha]; exact hC) hx, E2.same.trans ⟨h', s'.toks, rfl⟩⟩, rB.mono List.prefix_rfl (XC.imm hx)⟩

theorem ss_comp {q m : Nat} {scope : Scope} {elt target iter : Expr} {ifs : List Expr} {f : DE} {g gy : DT} {t : Lo → St → Option (Bool × St)} {e : DE} {pos spos py : Pos} {y : Str} (K : CompOk W n env sl csl q scope elt target ifs g t e) (hi : SE W n env sl iter f)
    (hs : ∀ x, foldedSetIterable iter env x = pure x) (hsw : swapsWith (.ListComp elt [⟨target, iter, ifs, 0⟩] scope pos) (some (.Name y py)) spos.line env = pure true) (hy : TG W n env (ownOfE env) sl (.Name y py) gy) :
    SS W n env sl (.Assign [.Name y py] (.ListComp elt [⟨target, iter, ifs, 0⟩] scope pos) spos) (D.assign (D.comp q m f g t e) gy) := by
  intro A φ lo H s fl lo' H' hf R S L
  obtain ⟨v, H2, hv, h3⟩ := bnd_inv hf
  obtain ⟨v1, H1, h1, h2⟩ := bnd_inv hv
  obtain ⟨p, h4, h5⟩ := Option.map_eq_some_iff.mp h3
  cases h5
  rw [exec_Assign_Name_used _ _ _ _ hsw]
  refine wpAny_bind (wpAny_standAt (wpAny_bind ?_))
  show wpAny _ A (do let _ ← comprehension (.ListComp elt [⟨target, iter, ifs, 0⟩] scope pos) scope env _ (newList []) false (eval iter env) (some (assign (.Name y py) env))) _ _ s
  refine wpAny_bind (wpAny_mono (wpAny_comprehension_free (use := some (assign (.Name y py) env)) (Q := fun _ s' => ∃ φ', EP W φ φ' p.2 (ownOfE env) s s' ∧ Loc W env sl p.1 φ' s'.heap ∧ RFl W φ' s'.heap .next .next) rfl hs (closure_ok fun x hx => ?_) K.kind K.names
    (wpAny_mono (hi A φ lo H s v1 H1 h1 R S L) (fun y1 s1 ⟨φ1, E1, r1⟩ => ?_) fun _ _ x => x)) (fun _ s' hq => wpAny_pure (wpAny_pure hq)) fun _ _ x => x)
  · obtain ⟨c, u, e1, _⟩ := L.has x (K.free _ hx rfl)
    exact ⟨c, e1⟩
  refine comp_core (RR := compPost (model W.prog W.w) A NoE (some (assign (.Name y py) env)) _) K h2 R E1.sim (L.post0 E1.post) r1 fun B C φ' s' mm E2 rB hmm XC hC => ?_
  show wpAny _ A (assign (.Name y py) env (.ref B)) _ _ s'
  refine wpAny_mono (hy A φ' lo H2 s' v _ _ _ h4 R E2.sim ((L.post0 E1.post).post0 E2.post) rB) (fun _ s3 ⟨φ3, E3, L3⟩ => ?_) fun _ _ x => x
  have hCo : ∀ a ∈ [C], a ∉ ownOfE env := fun a ha => by rw [List.mem_singleton.mp ha]; exact (XC C (.head _)).2.1
  have X3 := XC.step E3.post hCo
  have k3 := XC.keep E3.post hCo
  obtain ⟨o, es, ep, e1, e2⟩ := hmm
  refine ⟨mm, ⟨o, es, ep, k3 C (.head _) _ e1, e2⟩, fun h' hsb => ?_⟩
  have hx : ExtBs [C] s3.heap h' := .one hsb.extBut
  have E23 := (E2.zero (S := ownOfE env)).trans E3
  exact ⟨φ3, E1.zero.trans ⟨exts_sim E3.sim X3 hx, exts_post E23.post (fun a ha => by rw [List.mem_singleton.mp ha]; exact hC) hx, E23.same.trans ⟨h', s3.toks, rfl⟩⟩, exts_loc L3 X3 hx, trivial⟩
end
end Mine
namespace Mine

section
variable {W : Wd} {n : Nat} {env : Env} {sl : List (Option Str)} {A : Around}

noncomputable def srcE (r : Nat) : Src := fun H i => match H[r]? with
  | some (.list l) => some (l[i]?.map fun v => .tup [.int i, v])
  | _ => none

theorem nx_enum {elts : List Expr} {k : Nat} {pos : Pos} {r : Nat} {φ0 : Adrs} {a d I J : Addr} (hr : φ0[r]? = some (a, d)) (hIJ : I ≠ J) (haI : a ≠ I) (haJ : a ≠ J) :
    Nx W (.Tuple elts k pos) (srcE r) φ0 I [I, J] (fun i h => ∃ old, IsEnum h I J (i : Nat) old ∧ h.IsListIter J a i) := by
  refine ⟨fun i h h' k x => ?_, fun i h x b hb => ?_, fun i A s E Q x q => ?_, fun i φ H A s E hφ hh S hI x e => ?_, fun i φ H A s E v hφ hh S hI x e => ?_⟩
  · obtain ⟨old, x1, x2⟩ := x
    exact ⟨old, k I (.head _) _ x1, x2.at fun o e => k J (.tail _ (.head _)) o e⟩
  · obtain ⟨old, x1, o, e1, e2, e3⟩ := x
    rcases List.mem_cons.mp hb with rfl | hb
    · exact ⟨_, x1, rfl⟩
    · rw [List.mem_singleton.mp hb]
      exact ⟨o, e1, by unfold fixed; rw [e3, e2]; rfl⟩
  · obtain ⟨old, x1, x2⟩ := x
    exact wpAny_pyIter_enum x1 q
  all_goals
    unfold srcE at e
    split at e
    case h_2 => cases e
    rename_i l hl
    obtain ⟨a1, d1, e1, rfl, vs, m, hg, rl⟩ := S.obj r _ hl
    rw [prefix_get hφ hr] at e1; cases e1
    obtain ⟨old, x1, x2⟩ := x
  · refine wpAny_pyNext_enum_end hh x1 x2 ⟨_, hg, rfl, _, rfl⟩ ?_ fun h' hx => ⟨rfl, fun b o hb e => hx b o (fun q => hb (by rw [q]; exact .tail _ (.head _))) e, h', s.toks, rfl⟩
    rw [← Array.getElem?_toList]
    have hnone : l[i]? = none := by
      have := Option.some.inj e
      cases h : l[i]? with
      | none => rfl
      | some u => rw [h] at this; cases this
    have := rl.length
    rw [List.getElem?_eq_none_iff] at hnone ⊢
    omega
  · have e' := Option.some.inj e
    obtain ⟨u, hu, hv⟩ := Option.map_eq_some_iff.mp e'
    subst hv
    obtain ⟨y, ey, ry⟩ := rl.get hu
    refine wpAny_pyNext_enum_item x1 x2 ⟨_, hg, rfl, _, rfl⟩ (by rw [← Array.getElem?_toList]; exact ey) hIJ fun h' ho hit ht hz hk => ⟨_, rfl, ?_⟩
    refine wpAny_letOwnedTupleGo_enum ho fun h2 he2 hs2 => ?_
    have hne : ∀ b o, s.heap.get? b = some o → b ≠ s.heap.objs.size := fun b o e q => by rw [q, free_end] at e; cases e
    have hIs : I ≠ s.heap.objs.size := hne _ _ x1
    have hx : ExtBs [I, J] s.heap h2 := fun b o hb e => (hs2.2 b (fun q => hb (by rw [q]; exact .head _))).trans (hk b o (fun q => hb (by rw [q]; exact .head _)) (fun q => hb (by rw [q]; exact .tail _ (.head _))) e)
    have imm : ∀ b o, s.heap.get? b = some o → fixed o = true → h2.get? b = some o := fun b o e hf => by
      refine hx b o (fun hm => ?_) e
      rcases List.mem_cons.mp hm with rfl | hm
      · have x1' : s.heap.get? b = _ := x1
        rw [e] at x1'; cases x1'; cases hf
      · rw [List.mem_singleton.mp hm] at e
        obtain ⟨o2, q1, q2, q3⟩ := x2
        rw [e] at q1; cases q1
        unfold fixed at hf; rw [q3, q2] at hf; cases hf
    refine ⟨⟨y, ?_, ?_⟩, hx, ⟨h2, _, rfl⟩, .tup _ _ [.int i s.toks, y] ⟨_, (hs2.2 _ (Ne.symm hIs)).trans ht, rfl, _, rfl⟩ (.cons (.int ..) (.cons (ry.mono List.prefix_rfl imm) .nil))⟩
    · have : ((i + 1 : Nat) : Int) = (i : Int) + 1 := by push_cast; rfl
      rw [this]; exact he2
    · obtain ⟨o2, q1, q2, q3⟩ := hit
      exact ⟨o2, (hs2.2 J (Ne.symm hIJ)).trans q1, q2, q3⟩

noncomputable def D.forS (src : Src) (g : DT) (b : DS) : Nat → Nat → DS
  | 0, _ => fun _ _ => none
  | k + 1, i => fun lo H => match src H i with
    | none => none
    | some none => some (.next, lo, H)
    | some (some v) => bnd (g v lo H) fun lo1 H1 => (match after (b lo1 H1) with
      | some (.inl (lo2, H2)) => D.forS src g b k (i + 1) lo2 H2
      | some (.inr x) => some x
      | none => none)

structure SLoop (W : Wd) (env : Env) (sl : List (Option Str)) (φ0 φ₀ : Adrs) (s₀ : Shared) (Is : List Addr) (It : Nat → Heap → Prop) (i : Nat) (φ : Adrs) (lo : Lo) (H : St) (s : Shared) : Prop where
  p : φ0 <+: φ
  E : EP W φ₀ φ H (ownOfE env) s₀ s
  L : Loc W env sl lo φ s.heap
  X : AuxS W env φ s.heap Is
  I : It i s.heap
theorem SLoop.step {φ0 φ₀ φ φ' : Adrs} {s₀ s s' : Shared} {I : Addr} {Is : List Addr} {It : Nat → Heap → Prop} {i : Nat} {lo lo' : Lo} {H H' : St} {target : Expr} {src : Src} (N : Nx W target src φ0 I Is It)
    (C : SLoop W env sl φ0 φ₀ s₀ Is It i φ lo H s) (E : EP W φ φ' H' (ownOfE env) s s') (L : Loc W env sl lo' φ' s'.heap) : SLoop W env sl φ0 φ₀ s₀ Is It i φ' lo' H' s' :=
  ⟨C.p.trans E.post.ext, C.E.trans E, L, C.X.step E.post fun a ha => (C.X a ha).2.1, N.frame _ _ _ (fun a ha => C.X.keep E.post (fun a ha => (C.X a ha).2.1) a ha) C.I⟩
theorem SLoop.next {φ0 φ₀ φ : Adrs} {s₀ s s' : Shared} {Is : List Addr} {It : Nat → Heap → Prop} {i : Nat} {lo : Lo} {H : St} (hn : ∀ a ∈ Is, s₀.heap.get? a = none)
    (C : SLoop W env sl φ0 φ₀ s₀ Is It i φ lo H s) (hx : ExtBs Is s.heap s'.heap) (hsm : Same s s') : EP W φ₀ φ H (ownOfE env) s₀ s' ∧ Loc W env sl lo φ s'.heap :=
  ⟨⟨exts_sim C.E.sim C.X hx, exts_post C.E.post hn hx, C.E.same.trans hsm⟩, exts_loc C.L C.X hx⟩

theorem forS_ok {target : Expr} {body : List Stmt} {src : Src} {g : DT} {b : DS} {φ0 φ₀ : Adrs} {I : Addr} {Is : List Addr} {It : Nat → Heap → Prop} (N : Nx W target src φ0 I Is It) (ht : TG W n env (ownOfE env) sl target g) (hb : SB W n env sl body b)
    {lo lo' : Lo} {H H' : St} {fl : Fl} {s s₀ : Shared} {k : Nat} (hf : D.forS src g b k 0 lo H = some (fl, lo', H')) (Ro : Room n A) (L : Loc W env sl lo φ0 s.heap)
    (X : AuxS W env φ0 s.heap Is) (hI : It 0 s.heap) (hn : ∀ a ∈ Is, s₀.heap.get? a = none) (E0 : EP W φ₀ φ0 H (ownOfE env) s₀ s) :
    codeAny (model W.prog W.w) A (.forLoop target (.ref I) body [] env) (fun r s' => match r with
      | .ok f => ∃ φ', EP W φ₀ φ' H' (ownOfE env) s₀ s' ∧ Loc W env sl lo' φ' s'.heap ∧ RFl W φ' s'.heap fl f
      | .error e => cameBackBy (model W.prog W.w) A env NoE e s') s := by
  refine codeAny_forLoop_any (fun k s' => ∃ φ1 lo1 H1 i, D.forS src g b k i lo1 H1 = some (fl, lo', H') ∧ SLoop W env sl φ0 φ₀ s₀ Is It i φ1 lo1 H1 s') ?_ k ⟨φ0, lo, H, 0, hf, List.prefix_rfl, E0, L, X, hI⟩
  rintro k s1 ⟨φ1, lo1, H1, i, hf1, C1⟩
  cases k with
  | zero => cases hf1
  | succ k =>
  simp only [D.forS] at hf1
  split at hf1
  · cases hf1
  · rename_i hs
    cases hf1
    refine wpAny_mono (N.stop i φ1 _ _ s1 _ C1.p Ro.1 C1.E.sim (fun a ha => (C1.X a ha).1) C1.I hs) (fun r s2 hq => ?_) fun _ _ x => x
    obtain ⟨rfl, hx, hsm⟩ := hq
    obtain ⟨E2, L2⟩ := C1.next hn hx hsm
    exact wpAny_execs_nil ⟨φ1, E2, L2, trivial⟩
  · rename_i v hs
    refine wpAny_mono (N.item i φ1 H1 _ s1 _ v C1.p Ro.1 C1.E.sim (fun a ha => (C1.X a ha).1) C1.I hs) (fun r s2 hq => ?_) fun _ _ x => x
    obtain ⟨y, rfl, hq⟩ := hq
    refine wpAny_mono hq (fun _ s3 hq3 => ?_) fun _ _ x => x
    have C3 : SLoop W env sl φ0 φ₀ s₀ Is It (i + 1) φ1 lo1 H1 s3 := ⟨C1.p, (C1.next hn hq3.2.1 hq3.2.2.1).1, (C1.next hn hq3.2.1 hq3.2.2.1).2, C1.X.at (fun a ha => ha) fun a ha => N.live _ _ hq3.1 a ha, hq3.1⟩
    obtain ⟨lo4, H4, g4, hf4⟩ := bnd_inv hf1
    refine noE (wpAny_mono (ht _ φ1 lo1 H1 s3 v y lo4 H4 g4 Ro C3.E.sim C3.L hq3.2.2.2) (fun _ s4 hq4 => ?_) fun _ _ x => x.elim)
    obtain ⟨φ4, E4, L4⟩ := hq4
    have C4 := C3.step N E4 L4
    clear C3 hq3 E4 L4 C1 hf1
    cases hx : after (b lo4 H4) with
    | none => rw [hx] at hf4; cases hf4
    | some x =>
      rw [hx] at hf4
      refine turn_ok (k := k + 1) (R := fun r s' => match r with | .ok f => ∃ φ', EP W φ₀ φ' H' (ownOfE env) s₀ s' ∧ Loc W env sl lo' φ' s'.heap ∧ RFl W φ' s'.heap fl f | .error e => cameBackBy (model W.prog W.w) A env NoE e s') (I := fun k s' => ∃ φ1 lo1 H1 i, D.forS src g b k i lo1 H1 = some (fl, lo', H') ∧ SLoop W env sl φ0 φ₀ s₀ Is It i φ1 lo1 H1 s') hb hx Ro C4.E.sim C4.L
        (fun lo5 H5 φ5 s5 ex E5 L5 => ?_) (fun fl5 lo5 H5 φ5 s5 f ex E5 L5 rf hff => ?_)
      · rw [ex] at hf4
        exact ⟨k, Nat.lt_succ_self k, φ5, lo5, H5, i + 1, hf4, C4.step N E5 L5⟩
      · rw [ex] at hf4
        cases hf4
        exact ⟨φ5, C4.E.trans E5, L5, rf⟩

noncomputable def D.for (f : DE) (g : DT) (b : DS) : DS := fun lo H => bnd (f lo H) fun v H => match srcOf v H with
  | some (src, k) => D.forS src g b k 0 lo H
  | none => none
theorem ss_for {target iter : Expr} {body : List Stmt} {pos : Pos} {f : DE} {g : DT} {b : DS} (hi : SE W n env sl iter f) (ht : TG W n env (ownOfE env) sl target g) (hb : SB W n env sl body b)
    (hs : ∀ x, foldedSetIterable iter env x = pure x) : SS W n env sl (.For target iter body [] pos) (D.for f g b) := by
  intro A φ lo H s fl lo' H' hf R S L
  obtain ⟨v, H1, h1, h2⟩ := bnd_inv hf
  refine wpAny_For (wpAny_mono (hi A φ lo H s v H1 h1 R S L) (fun y s1 ⟨φ1, E1, r1⟩ => ?_) fun _ _ x => x) hs
  cases hsrc : srcOf v H1 with
  | none => rw [hsrc] at h2; cases h2
  | some sk =>
    rw [hsrc] at h2
    refine start_ok (target := target) E1.sim r1 hsrc fun I Is It h' NN I0 hk hfree hsz => ?_
    have E2 : EP W φ1 φ1 H1 [] s1 { s1 with heap := h', toks := s1.toks } := grow_ep E1.sim hk
    refine codeAny_mono (forS_ok (s := { s1 with heap := h' }) (s₀ := s1) NN ht hb h2 R ((L.post0 E1.post).post0 E2.post) (auxs_new E1.sim (L.post0 E1.post) (fun a ha => (hfree a ha).1) fun b hb => NN.live 0 _ I0 b hb) I0 (fun a ha => (hfree a ha).1) E2.zero) fun r2 s2 hq => ?_
    cases r2 with
    | error e => exact hq
    | ok f2 =>
      obtain ⟨φ', E3, L3, rf⟩ := hq
      exact ⟨φ', E1.zero.trans E3, L3, rf⟩

noncomputable def D.forE (f : DE) (g : DT) (b : DS) : DS := fun lo H => bnd (f lo H) fun v H => match v with
  | .ref r => (match H[r]? with
    | some (.list l) => D.forS (srcE r) g b (l.length + 1) 0 lo H
    | _ => none)
  | _ => none

theorem ss_forE {elts : List Expr} {kk : Nat} {tpos : Pos} {e : Expr} {p cpos : Pos} {body : List Stmt} {pos : Pos} {f : DE} {g : DT} {b : DS} (hi : SE W n env sl e f) (ht : TG W n env (ownOfE env) sl (.Tuple elts kk tpos) g) (hb : SB W n env sl body b)
    (hg : nsIn W.K mainGlobals "enumerate" = some none) (hx : env.kindOf "enumerate" = some .globalImplicit) (hst : starEach [e] env = (false, eval e env) :: starEach [] env)
    (hs : ∀ x, foldedSetIterable (.Call (.Name "enumerate" p) [e] [] cpos) env x = pure x) : SS W n env sl (.For (.Tuple elts kk tpos) (.Call (.Name "enumerate" p) [e] [] cpos) body [] pos) (D.forE f g b) := by
  intro A φ lo H s fl lo' H' hf R S L
  obtain ⟨v, H1, h1, h2⟩ := bnd_inv hf
  split at h2
  case h_2 => cases h2
  rename_i r
  split at h2
  case h_2 => cases h2
  rename_i l hl
  refine wpAny_For (Call_ (blt_name S L hg boot_enumerate (by decide) hx (by decide) ?_)) hs
  refine callWith_type (by rw [hst]; rfl) ?_
  refine evalArgs_ok ?_ (fun e' r' q => by cases q; exact hst)
  refine args_cons (wpAny_mono (hi A φ lo H s _ H1 h1 R S L) (fun y s1 ⟨φ1, E1, r1⟩ => ?_) fun _ _ x => x) hst
  refine wpAny_pure ?_
  obtain ⟨a, vs, m, rfl, ha, hg1, rl⟩ := E1.sim.list_of hl r1
  show wpAny _ A (call (.type "enumerate") [.ref a]) _ _ s1
  refine call_enumerate_1 hg1 fun h' he hit hz hk => ?_
  refine wpAny_pyIter_enum he ?_
  have L1 := L.post0 E1.post
  have hlt := Heap.lt_size hg1
  have hfree : ∀ b ∈ [s1.heap.objs.size + 1, s1.heap.objs.size], s1.heap.get? b = none := fun b hb => by
    rcases List.mem_cons.mp hb with rfl | hb
    · exact free_above (Nat.le_succ _)
    · rw [List.mem_singleton.mp hb]; exact free_end _
  have NN : Nx W (.Tuple elts kk tpos) (srcE r) φ1 (s1.heap.objs.size + 1) [s1.heap.objs.size + 1, s1.heap.objs.size] _ := nx_enum ha (Nat.ne_of_gt (Nat.lt_succ_self _)) (Nat.ne_of_lt (Nat.lt_succ_of_lt hlt)) (Nat.ne_of_lt hlt)
  have I0 : ∃ old, IsEnum h' (s1.heap.objs.size + 1) s1.heap.objs.size ((0 : Nat) : Int) old ∧ h'.IsListIter s1.heap.objs.size a 0 := ⟨_, he, hit⟩
  have E2 : EP W φ1 φ1 H1 [] s1 { s1 with heap := h', toks := s1.toks } := grow_ep E1.sim hk
  refine codeAny_mono (forS_ok (s := { s1 with heap := h' }) (s₀ := s1) NN ht hb h2 R (L1.post0 E2.post) (auxs_new E1.sim L1 hfree fun b hb => NN.live 0 _ I0 b hb) I0 hfree E2.zero) fun r2 s2 hq => ?_
  cases r2 with
  | error e => exact hq
  | ok f2 =>
    obtain ⟨φ', E3, L3, rf⟩ := hq
    exact ⟨φ', E1.zero.trans E3, L3, rf⟩

noncomputable def D.dict2 (c : Nat) (f1 f2 : DE) : DE := fun lo H => bnd (f1 lo H) fun a H => bnd (f2 lo H) fun b H => some (.ref H.length, H ++ [.obj c [a, b]])
theorem se_dict2 {c : Nat} {x1 x2 : Str} {k1 k2 : Nat} {p1 p2 pos : Pos} {e1 e2 : Expr} {f1 f2 : DE} (hc : W.cls c = none) (hn : W.names c = [x1, x2]) (hne : x1 ≠ x2) (h1 : SE W n env sl e1 f1) (h2 : SE W n env sl e2 f2) :
    SE W n env sl (.Dict [some (.Constant (.str x1) k1 p1), some (.Constant (.str x2) k2 p2)] [e1, e2] pos) (D.dict2 c f1 f2) := by
  intro A φ lo H s v H' hf R S L
  obtain ⟨a, H1, f1', hf1⟩ := bnd_inv hf
  obtain ⟨b, H2, f2', hf2⟩ := bnd_inv hf1
  cases hf2
  have hB : s.heap.get? s.heap.objs.size = none := free_end _
  have hD0 := Heap.DictOf.new (knd := PySem.strKind W.prog W.w) s.heap
  have E0 : EP W φ φ H [] s { s with heap := s.heap.push { cls := .type "dict", data := .dict #[] }, toks := s.toks } := grow_ep S fun b o e => Heap.get?_push_of_some _ e
  have hB0 : ∃ o, (s.heap.push { cls := .type "dict", data := .dict #[] }).get? s.heap.objs.size = some o ∧ fixed o = false := ⟨_, Heap.get?_push_size _ rfl, rfl⟩
  have X0 : AuxS W env φ (s.heap.push { cls := .type "dict", data := .dict #[] }) [s.heap.objs.size] := auxs_new S L (fun a ha => by rw [List.mem_singleton.mp ha]; exact hB) fun a ha => by rw [List.mem_singleton.mp ha]; exact hB0
  have n0 : ∀ a ∈ [s.heap.objs.size], a ∉ ([] : List Addr) := fun _ _ h => nomatch h
  refine wpAny_Dict_pairs (knd := PySem.strKind W.prog W.w) (pairs := [(eval (.Constant (.str x1) k1 p1) env, do let x ← eval e1 env; standAt pos; pure x), (eval (.Constant (.str x2) k2 p2) env, do let x ← eval e2 env; standAt pos; pure x)]) rfl (by simp) (by simp) ?_
  refine evalPairs_cons (Constant_str (wpAny_bind (wpAny_mono (h1 A φ lo H { s with heap := s.heap.push { cls := .type "dict", data := .dict #[] }, toks := s.toks + 1 } a H1 f1' R E0.sim (L.post0 E0.post)) (fun y1 s1 hq => ?_) fun _ _ x => x)))
  obtain ⟨φ1, E1, r1⟩ := hq
  have X1 := X0.step E1.post n0
  have K1 := X0.keep E1.post n0
  have L1 := (L.post0 E0.post).post0 E1.post
  refine wpAny_bind (wpAny_standAt (wpAny_pure ?_))
  refine evalPairs_cons (Constant_str (wpAny_bind (wpAny_mono (h2 A φ1 lo H1 { s1 with toks := s1.toks + 1 } b _ f2' R E1.sim L1) (fun y2 s2 hq => ?_) fun _ _ x => x)))
  obtain ⟨φ2, E2, r2⟩ := hq
  have X2 := X1.step E2.post n0
  have K2 := X1.keep E2.post n0
  refine wpAny_bind (wpAny_standAt (wpAny_pure ?_))
  refine evalPairs_nil ⟨[(x1, y1), (x2, y2)], ⟨strKind_is .., rfl, strKind_is .., rfl, trivial⟩, ?_, fun h' hd hsb => ?_⟩
  · exact (hD0.at fun o e => K1 _ (.head _) o e).at fun o e => K2 _ (.head _) o e
  have hx : ExtBs [s.heap.objs.size] s2.heap h' := .one hsb.extBut
  have hm : merged [] [(x1, y1), (x2, y2)] = [(x1, y1), (x2, y2)] := by
    have : x2 ≠ x1 := Ne.symm hne
    simp [merged, stored, hne, this]
  rw [hm] at hd
  have E02 : EP W φ φ2 H2 [] s { s2 with heap := h', toks := s2.toks + 2 } := by
    have t1 : EP W φ φ H [] s { s with heap := s.heap.push { cls := .type "dict", data := .dict #[] }, toks := s.toks + 1 } := grow_ep S fun b o e => Heap.get?_push_of_some _ e
    have t2 : EP W φ1 φ1 H1 [] s1 { s1 with toks := s1.toks + 1 } := EP.tok E1.sim _
    have t3 := ((t1.trans E1).trans t2).trans E2
    exact ⟨exts_sim E2.sim X2 hx, exts_post t3.post (fun a ha => by rw [List.mem_singleton.mp ha]; exact hB) hx, t3.same.trans ⟨h', _, rfl⟩⟩
  have hcar := (X2 _ (.head _)).1
  have hbase := (X2 _ (.head _)).2.2.1
  refine ⟨φ2 ++ [(s.heap.objs.size, s.heap.objs.size)], ⟨E02.sim.new hcar hbase ?_, ⟨E02.post.ext.trans (List.prefix_append ..), fun p hp => ?_, E02.post.keep, E02.post.imm, E02.post.alive⟩, E02.same⟩, .ref _ _ s.heap.objs.size ?_⟩
  · simp only [OR, hc]
    exact ⟨trivial, _, hd, by rw [hn]; rfl, (RVs.cons (r1.post E2.post) (.cons r2 .nil)).mono List.prefix_rfl (X2.imm hx)⟩
  · rcases List.mem_append.mp hp with q | q
    · exact E02.post.fresh p q
    · rw [List.mem_singleton.mp q]; exact .inr hB
  · rw [← E02.sim.len]; simp
end
end Mine
namespace Mine

structure Fn (W : Wd) (g : Str) (fa : Addr) : Prop where
  glob : nsIn W.K mainGlobals g = some (some (.ref fa))
  obj : ∃ o fd, W.K.lookup fa = some o ∧ o.data = .func fd
structure Mt (W : Wd) (c : Nat) (C N : Addr) (x : Str) (fa : Addr) : Prop where
  cl : Cls W c C N
  at' : nsIn W.K N x = some (some (.ref fa))
  obj : ∃ o fd, W.K.lookup fa = some o ∧ o.cls = .type "function" ∧ o.data = .func fd
  obj0 : ∃ y, typeLookup (.type "object") x = pure y
  nf : x ∉ W.names c
structure Bl (W : Wd) (g : Str) (fv : Value) : Prop where
  glob : nsIn W.K mainGlobals g = some none
  boot : bootBuiltins g = some fv
  ne : g ≠ "__name__"
  db : (g == ("__debug__" : Str)) = false
  kind : (∃ id, fv = .builtin id) ∨ ∃ T, fv = .type T
structure Mk (W : Wd) (g : Str) (C : Addr) : Prop where
  glob : nsIn W.K mainGlobals g = some (some (.ref C))
  keep : keepIn W.K (.ref C) = true
  db : (g == ("__debug__" : Str)) = false

noncomputable def Plain (es : List Expr) (env : Env) : Prop := ∀ e r, es = e :: r → starEach (e :: r) env = (false, eval e env) :: starEach r env
theorem plain_nil {env : Env} : Plain [] env := fun _ _ h => nomatch h
theorem plain_cons {e : Expr} {r : List Expr} {env : Env} (h : starEach (e :: r) env = (false, eval e env) :: starEach r env) : Plain (e :: r) env := fun _ _ q => by cases q; exact h

section
variable {W : Wd} {n : Nat} {env : Env} {sl csl : List (Option Str)} {A : Around}

theorem se_stuck {e : Expr} : SE W n env sl e (fun _ _ => none) := fun _ _ _ _ _ _ _ h => nomatch h
theorem se_fn {k : Nat} {g : Str} {fa : Addr} {Df : DF} {p pos : Pos} {es : List Expr} {fs : List DE} (G : Fn W g fa) (F : FS W k (.ref fa) Df) (ha : SA W n env sl es fs) (hs : Plain es env) (hk : k ≤ n) (hx : env.kindOf g = some .globalImplicit) (hdb : (g == ("__debug__" : Str)) = false) :
    SE W n env sl (.Call (.Name g p) es [] pos) (D.call Df fs) := by
  obtain ⟨o, fd, h1, h2⟩ := G.obj
  exact se_call F G.glob h1 h2 ha hk hx hdb hs
theorem se_mt {k c : Nat} {C N : Addr} {x : Str} {fa : Addr} {Df : DF} {e : Expr} {apos pos : Pos} {es : List Expr} {f : DE} {fs : List DE} {pl : Sem Bool} (G : Mt W c C N x fa) (F : FS W k (.ref fa) Df) (he : SE W n env sl e f) (ha : SA W n env sl es fs) (hs : Plain es env) (hk : k ≤ n)
    (hm : eval (.Call (.Attribute e x apos) es [] pos) env = (do
      let ov ← eval e env
      standAt apos.atName
      let (f, first) ← holding [ov] (getMethod ov x pl)
      callWith pos f first (backTo pos (starEach es env)) [])) : SE W n env sl (.Call (.Attribute e x apos) es [] pos) (D.meth c Df f fs) := by
  obtain ⟨o, fd, h1, h2, h3⟩ := G.obj
  exact se_meth (pl := pl) G.cl F G.at' h1 h2 h3 G.obj0 G.nf he ha hk hs hm
theorem se_bl {g : Str} {p pos : Pos} {es : List Expr} {fs : List DE} {fv : Value} {b : List MV → St → Option (MV × St)} (G : Bl W g fv) (hb : CB W fv b) (ha : SA W n env sl es fs) (hs : Plain es env) (hst : es.any isStarred = false) (hx : env.kindOf g = some .globalImplicit) :
    SE W n env sl (.Call (.Name g p) es [] pos) (D.bcall b fs) := se_bcall hb G.kind G.glob G.boot G.ne hx G.db ha hst hs
theorem se_mk {k : Nat} {g : Str} {C : Addr} {Df : DF} {p pos : Pos} {es : List Expr} {fs : List DE} (G : Mk W g C) (F : FS W k (.ref C) Df) (ha : SA W n env sl es fs) (hs : Plain es env) (hst : es.any isStarred = false) (hk : k ≤ n) (hx : env.kindOf g = some .globalImplicit) :
    SE W n env sl (.Call (.Name g p) es [] pos) (D.call Df fs) := se_make F G.glob G.keep ha hk hx G.db hst hs

theorem tn_loc {T : List Addr} {i : Nat} {x : Str} {pos : Pos} (hx : sl[i]? = some (some x)) (hk : env.kindOf x = some .local) (hT : env.locals ∈ T) : TG W n env T sl (.Name x pos) (D.tname i) := tg_name hx (.inl ⟨hk, hT⟩)
theorem tn_cel {i : Nat} {x : Str} {pos : Pos} (hx : sl[i]? = some (some x)) (hk : env.kindOf x = some .cell) : TG W n env (ownOfE env) sl (.Name x pos) (D.tname i) := tg_name hx (.inr ⟨hk, fun _ hc => .tail _ hc⟩)

noncomputable def noDup : List (Option Str) → Bool
  | [] => true
  | none :: r => noDup r
  | some x :: r => !r.contains (some x) && noDup r
theorem noDup_uniq : ∀ {l : List (Option Str)}, noDup l = true → ∀ (i j : Nat) (x : Str), l[i]? = some (some x) → l[j]? = some (some x) → i = j
  | none :: r, h, 0, _, x, h1, _ => by simp at h1
  | none :: r, h, _ + 1, 0, x, _, h2 => by simp at h2
  | none :: r, h, i + 1, j + 1, x, h1, h2 => by
    rw [noDup_uniq (l := r) h i j x (by simpa using h1) (by simpa using h2)]
  | some y :: r, h, 0, 0, x, _, _ => rfl
  | some y :: r, h, 0, j + 1, x, h1, h2 => by
    simp only [noDup, Bool.and_eq_true, Bool.not_eq_true', List.contains_eq_mem, decide_eq_false_iff_not] at h
    simp at h1 h2
    subst h1
    exact absurd (List.mem_of_getElem? h2) h.1
  | some y :: r, h, i + 1, 0, x, h1, h2 => by
    simp only [noDup, Bool.and_eq_true, Bool.not_eq_true', List.contains_eq_mem, decide_eq_false_iff_not] at h
    simp at h1 h2
    subst h2
    exact absurd (List.mem_of_getElem? h1) h.1
  | some y :: r, h, i + 1, j + 1, x, h1, h2 => by
    simp only [noDup, Bool.and_eq_true] at h
    rw [noDup_uniq (l := r) h.2 i j x (by simpa using h1) (by simpa using h2)]

noncomputable def defOk (names : List Str) (sl : List (Option Str)) (scope : Scope) : Bool :=
  decide names.Nodup && ((List.range names.length).all fun i => decide (sl[i]? = names[i]?.map some)) && noDup sl && (names.all fun x => decide (scope.names.lookup x = some .local) || decide (scope.names.lookup x = some .cell)) &&
    decide ((cellsFrom 0 scope.names []).map (·.1)).Nodup && !scope.isCoroutine && !scope.isGenerator && decide (scope.kind = .function)

theorem fs_def' {k : Nat} {fa : Addr} {name qual : Str} {params : Arguments} {body : List Stmt} {scope : Scope} {dV kV doc pm cdv ct oc : Value} {an od : Option Addr} {osl : Array (Option Value)} {b : DS} {names : List Str} {sl : List (Option Str)} {dm : List MV} {dv : List Value}
    (ho : W.K.lookup fa = some ⟨oc, od, .func (fnOf name qual params body scope dV kV doc pm an cdv ct), osl⟩) (hcd : codeIn W.K cdv qual = true)
    (hb : ∀ L, SB W k (envOfC qual scope L fa cdv) sl body b)
    (hdv : ∀ φ h, RVs W.base φ h dm dv)
    (hbind : ∀ (s : Shared) (ys : List Value), ys.length + dv.length = names.length → (∀ b o, W.base.get? b = some o → s.heap.get? b = some o) → BindsTo s (fnOf name qual params body scope dV kV doc pm an cdv ct) ⟨ys, []⟩ (names.zip (ys ++ dv)))
    (hok : defOk names sl scope = true) : FS W (k + 1) (.ref fa) (D.fn names.length sl.length dm b) := by
  unfold defOk at hok
  simp only [Bool.and_eq_true, Bool.not_eq_true', decide_eq_true_eq, List.all_eq_true, Bool.or_eq_true] at hok
  obtain ⟨⟨⟨⟨⟨⟨⟨h1, h2⟩, h3⟩, h4⟩, h5⟩, h6⟩, h7⟩, h8⟩ := hok
  refine fs_def ho hcd hb hdv hbind h1 (fun i x hx => ?_) (noDup_uniq h3) h4 h5 h6 h7 h8
  have := h2 i (List.mem_range.mpr (List.getElem?_eq_some_iff.mp hx).1)
  rw [this, hx]; rfl

noncomputable def compOk (env : Env) (sl csl : List (Option Str)) (q : Nat) (scope : Scope) : Bool :=
  decide (scope.kind = .function) && (scope.names.all fun p => decide (p.2 ≠ .cell) && (decide (p.2 ≠ .local) || decide (scope.names.lookup p.1 = some .local)) && (decide (p.2 ≠ .free) || decide (env.kindOf p.1 = some .cell))) &&
    ((List.range q).all fun i => match csl[i]? with
      | some (some x) => decide (sl[i]? = some (some x)) && decide ((x, NameKind.free) ∈ scope.names) && decide ((relabel scope env).names.lookup x = some .cell)
      | _ => true) && noDup csl
theorem comp_ok {q : Nat} {scope : Scope} {elt target : Expr} {ifs : List Expr} {g : DT} {t : Lo → St → Option (Bool × St)} {e : DE} (h : compOk env sl csl q scope = true)
    (ht : ∀ C, TG W n (compEnvC scope (clOf env scope.names []) C env) [C] csl target g) (hc : ∀ C, CT W n (compEnvC scope (clOf env scope.names []) C env) csl ifs t) (he : ∀ C, SE W n (compEnvC scope (clOf env scope.names []) C env) csl elt e) :
    CompOk W n env sl csl q scope elt target ifs g t e := by
  unfold compOk at h
  simp only [Bool.and_eq_true, decide_eq_true_eq, List.all_eq_true, Bool.or_eq_true] at h
  obtain ⟨⟨⟨h1, h2⟩, h3⟩, h4⟩ := h
  refine ⟨h1, fun p hp => (h2 p hp).1.1, fun p hp hl => ?_, fun p hp hl => ?_, fun i x hx hi => ?_, noDup_uniq h4, ht, hc, he⟩
  · exact ((h2 p hp).1.2).resolve_left fun q => q hl
  · exact ((h2 p hp).2).resolve_left fun q => q hl
  · have := h3 i (List.mem_range.mpr hi)
    rw [hx] at this
    simp only [Bool.and_eq_true, decide_eq_true_eq] at this
    exact ⟨this.1.1, this.1.2, this.2⟩

theorem swap_kinds3 {i j l : Nat} {x y w : Str} (h1 : sl[i]? = some (some x)) (k1 : env.kindOf x = some .local ∨ env.kindOf x = some .cell) (h2 : sl[j]? = some (some y)) (k2 : env.kindOf y = some .local ∨ env.kindOf y = some .cell)
    (h3 : sl[l]? = some (some w)) (k3 : env.kindOf w = some .local ∨ env.kindOf w = some .cell) :
    ∀ (k i' : Nat) (z : Str), [i, j, l][k]? = some i' → [x, y, w][k]? = some z → sl[i']? = some (some z) ∧ (env.kindOf z = some .local ∨ env.kindOf z = some .cell)
  | 0, _, _, e, f => by cases e; cases f; exact ⟨h1, k1⟩
  | 1, _, _, e, f => by cases e; cases f; exact ⟨h2, k2⟩
  | 2, _, _, e, f => by cases e; cases f; exact ⟨h3, k3⟩
  | k + 3, _, _, e, f => by simp at e

theorem ys1 {l : List Value} (h : l.length = 1) : ∃ a, l = [a] := List.length_eq_one_iff.mp h
theorem ys2 {l : List Value} (h : l.length = 2) : ∃ a b, l = [a, b] := by
  obtain ⟨a, t, rfl⟩ := List.exists_cons_of_length_eq_add_one h
  obtain ⟨b, rfl⟩ := ys1 (Nat.succ.inj h)
  exact ⟨a, b, rfl⟩
theorem ys3 {l : List Value} (h : l.length = 3) : ∃ a b c, l = [a, b, c] := by
  obtain ⟨a, t, rfl⟩ := List.exists_cons_of_length_eq_add_one h
  obtain ⟨b, c, rfl⟩ := ys2 (Nat.succ.inj h)
  exact ⟨a, b, c, rfl⟩
theorem ys4 {l : List Value} (h : l.length = 4) : ∃ a b c d, l = [a, b, c, d] := by
  obtain ⟨a, t, rfl⟩ := List.exists_cons_of_length_eq_add_one h
  obtain ⟨b, c, d, rfl⟩ := ys3 (Nat.succ.inj h)
  exact ⟨a, b, c, d, rfl⟩
end
end Mine
namespace Mine

noncomputable def Turn (x : Option Res) (P Q : Lo → St → Prop) (R : MV → Lo → St → Prop) : Prop := match x with
  | some (.next, lo, H) => P lo H
  | some (.cont, lo, H) => P lo H
  | some (.brk, lo, H) => Q lo H
  | some (.ret v, lo, H) => R v lo H
  | none => False
noncomputable def Ends (x : Option Res) (P : Lo → St → Prop) (R : MV → Lo → St → Prop) : Prop := match x with
  | some (.next, lo, H) => P lo H
  | some (.ret v, lo, H) => R v lo H
  | _ => False

theorem Turn.after {x : Option Res} {P Q : Lo → St → Prop} {R : MV → Lo → St → Prop} (h : Turn x P Q R) :
    (∃ lo H, Mine.after x = some (.inl (lo, H)) ∧ P lo H) ∨ (∃ lo H, Mine.after x = some (.inr (.next, lo, H)) ∧ Q lo H) ∨ (∃ v lo H, Mine.after x = some (.inr (.ret v, lo, H)) ∧ R v lo H) := by
  unfold Turn at h
  split at h
  · exact .inl ⟨_, _, rfl, h⟩
  · exact .inl ⟨_, _, rfl, h⟩
  · exact .inr (.inl ⟨_, _, rfl, h⟩)
  · exact .inr (.inr ⟨_, _, _, rfl, h⟩)
  · exact h.elim

theorem forS_rule {src : Src} {g : DT} {b : DS} {l : List MV} (P : Nat → Lo → St → Prop) {Q : Lo → St → Prop} {R : MV → Lo → St → Prop}
    (hl : ∀ i lo H, P i lo H → src H i = some l[i]?)
    (step : ∀ (i : Nat) v lo H, l[i]? = some v → P i lo H → ∃ lo1 H1, g v lo H = some (lo1, H1) ∧ Turn (b lo1 H1) (P (i + 1)) Q R) (hQ : ∀ lo H, P l.length lo H → Q lo H)
    {lo : Lo} {H : St} (h0 : P 0 lo H) : Ends (D.forS src g b (l.length + 1) 0 lo H) Q R := by
  suffices h : ∀ (k i : Nat) lo H, P i lo H → k + i = l.length + 1 → i ≤ l.length → Ends (D.forS src g b k i lo H) Q R from h _ 0 lo H h0 (by simp) (Nat.zero_le _)
  intro k
  induction k with
  | zero => intro i lo H hP hk hi; (first | decide | assumption | (exact Nat.le_trans (by assumption) (by decide)) | lia | omega)
  | succ k ih =>
    intro i lo H hP hk hi
    simp only [D.forS, hl i lo H hP]
    cases hv : l[i]? with
    | none =>
      have : i = l.length := by
        rw [List.getElem?_eq_none_iff] at hv; (first | decide | assumption | (exact Nat.le_trans (by assumption) (by decide)) | lia | omega)
      exact hQ lo H (this ▸ hP)
    | some v =>
      have hlt : i < l.length := (List.getElem?_eq_some_iff.mp hv).1
      obtain ⟨lo1, H1, e1, ht⟩ := step i v lo H hv hP
      simp only [e1, bnd_some]
      rcases ht.after with ⟨lo2, H2, e2, h2⟩ | ⟨lo2, H2, e2, h2⟩ | ⟨u, lo2, H2, e2, h2⟩
      · rw [e2]; exact ih (i + 1) lo2 H2 h2 (by (first | decide | assumption | (exact Nat.le_trans (by assumption) (by decide)) | lia | omega)) hlt
      · rw [e2]; exact h2
      · rw [e2]; exact h2


noncomputable def D.forL (g : DT) (b : DS) (r k i : Nat) : DS := D.forS (srcL r) g b k i
noncomputable def D.forV (g : DT) (b : DS) (l : List MV) : DS := D.forS (srcV l) g b (l.length + 1) 0
theorem forV_rule {g : DT} {b : DS} {l : List MV} (P : Nat → Lo → St → Prop) {Q : Lo → St → Prop} {R : MV → Lo → St → Prop}
    (step : ∀ (i : Nat) v lo H, l[i]? = some v → P i lo H → ∃ lo1 H1, g v lo H = some (lo1, H1) ∧ Turn (b lo1 H1) (P (i + 1)) Q R) (hQ : ∀ lo H, P l.length lo H → Q lo H)
    {lo : Lo} {H : St} (h0 : P 0 lo H) : Ends (D.forV g b l lo H) Q R := forS_rule P (fun _ _ _ _ => rfl) step hQ h0
theorem forL_rule {g : DT} {b : DS} {r : Nat} {l : List MV} (P : Nat → Lo → St → Prop) {Q : Lo → St → Prop} {R : MV → Lo → St → Prop}
    (hl : ∀ i lo H, P i lo H → H[r]? = some (.list l))
    (step : ∀ (i : Nat) v lo H, l[i]? = some v → P i lo H → ∃ lo1 H1, g v lo H = some (lo1, H1) ∧ Turn (b lo1 H1) (P (i + 1)) Q R) (hQ : ∀ lo H, P l.length lo H → Q lo H)
    {lo : Lo} {H : St} (h0 : P 0 lo H) : Ends (D.forL g b r (l.length + 1) 0 lo H) Q R := forS_rule P (fun i lo H h => by simp only [srcL, hl i lo H h]) step hQ h0

theorem cl_rule {src : Src} {g : DT} {t : Lo → St → Option (Bool × St)} {e : DE} {l : List MV} (P : Nat → List MV → Lo → St → Prop) {Q : List MV → St → Prop}
    (hl : ∀ i acc lo H, P i acc lo H → src H i = some l[i]?)
    (step : ∀ (i : Nat) v acc lo H, l[i]? = some v → P i acc lo H → ∃ lo1 H1 c H2, g v lo H = some (lo1, H1) ∧ t lo1 H1 = some (c, H2) ∧ (if c = true then ∃ x H3, e lo1 H2 = some (x, H3) ∧ acc.length ≤ 1000000 ∧ P (i + 1) (acc ++ [x]) lo1 H3 else P (i + 1) acc lo1 H2))
    (hQ : ∀ acc lo H, P l.length acc lo H → Q acc H) {lo : Lo} {H : St} (h0 : P 0 [] lo H) : ∃ acc H', D.cl src g t e (l.length + 1) 0 [] lo H = some (acc, H') ∧ Q acc H' := by
  suffices h : ∀ (k i : Nat) acc lo H, P i acc lo H → k + i = l.length + 1 → i ≤ l.length → ∃ acc' H', D.cl src g t e k i acc lo H = some (acc', H') ∧ Q acc' H' from h _ 0 [] lo H h0 (by simp) (Nat.zero_le _)
  intro k
  induction k with
  | zero => intro i acc lo H hP hk hi; (first | decide | assumption | (exact Nat.le_trans (by assumption) (by decide)) | lia | omega)
  | succ k ih =>
    intro i acc lo H hP hk hi
    simp only [D.cl, hl i acc lo H hP]
    cases hv : l[i]? with
    | none =>
      have : i = l.length := by
        rw [List.getElem?_eq_none_iff] at hv; (first | decide | assumption | (exact Nat.le_trans (by assumption) (by decide)) | lia | omega)
      exact ⟨acc, H, rfl, hQ acc lo H (this ▸ hP)⟩
    | some v =>
      have hlt : i < l.length := (List.getElem?_eq_some_iff.mp hv).1
      obtain ⟨lo1, H1, c, H2, e1, e2, hc⟩ := step i v acc lo H hv hP
      simp only [e1, e2, bnd_some]
      cases c with
      | false => exact ih (i + 1) acc lo1 H2 hc (by (first | decide | assumption | (exact Nat.le_trans (by assumption) (by decide)) | lia | omega)) hlt
      | true =>
        obtain ⟨x, H3, e3, hs, hP3⟩ := hc
        simp only [e3, bnd_some, if_true]
        rw [if_pos (by simpa [small] using hs)]
        exact ih (i + 1) (acc ++ [x]) lo1 H3 hP3 (by (first | decide | assumption | (exact Nat.le_trans (by assumption) (by decide)) | lia | omega)) hlt

theorem cl_pure {src : Src} {g : DT} {t : Lo → St → Option (Bool × St)} {e : DE} {l : List MV} (H : St) (lo : Lo) (lof : MV → Lo) (c : MV → Bool) (f : MV → MV) (hsrc : ∀ i, src H i = some l[i]?) (hl : l.length ≤ 1000000)
    (hg : ∀ v ∈ l, ∀ lo', (lo' = lo ∨ ∃ u ∈ l, lo' = lof u) → g v lo' H = some (lof v, H)) (ht : ∀ v ∈ l, t (lof v) H = some (c v, H)) (he : ∀ v ∈ l, c v = true → e (lof v) H = some (f v, H)) :
    D.cl src g t e (l.length + 1) 0 [] lo H = some ((l.filter c).map f, H) := by
  obtain ⟨acc, H', h1, h2, h3⟩ := cl_rule (src := src) (g := g) (t := t) (e := e) (l := l) (fun i acc lo' H' => H' = H ∧ (lo' = lo ∨ ∃ u ∈ l, lo' = lof u) ∧ acc = ((l.take i).filter c).map f) (Q := fun acc H' => H' = H ∧ acc = (l.filter c).map f)
    (fun i acc lo' H' ⟨h, _, _⟩ => by rw [h]; exact hsrc i)
    (fun i v acc lo' H' hv ⟨h1, h2, h3⟩ => by
      subst h1
      have hm := List.mem_of_getElem? hv
      refine ⟨lof v, H', c v, H', hg v hm lo' h2, ht v hm, ?_⟩
      have hlt : i < l.length := (List.getElem?_eq_some_iff.mp hv).1
      cases hc : c v with
      | false =>
        rw [if_neg (by simp)]
        exact ⟨rfl, .inr ⟨v, hm, rfl⟩, by rw [h3, take_succ_filter c l i v hv, hc]; simp⟩
      | true =>
        rw [if_pos rfl]
        refine ⟨f v, H', he v hm hc, ?_, rfl, .inr ⟨v, hm, rfl⟩, by rw [h3, take_succ_filter c l i v hv, hc]; simp⟩
        rw [h3, List.length_map]
        have := List.length_filter_le c (l.take i)
        rw [List.length_take] at this
        (first | decide | assumption | (exact Nat.le_trans (by assumption) (by decide)) | lia | omega))
    (fun acc lo' H' ⟨h1, _, h3⟩ => ⟨h1, by rw [h3, List.take_length]⟩) (lo := lo) (H := H) ⟨rfl, .inl rfl, by simp⟩
  rw [h1, h2, h3]

theorem Turn.mono {x : Option Res} {P P' Q Q' : Lo → St → Prop} {R R' : MV → Lo → St → Prop} (h : Turn x P Q R) (hP : ∀ lo H, P lo H → P' lo H) (hQ : ∀ lo H, Q lo H → Q' lo H) (hR : ∀ v lo H, R v lo H → R' v lo H) : Turn x P' Q' R' := by
  unfold Turn at h ⊢
  split at h
  · exact hP _ _ h
  · exact hP _ _ h
  · exact hQ _ _ h
  · exact hR _ _ _ h
  · exact h
theorem Ends.next {x : Option Res} {P : Lo → St → Prop} (h : Ends x P fun _ _ _ => False) : ∃ lo H, x = some (.next, lo, H) ∧ P lo H := by
  unfold Ends at h
  split at h
  · exact ⟨_, _, rfl, h⟩
  · exact h.elim
  · exact h.elim
theorem Ends.both {x : Option Res} {P : Lo → St → Prop} {R : MV → Lo → St → Prop} (h : Ends x P R) : (∃ lo H, x = some (.next, lo, H) ∧ P lo H) ∨ ∃ v lo H, x = some (.ret v, lo, H) ∧ R v lo H := by
  unfold Ends at h
  split at h
  · exact .inl ⟨_, _, rfl, h⟩
  · exact .inr ⟨_, _, _, rfl, h⟩
  · exact h.elim
end Mine
namespace Mine

noncomputable def topSt (i : Nat) : Stmt := PySem.Challenge.rw_qz0012_01.prog.main.body.getD i (.Pass default)
noncomputable def inSt (i j : Nat) : Stmt := match topSt i with
  | .ClassDef _ _ _ b _ _ _ _ _ _ _ => b.getD j (.Pass default)
  | s => s
noncomputable def fObj (st : Stmt) (qual : Str) (dV pm : Value) (cd : Addr) : Obj := match st with
  | .FunctionDef name args body _ _ _ scope _ _ _ => { cls := .type "function", data := .func { name := name, qualname := qual, params := args, body := .stmts body, scope := scope, globals := 3, closure := [], defaults := dV, kwdefaults := .none, pyModule := pm, code := .ref cd } }
  | _ => default
noncomputable def ob_3 (P : Params) : Obj := { cls := Value.type "dict", data := Data.dict #[{ hash := PyData.keyHash P (Str.ofString "__name__"), key := Value.str (Str.ofString "__name__") 165, val := Value.str (Str.ofString "law_qz0012_01") 595 }, { hash := PyData.keyHash P (Str.ofString "__doc__"), key := Value.str (Str.ofString "__doc__") 166, val := Value.none }, { hash := PyData.keyHash P (Str.ofString "__package__"), key := Value.str (Str.ofString "__package__") 167, val := Value.none }, { hash := PyData.keyHash P (Str.ofString "__loader__"), key := Value.str (Str.ofString "__loader__") 168, val := Value.builtin "__main__.__loader__#opaque" }, { hash := PyData.keyHash P (Str.ofString "__spec__"), key := Value.str (Str.ofString "__spec__") 169, val := Value.none }, { hash := PyData.keyHash P (Str.ofString "__annotations__"), key := Value.str (Str.ofString "__annotations__") 170, val := Value.ref 6 }, { hash := PyData.keyHash P (Str.ofString "__builtins__"), key := Value.str (Str.ofString "__builtins__") 171, val := Value.ref 4 }, { hash := PyData.keyHash P (Str.ofString "__file__"), key := Value.str (Str.ofString "__file__") 173, val := Value.str (Str.ofString "/claim/cut.py") 172 }, { hash := PyData.keyHash P (Str.ofString "__cached__"), key := Value.str (Str.ofString "__cached__") 174, val := Value.none }, { hash := PyData.keyHash P (Str.ofString "_wall"), key := Value.str (Str.ofString "_wall") 193, val := Value.ref 21 }, { hash := PyData.keyHash P (Str.ofString "FIRST_STEP"), key := Value.str (Str.ofString "FIRST_STEP") 197, val := Value.int 1024 196 }, { hash := PyData.keyHash P (Str.ofString "CoreHeap"), key := Value.str (Str.ofString "CoreHeap") 350, val := Value.ref 144 }, { hash := PyData.keyHash P (Str.ofString "UNKNOWN"), key := Value.str (Str.ofString "UNKNOWN") 352, val := Value.int 0 351 }, { hash := PyData.keyHash P (Str.ofString "TRUE"), key := Value.str (Str.ofString "TRUE") 354, val := Value.int 1 353 }, { hash := PyData.keyHash P (Str.ofString "FALSE"), key := Value.str (Str.ofString "FALSE") 357, val := Value.int (-1) 356 }, { hash := PyData.keyHash P (Str.ofString "NO_CLAUSE"), key := Value.str (Str.ofString "NO_CLAUSE") 360, val := Value.int (-1) 359 }, { hash := PyData.keyHash P (Str.ofString "place_of"), key := Value.str (Str.ofString "place_of") 367, val := Value.ref 155 }, { hash := PyData.keyHash P (Str.ofString "order_key"), key := Value.str (Str.ofString "order_key") 374, val := Value.ref 162 }, { hash := PyData.keyHash P (Str.ofString "Trail"), key := Value.str (Str.ofString "Trail") 594, val := Value.ref 319 }, { hash := PyData.keyHash P (Str.ofString "_law_next"), key := Value.str (Str.ofString "_law_next") 605, val := Value.ref 330 }, { hash := PyData.keyHash P (Str.ofString "_law_lits"), key := Value.str (Str.ofString "_law_lits") 611, val := Value.ref 335 }, { hash := PyData.keyHash P (Str.ofString "_law_core"), key := Value.str (Str.ofString "_law_core") 617, val := Value.ref 340 }, { hash := PyData.keyHash P (Str.ofString "_law_read"), key := Value.str (Str.ofString "_law_read") 623, val := Value.ref 345 }, { hash := PyData.keyHash P (Str.ofString "_law_is_looked_right"), key := Value.str (Str.ofString "_law_is_looked_right") 629, val := Value.ref 350 }, { hash := PyData.keyHash P (Str.ofString "law"), key := Value.str (Str.ofString "law") 635, val := Value.ref 355 }] 25 }
noncomputable def ob_144 (P : Params) : Obj := { cls := Value.type "type", data := Data.cls { name := Str.ofString "CoreHeap", bases := [Value.type "object"], mro := [Value.ref 144, Value.type "object"], ns := 143, qualname := Str.ofString "CoreHeap" }, slots := #[none, none, some (Value.str (Str.ofString "CoreHeap") 198), some (Value.str (Str.ofString "CoreHeap") 206), some (Value.builtin "object.__new__"), some (Value.bool true)] }
noncomputable def ob_143 (P : Params) : Obj := { cls := Value.type "dict", data := Data.dict #[{ hash := PyData.keyHash P (Str.ofString "__module__"), key := Value.str (Str.ofString "__module__") 205, val := Value.str (Str.ofString "minismt.sattrail") 194 }, { hash := PyData.keyHash P (Str.ofString "__firstlineno__"), key := Value.str (Str.ofString "__firstlineno__") 209, val := Value.int 6 208 }, { hash := PyData.keyHash P (Str.ofString "__init__"), key := Value.str (Str.ofString "__init__") 218, val := Value.ref 36 }, { hash := PyData.keyHash P (Str.ofString "many"), key := Value.str (Str.ofString "many") 225, val := Value.ref 43 }, { hash := PyData.keyHash P (Str.ofString "is_held"), key := Value.str (Str.ofString "is_held") 233, val := Value.ref 50 }, { hash := PyData.keyHash P (Str.ofString "is_before"), key := Value.str (Str.ofString "is_before") 242, val := Value.ref 57 }, { hash := PyData.keyHash P (Str.ofString "grow"), key := Value.str (Str.ofString "grow") 250, val := Value.ref 64 }, { hash := PyData.keyHash P (Str.ofString "put"), key := Value.str (Str.ofString "put") 259, val := Value.ref 71 }, { hash := PyData.keyHash P (Str.ofString "rise"), key := Value.str (Str.ofString "rise") 269, val := Value.ref 78 }, { hash := PyData.keyHash P (Str.ofString "better_child"), key := Value.str (Str.ofString "better_child") 277, val := Value.ref 85 }, { hash := PyData.keyHash P (Str.ofString "sink"), key := Value.str (Str.ofString "sink") 285, val := Value.ref 92 }, { hash := PyData.keyHash P (Str.ofString "push"), key := Value.str (Str.ofString "push") 293, val := Value.ref 99 }, { hash := PyData.keyHash P (Str.ofString "pop"), key := Value.str (Str.ofString "pop") 300, val := Value.ref 106 }, { hash := PyData.keyHash P (Str.ofString "pop_best"), key := Value.str (Str.ofString "pop_best") 308, val := Value.ref 113 }, { hash := PyData.keyHash P (Str.ofString "bump"), key := Value.str (Str.ofString "bump") 316, val := Value.ref 120 }, { hash := PyData.keyHash P (Str.ofString "decay"), key := Value.str (Str.ofString "decay") 323, val := Value.ref 127 }, { hash := PyData.keyHash P (Str.ofString "rescale"), key := Value.str (Str.ofString "rescale") 330, val := Value.ref 134 }, { hash := PyData.keyHash P (Str.ofString "rebuild"), key := Value.str (Str.ofString "rebuild") 337, val := Value.ref 141 }, { hash := PyData.keyHash P (Str.ofString "__static_attributes__"), key := Value.str (Str.ofString "__static_attributes__") 343, val := Value.ref 142 }, { hash := PyData.keyHash P (Str.ofString "__dict__"), key := Value.str (Str.ofString "__dict__") 345, val := Value.ref 145 }, { hash := PyData.keyHash P (Str.ofString "__weakref__"), key := Value.str (Str.ofString "__weakref__") 347, val := Value.ref 146 }, { hash := PyData.keyHash P (Str.ofString "__doc__"), key := Value.str (Str.ofString "__doc__") 348, val := Value.none }] 4 }
noncomputable def ob_319 (P : Params) : Obj := { cls := Value.type "type", data := Data.cls { name := Str.ofString "Trail", bases := [Value.type "object"], mro := [Value.ref 319, Value.type "object"], ns := 318, qualname := Str.ofString "Trail" }, slots := #[none, none, some (Value.str (Str.ofString "Trail") 375), some (Value.str (Str.ofString "Trail") 383), some (Value.builtin "object.__new__"), some (Value.bool true)] }
noncomputable def ob_318 (P : Params) : Obj := { cls := Value.type "dict", data := Data.dict #[{ hash := PyData.keyHash P (Str.ofString "__module__"), key := Value.str (Str.ofString "__module__") 382, val := Value.str (Str.ofString "minismt.sattrail") 194 }, { hash := PyData.keyHash P (Str.ofString "__firstlineno__"), key := Value.str (Str.ofString "__firstlineno__") 386, val := Value.int 84 385 }, { hash := PyData.keyHash P (Str.ofString "__init__"), key := Value.str (Str.ofString "__init__") 394, val := Value.ref 176 }, { hash := PyData.keyHash P (Str.ofString "grow"), key := Value.str (Str.ofString "grow") 402, val := Value.ref 183 }, { hash := PyData.keyHash P (Str.ofString "var_count"), key := Value.str (Str.ofString "var_count") 409, val := Value.ref 190 }, { hash := PyData.keyHash P (Str.ofString "value"), key := Value.str (Str.ofString "value") 417, val := Value.ref 197 }, { hash := PyData.keyHash P (Str.ofString "depth"), key := Value.str (Str.ofString "depth") 424, val := Value.ref 204 }, { hash := PyData.keyHash P (Str.ofString "spot_of"), key := Value.str (Str.ofString "spot_of") 432, val := Value.ref 211 }, { hash := PyData.keyHash P (Str.ofString "by_spots"), key := Value.str (Str.ofString "by_spots") 440, val := Value.ref 218 }, { hash := PyData.keyHash P (Str.ofString "store"), key := Value.str (Str.ofString "store") 451, val := Value.ref 225 }, { hash := PyData.keyHash P (Str.ofString "watch"), key := Value.str (Str.ofString "watch") 460, val := Value.ref 232 }, { hash := PyData.keyHash P (Str.ofString "unwatch"), key := Value.str (Str.ofString "unwatch") 468, val := Value.ref 239 }, { hash := PyData.keyHash P (Str.ofString "height"), key := Value.str (Str.ofString "height") 476, val := Value.ref 246 }, { hash := PyData.keyHash P (Str.ofString "by_heights"), key := Value.str (Str.ofString "by_heights") 485, val := Value.ref 253 }, { hash := PyData.keyHash P (Str.ofString "top_level"), key := Value.str (Str.ofString "top_level") 493, val := Value.ref 260 }, { hash := PyData.keyHash P (Str.ofString "place"), key := Value.str (Str.ofString "place") 502, val := Value.ref 267 }, { hash := PyData.keyHash P (Str.ofString "enqueue"), key := Value.str (Str.ofString "enqueue") 512, val := Value.ref 274 }, { hash := PyData.keyHash P (Str.ofString "new_level"), key := Value.str (Str.ofString "new_level") 519, val := Value.ref 281 }, { hash := PyData.keyHash P (Str.ofString "cancel_until"), key := Value.str (Str.ofString "cancel_until") 531, val := Value.ref 288 }, { hash := PyData.keyHash P (Str.ofString "propagate_clauses"), key := Value.str (Str.ofString "propagate_clauses") 538, val := Value.ref 295 }, { hash := PyData.keyHash P (Str.ofString "visit"), key := Value.str (Str.ofString "visit") 552, val := Value.ref 302 }, { hash := PyData.keyHash P (Str.ofString "moved"), key := Value.str (Str.ofString "moved") 562, val := Value.ref 309 }, { hash := PyData.keyHash P (Str.ofString "is_sound"), key := Value.str (Str.ofString "is_sound") 569, val := Value.ref 316 }, { hash := PyData.keyHash P (Str.ofString "__static_attributes__"), key := Value.str (Str.ofString "__static_attributes__") 587, val := Value.ref 317 }, { hash := PyData.keyHash P (Str.ofString "__dict__"), key := Value.str (Str.ofString "__dict__") 589, val := Value.ref 320 }, { hash := PyData.keyHash P (Str.ofString "__weakref__"), key := Value.str (Str.ofString "__weakref__") 591, val := Value.ref 321 }, { hash := PyData.keyHash P (Str.ofString "__doc__"), key := Value.str (Str.ofString "__doc__") 592, val := Value.none }] 4 }
noncomputable def ob_190 (P : Params) : Obj := fObj (inSt 10 2) "Trail.var_count" Value.none (Value.str (Str.ofString "minismt.sattrail") 194) 189
noncomputable def ob_189 (P : Params) : Obj := { cls := Value.type "code", data := Data.fields #[Value.str (Str.ofString "var_count") 403, Value.str (Str.ofString "Trail.var_count") 404, Value.str (Str.ofString "/claim/cut.py") 405, Value.int 117 0, Value.int 1 0, Value.int 0 0, Value.int 0 0, Value.int 3 0, Value.ref 184, Value.bool true, Value.int 181 0, Value.ref 185, Value.none, Value.ref 186, Value.ref 187, Value.ref 188, Value.int 407 0, Value.int 117 0, Value.str (Str.ofString "/claim/cut.py") 408] }
noncomputable def ob_197 (P : Params) : Obj := fObj (inSt 10 3) "Trail.value" Value.none (Value.str (Str.ofString "minismt.sattrail") 194) 196
noncomputable def ob_196 (P : Params) : Obj := { cls := Value.type "code", data := Data.fields #[Value.str (Str.ofString "value") 410, Value.str (Str.ofString "Trail.value") 411, Value.str (Str.ofString "/claim/cut.py") 412, Value.int 120 0, Value.int 2 0, Value.int 0 0, Value.int 0 0, Value.int 3 0, Value.ref 191, Value.bool true, Value.int 181 0, Value.ref 192, Value.none, Value.ref 193, Value.ref 194, Value.ref 195, Value.int 415 0, Value.int 120 0, Value.str (Str.ofString "/claim/cut.py") 416] }
noncomputable def ob_155 (P : Params) : Obj := fObj (topSt 8) "place_of" Value.none (Value.str (Str.ofString "minismt.sattrail") 194) 154
noncomputable def ob_154 (P : Params) : Obj := { cls := Value.type "code", data := Data.fields #[Value.str (Str.ofString "place_of") 361, Value.str (Str.ofString "place_of") 362, Value.str (Str.ofString "/claim/cut.py") 363, Value.int 80 0, Value.int 1 0, Value.int 0 0, Value.int 0 0, Value.int 3 0, Value.ref 149, Value.bool true, Value.int 181 0, Value.ref 150, Value.none, Value.ref 151, Value.ref 152, Value.ref 153, Value.int 365 0, Value.int 80 0, Value.str (Str.ofString "/claim/cut.py") 366] }
noncomputable def ob_204 (P : Params) : Obj := fObj (inSt 10 4) "Trail.depth" Value.none (Value.str (Str.ofString "minismt.sattrail") 194) 203
noncomputable def ob_203 (P : Params) : Obj := { cls := Value.type "code", data := Data.fields #[Value.str (Str.ofString "depth") 418, Value.str (Str.ofString "Trail.depth") 419, Value.str (Str.ofString "/claim/cut.py") 420, Value.int 123 0, Value.int 1 0, Value.int 0 0, Value.int 0 0, Value.int 3 0, Value.ref 198, Value.bool true, Value.int 181 0, Value.ref 199, Value.none, Value.ref 200, Value.ref 201, Value.ref 202, Value.int 422 0, Value.int 123 0, Value.str (Str.ofString "/claim/cut.py") 423] }
noncomputable def ob_274 (P : Params) : Obj := fObj (inSt 10 14) "Trail.enqueue" Value.none (Value.str (Str.ofString "minismt.sattrail") 194) 273
noncomputable def ob_273 (P : Params) : Obj := { cls := Value.type "code", data := Data.fields #[Value.str (Str.ofString "enqueue") 503, Value.str (Str.ofString "Trail.enqueue") 504, Value.str (Str.ofString "/claim/cut.py") 505, Value.int 180 0, Value.int 3 0, Value.int 0 0, Value.int 0 0, Value.int 3 0, Value.ref 268, Value.bool true, Value.int 181 0, Value.ref 269, Value.none, Value.ref 270, Value.ref 271, Value.ref 272, Value.int 510 0, Value.int 180 0, Value.str (Str.ofString "/claim/cut.py") 511] }
noncomputable def ob_309 (P : Params) : Obj := fObj (inSt 10 19) "Trail.moved" Value.none (Value.str (Str.ofString "minismt.sattrail") 194) 308
noncomputable def ob_308 (P : Params) : Obj := { cls := Value.type "code", data := Data.fields #[Value.str (Str.ofString "moved") 553, Value.str (Str.ofString "Trail.moved") 554, Value.str (Str.ofString "/claim/cut.py") 555, Value.int 235 0, Value.int 3 0, Value.int 0 0, Value.int 0 0, Value.int 3 0, Value.ref 303, Value.bool true, Value.int 181 0, Value.ref 304, Value.none, Value.ref 305, Value.ref 306, Value.ref 307, Value.int 560 0, Value.int 235 0, Value.str (Str.ofString "/claim/cut.py") 561] }
noncomputable def ob_302 (P : Params) : Obj := fObj (inSt 10 18) "Trail.visit" Value.none (Value.str (Str.ofString "minismt.sattrail") 194) 301
noncomputable def ob_301 (P : Params) : Obj := { cls := Value.type "code", data := Data.fields #[Value.str (Str.ofString "visit") 539, Value.str (Str.ofString "Trail.visit") 540, Value.str (Str.ofString "/claim/cut.py") 541, Value.int 214 0, Value.int 2 0, Value.int 0 0, Value.int 0 0, Value.int 3 0, Value.ref 296, Value.bool true, Value.int 181 0, Value.ref 297, Value.none, Value.ref 298, Value.ref 299, Value.ref 300, Value.int 550 0, Value.int 214 0, Value.str (Str.ofString "/claim/cut.py") 551] }
noncomputable def ob_345 (P : Params) : Obj := fObj (topSt 15) "_law_read" Value.none (Value.str (Str.ofString "law_qz0012_01") 595) 344
noncomputable def ob_344 (P : Params) : Obj := { cls := Value.type "code", data := Data.fields #[Value.str (Str.ofString "_law_read") 618, Value.str (Str.ofString "_law_read") 619, Value.str (Str.ofString "/claim/cut.py") 620, Value.int 276 0, Value.int 2 0, Value.int 0 0, Value.int 0 0, Value.int 3 0, Value.ref 341, Value.bool true, Value.int 181 0, Value.ref 342, Value.none, Value.none, Value.none, Value.ref 343, Value.int 621 0, Value.int 276 0, Value.str (Str.ofString "/claim/cut.py") 622] }
noncomputable def ob_350 (P : Params) : Obj := fObj (topSt 16) "_law_is_looked_right" Value.none (Value.str (Str.ofString "law_qz0012_01") 595) 349
noncomputable def ob_349 (P : Params) : Obj := { cls := Value.type "code", data := Data.fields #[Value.str (Str.ofString "_law_is_looked_right") 624, Value.str (Str.ofString "_law_is_looked_right") 625, Value.str (Str.ofString "/claim/cut.py") 626, Value.int 299 0, Value.int 2 0, Value.int 0 0, Value.int 0 0, Value.int 3 0, Value.ref 346, Value.bool true, Value.int 181 0, Value.ref 347, Value.none, Value.none, Value.none, Value.ref 348, Value.int 627 0, Value.int 299 0, Value.str (Str.ofString "/claim/cut.py") 628] }
noncomputable def ob_330 (P : Params) : Obj := fObj (topSt 12) "_law_next" Value.none (Value.str (Str.ofString "law_qz0012_01") 595) 329
noncomputable def ob_329 (P : Params) : Obj := { cls := Value.type "code", data := Data.fields #[Value.str (Str.ofString "_law_next") 597, Value.str (Str.ofString "_law_next") 598, Value.str (Str.ofString "/claim/cut.py") 599, Value.int 246 0, Value.int 2 0, Value.int 0 0, Value.int 0 0, Value.int 3 0, Value.ref 324, Value.bool true, Value.int 181 0, Value.ref 325, Value.none, Value.ref 326, Value.ref 327, Value.ref 328, Value.int 603 0, Value.int 246 0, Value.str (Str.ofString "/claim/cut.py") 604] }
noncomputable def ob_232 (P : Params) : Obj := fObj (inSt 10 8) "Trail.watch" Value.none (Value.str (Str.ofString "minismt.sattrail") 194) 231
noncomputable def ob_231 (P : Params) : Obj := { cls := Value.type "code", data := Data.fields #[Value.str (Str.ofString "watch") 452, Value.str (Str.ofString "Trail.watch") 453, Value.str (Str.ofString "/claim/cut.py") 454, Value.int 142 0, Value.int 2 0, Value.int 0 0, Value.int 0 0, Value.int 3 0, Value.ref 226, Value.bool true, Value.int 181 0, Value.ref 227, Value.none, Value.ref 228, Value.ref 229, Value.ref 230, Value.int 458 0, Value.int 142 0, Value.str (Str.ofString "/claim/cut.py") 459] }
noncomputable def ob_225 (P : Params) : Obj := fObj (inSt 10 7) "Trail.store" Value.none (Value.str (Str.ofString "minismt.sattrail") 194) 224
noncomputable def ob_224 (P : Params) : Obj := { cls := Value.type "code", data := Data.fields #[Value.str (Str.ofString "store") 441, Value.str (Str.ofString "Trail.store") 442, Value.str (Str.ofString "/claim/cut.py") 443, Value.int 132 0, Value.int 4 0, Value.int 0 0, Value.int 0 0, Value.int 3 0, Value.ref 219, Value.bool true, Value.int 181 0, Value.ref 220, Value.none, Value.ref 221, Value.ref 222, Value.ref 223, Value.int 449 0, Value.int 132 0, Value.str (Str.ofString "/claim/cut.py") 450] }
noncomputable def ob_335 (P : Params) : Obj := fObj (topSt 13) "_law_lits" Value.none (Value.str (Str.ofString "law_qz0012_01") 595) 334
noncomputable def ob_334 (P : Params) : Obj := { cls := Value.type "code", data := Data.fields #[Value.str (Str.ofString "_law_lits") 606, Value.str (Str.ofString "_law_lits") 607, Value.str (Str.ofString "/claim/cut.py") 608, Value.int 250 0, Value.int 2 0, Value.int 0 0, Value.int 0 0, Value.int 3 0, Value.ref 331, Value.bool true, Value.int 181 0, Value.ref 332, Value.none, Value.none, Value.none, Value.ref 333, Value.int 609 0, Value.int 250 0, Value.str (Str.ofString "/claim/cut.py") 610] }
noncomputable def ob_281 (P : Params) : Obj := fObj (inSt 10 15) "Trail.new_level" Value.none (Value.str (Str.ofString "minismt.sattrail") 194) 280
noncomputable def ob_280 (P : Params) : Obj := { cls := Value.type "code", data := Data.fields #[Value.str (Str.ofString "new_level") 513, Value.str (Str.ofString "Trail.new_level") 514, Value.str (Str.ofString "/claim/cut.py") 515, Value.int 188 0, Value.int 1 0, Value.int 0 0, Value.int 0 0, Value.int 3 0, Value.ref 275, Value.bool true, Value.int 181 0, Value.ref 276, Value.none, Value.ref 277, Value.ref 278, Value.ref 279, Value.int 517 0, Value.int 188 0, Value.str (Str.ofString "/claim/cut.py") 518] }
noncomputable def ob_43 (P : Params) : Obj := fObj (inSt 3 1) "CoreHeap.many" Value.none (Value.str (Str.ofString "minismt.sattrail") 194) 42
noncomputable def ob_42 (P : Params) : Obj := { cls := Value.type "code", data := Data.fields #[Value.str (Str.ofString "many") 219, Value.str (Str.ofString "CoreHeap.many") 220, Value.str (Str.ofString "/claim/cut.py") 221, Value.int 15 0, Value.int 1 0, Value.int 0 0, Value.int 0 0, Value.int 3 0, Value.ref 37, Value.bool true, Value.int 181 0, Value.ref 38, Value.none, Value.ref 39, Value.ref 40, Value.ref 41, Value.int 223 0, Value.int 15 0, Value.str (Str.ofString "/claim/cut.py") 224] }
noncomputable def ob_71 (P : Params) : Obj := fObj (inSt 3 5) "CoreHeap.put" Value.none (Value.str (Str.ofString "minismt.sattrail") 194) 70
noncomputable def ob_70 (P : Params) : Obj := { cls := Value.type "code", data := Data.fields #[Value.str (Str.ofString "put") 251, Value.str (Str.ofString "CoreHeap.put") 252, Value.str (Str.ofString "/claim/cut.py") 253, Value.int 32 0, Value.int 3 0, Value.int 0 0, Value.int 0 0, Value.int 3 0, Value.ref 65, Value.bool true, Value.int 181 0, Value.ref 66, Value.none, Value.ref 67, Value.ref 68, Value.ref 69, Value.int 257 0, Value.int 32 0, Value.str (Str.ofString "/claim/cut.py") 258] }
noncomputable def ob_57 (P : Params) : Obj := fObj (inSt 3 3) "CoreHeap.is_before" Value.none (Value.str (Str.ofString "minismt.sattrail") 194) 56
noncomputable def ob_56 (P : Params) : Obj := { cls := Value.type "code", data := Data.fields #[Value.str (Str.ofString "is_before") 234, Value.str (Str.ofString "CoreHeap.is_before") 235, Value.str (Str.ofString "/claim/cut.py") 236, Value.int 21 0, Value.int 3 0, Value.int 0 0, Value.int 0 0, Value.int 3 0, Value.ref 51, Value.bool true, Value.int 181 0, Value.ref 52, Value.none, Value.ref 53, Value.ref 54, Value.ref 55, Value.int 240 0, Value.int 21 0, Value.str (Str.ofString "/claim/cut.py") 241] }
noncomputable def ob_78 (P : Params) : Obj := fObj (inSt 3 6) "CoreHeap.rise" Value.none (Value.str (Str.ofString "minismt.sattrail") 194) 77
noncomputable def ob_77 (P : Params) : Obj := { cls := Value.type "code", data := Data.fields #[Value.str (Str.ofString "rise") 260, Value.str (Str.ofString "CoreHeap.rise") 261, Value.str (Str.ofString "/claim/cut.py") 262, Value.int 36 0, Value.int 2 0, Value.int 0 0, Value.int 0 0, Value.int 3 0, Value.ref 72, Value.bool true, Value.int 181 0, Value.ref 73, Value.none, Value.ref 74, Value.ref 75, Value.ref 76, Value.int 267 0, Value.int 36 0, Value.str (Str.ofString "/claim/cut.py") 268] }
noncomputable def ob_50 (P : Params) : Obj := fObj (inSt 3 2) "CoreHeap.is_held" Value.none (Value.str (Str.ofString "minismt.sattrail") 194) 49
noncomputable def ob_49 (P : Params) : Obj := { cls := Value.type "code", data := Data.fields #[Value.str (Str.ofString "is_held") 226, Value.str (Str.ofString "CoreHeap.is_held") 227, Value.str (Str.ofString "/claim/cut.py") 228, Value.int 18 0, Value.int 2 0, Value.int 0 0, Value.int 0 0, Value.int 3 0, Value.ref 44, Value.bool true, Value.int 181 0, Value.ref 45, Value.none, Value.ref 46, Value.ref 47, Value.ref 48, Value.int 231 0, Value.int 18 0, Value.str (Str.ofString "/claim/cut.py") 232] }
noncomputable def ob_99 (P : Params) : Obj := fObj (inSt 3 9) "CoreHeap.push" Value.none (Value.str (Str.ofString "minismt.sattrail") 194) 98
noncomputable def ob_98 (P : Params) : Obj := { cls := Value.type "code", data := Data.fields #[Value.str (Str.ofString "push") 286, Value.str (Str.ofString "CoreHeap.push") 287, Value.str (Str.ofString "/claim/cut.py") 288, Value.int 52 0, Value.int 2 0, Value.int 0 0, Value.int 0 0, Value.int 3 0, Value.ref 93, Value.bool true, Value.int 181 0, Value.ref 94, Value.none, Value.ref 95, Value.ref 96, Value.ref 97, Value.int 291 0, Value.int 52 0, Value.str (Str.ofString "/claim/cut.py") 292] }
noncomputable def ob_64 (P : Params) : Obj := fObj (inSt 3 4) "CoreHeap.grow" Value.none (Value.str (Str.ofString "minismt.sattrail") 194) 63
noncomputable def ob_63 (P : Params) : Obj := { cls := Value.type "code", data := Data.fields #[Value.str (Str.ofString "grow") 243, Value.str (Str.ofString "CoreHeap.grow") 244, Value.str (Str.ofString "/claim/cut.py") 245, Value.int 26 0, Value.int 2 0, Value.int 0 0, Value.int 0 0, Value.int 3 0, Value.ref 58, Value.bool true, Value.int 181 0, Value.ref 59, Value.none, Value.ref 60, Value.ref 61, Value.ref 62, Value.int 248 0, Value.int 26 0, Value.str (Str.ofString "/claim/cut.py") 249] }
noncomputable def ob_183 (P : Params) : Obj := fObj (inSt 10 1) "Trail.grow" Value.none (Value.str (Str.ofString "minismt.sattrail") 194) 182
noncomputable def ob_182 (P : Params) : Obj := { cls := Value.type "code", data := Data.fields #[Value.str (Str.ofString "grow") 395, Value.str (Str.ofString "Trail.grow") 396, Value.str (Str.ofString "/claim/cut.py") 397, Value.int 105 0, Value.int 1 0, Value.int 0 0, Value.int 0 0, Value.int 3 0, Value.ref 177, Value.bool true, Value.int 181 0, Value.ref 178, Value.none, Value.ref 179, Value.ref 180, Value.ref 181, Value.int 400 0, Value.int 105 0, Value.str (Str.ofString "/claim/cut.py") 401] }
noncomputable def ob_29 (P : Params) : Obj := { cls := Value.type "tuple", data := Data.seq #[Value.int 1000000000000 210] }
noncomputable def ob_36 (P : Params) : Obj := fObj (inSt 3 0) "CoreHeap.__init__" (Value.ref 29) (Value.str (Str.ofString "minismt.sattrail") 194) 35
noncomputable def ob_35 (P : Params) : Obj := { cls := Value.type "code", data := Data.fields #[Value.str (Str.ofString "__init__") 211, Value.str (Str.ofString "CoreHeap.__init__") 212, Value.str (Str.ofString "/claim/cut.py") 213, Value.int 8 0, Value.int 2 0, Value.int 0 0, Value.int 0 0, Value.int 3 0, Value.ref 30, Value.bool true, Value.int 181 0, Value.ref 31, Value.none, Value.ref 32, Value.ref 33, Value.ref 34, Value.int 216 0, Value.int 8 0, Value.str (Str.ofString "/claim/cut.py") 217] }
noncomputable def ob_176 (P : Params) : Obj := fObj (inSt 10 0) "Trail.__init__" Value.none (Value.str (Str.ofString "minismt.sattrail") 194) 175
noncomputable def ob_175 (P : Params) : Obj := { cls := Value.type "code", data := Data.fields #[Value.str (Str.ofString "__init__") 387, Value.str (Str.ofString "Trail.__init__") 388, Value.str (Str.ofString "/claim/cut.py") 389, Value.int 86 0, Value.int 2 0, Value.int 0 0, Value.int 0 0, Value.int 3 0, Value.ref 170, Value.bool true, Value.int 181 0, Value.ref 171, Value.none, Value.ref 172, Value.ref 173, Value.ref 174, Value.int 392 0, Value.int 86 0, Value.str (Str.ofString "/claim/cut.py") 393] }
noncomputable def ob_340 (P : Params) : Obj := fObj (topSt 14) "_law_core" Value.none (Value.str (Str.ofString "law_qz0012_01") 595) 339
noncomputable def ob_339 (P : Params) : Obj := { cls := Value.type "code", data := Data.fields #[Value.str (Str.ofString "_law_core") 612, Value.str (Str.ofString "_law_core") 613, Value.str (Str.ofString "/claim/cut.py") 614, Value.int 261 0, Value.int 1 0, Value.int 0 0, Value.int 0 0, Value.int 3 0, Value.ref 336, Value.bool true, Value.int 181 0, Value.ref 337, Value.none, Value.none, Value.none, Value.ref 338, Value.int 615 0, Value.int 261 0, Value.str (Str.ofString "/claim/cut.py") 616] }
noncomputable def ob_355 (P : Params) : Obj := fObj (topSt 17) "law" Value.none (Value.str (Str.ofString "law_qz0012_01") 595) 354
noncomputable def ob_354 (P : Params) : Obj := { cls := Value.type "code", data := Data.fields #[Value.str (Str.ofString "law") 630, Value.str (Str.ofString "law") 631, Value.str (Str.ofString "/claim/cut.py") 632, Value.int 319 0, Value.int 1 0, Value.int 0 0, Value.int 0 0, Value.int 3 0, Value.ref 351, Value.bool true, Value.int 181 0, Value.ref 352, Value.none, Value.none, Value.none, Value.ref 353, Value.int 633 0, Value.int 319 0, Value.str (Str.ofString "/claim/cut.py") 634] }
noncomputable def K0 (P : Params) : Frag := [(3, ob_3 P), (144, ob_144 P), (143, ob_143 P), (319, ob_319 P), (318, ob_318 P), (190, ob_190 P), (189, ob_189 P), (197, ob_197 P), (196, ob_196 P), (155, ob_155 P), (154, ob_154 P), (204, ob_204 P), (203, ob_203 P), (274, ob_274 P), (273, ob_273 P), (309, ob_309 P), (308, ob_308 P), (302, ob_302 P), (301, ob_301 P), (345, ob_345 P), (344, ob_344 P), (350, ob_350 P), (349, ob_349 P), (330, ob_330 P), (329, ob_329 P), (232, ob_232 P), (231, ob_231 P), (225, ob_225 P), (224, ob_224 P), (335, ob_335 P), (334, ob_334 P), (281, ob_281 P), (280, ob_280 P), (43, ob_43 P), (42, ob_42 P), (71, ob_71 P), (70, ob_70 P), (57, ob_57 P), (56, ob_56 P), (78, ob_78 P), (77, ob_77 P), (50, ob_50 P), (49, ob_49 P), (99, ob_99 P), (98, ob_98 P), (64, ob_64 P), (63, ob_63 P), (183, ob_183 P), (182, ob_182 P), (29, ob_29 P), (36, ob_36 P), (35, ob_35 P), (176, ob_176 P), (175, ob_175 P), (340, ob_340 P), (339, ob_339 P), (355, ob_355 P), (354, ob_354 P)]
noncomputable def ads : List Addr := [3, 144, 143, 319, 318, 190, 189, 197, 196, 155, 154, 204, 203, 274, 273, 309, 308, 302, 301, 345, 344, 350, 349, 330, 329, 232, 231, 225, 224, 335, 334, 281, 280, 43, 42, 71, 70, 57, 56, 78, 77, 50, 49, 99, 98, 64, 63, 183, 182, 29, 36, 35, 176, 175, 340, 339, 355, 354]
set_option genInjectivity false in
structure Par where
  w : World
  base : Heap
  mg : Str → Option Value
  mb : Str → Option Value
  p : Program
  loose : List Str
  KX : (K0 w.params).In base
  T : TopRead p loose mg mb base
noncomputable def names1 : Nat → List Str
  | 0 => ["limit", "step", "activity", "heap", "place"]
  | 1 => ["hook", "assigns", "levels", "reasons", "spots", "phases", "watches", "heap", "trail", "starts", "head", "told", "clauses", "steps", "droppable", "activities", "learnt_count"]
  | _ => ["cells", "spot"]
noncomputable def cls1 : Nat → Option Addr
  | 0 => some 144
  | 1 => some 319
  | _ => none
noncomputable def W1 (p : Par) : Wd := { prog := PySem.Challenge.rw_qz0012_01.row.prog, w := p.w, base := p.base, K := K0 p.w.params, mg := p.mg, mb := p.mb, p := p.p, loose := p.loose, KX := p.KX, T := p.T, names := names1, cls := cls1 }
theorem dic2 (p : Par) : Dic (W1 p) 2 := ⟨rfl, by show (names1 2).Nodup; decide, by show (names1 2).length ≤ 1000; decide⟩
theorem kls0 (p : Par) : Cls (W1 p) 0 144 143 := by
  refine ⟨rfl, ⟨_, _, _, _, _, _, _, _, _, _, _, _, _, _, rfl⟩, by kernel_rfl, by kernel_rfl, by kernel_rfl, by kernel_rfl, ?_, by show (names1 0).Nodup; decide, by show (names1 0).length ≤ 1000; decide⟩
  intro x hx
  have hx : x ∈ (["limit", "step", "activity", "heap", "place"] : List Str) := hx
  simp only [List.mem_cons, List.mem_nil_iff, or_false] at hx
  rcases hx with rfl | rfl | rfl | rfl | rfl
  all_goals exact ⟨by kernel_rfl, by rw [typeLookup_type, builtinLookup_eq_fast]; kernel_rfl⟩
theorem kls1 (p : Par) : Cls (W1 p) 1 319 318 := by
  refine ⟨rfl, ⟨_, _, _, _, _, _, _, _, _, _, _, _, _, _, rfl⟩, by kernel_rfl, by kernel_rfl, by kernel_rfl, by kernel_rfl, ?_, by show (names1 1).Nodup; decide, by show (names1 1).length ≤ 1000; decide⟩
  intro x hx
  have hx : x ∈ (["hook", "assigns", "levels", "reasons", "spots", "phases", "watches", "heap", "trail", "starts", "head", "told", "clauses", "steps", "droppable", "activities", "learnt_count"] : List Str) := hx
  simp only [List.mem_cons, List.mem_nil_iff, or_false] at hx
  rcases hx with rfl | rfl | rfl | rfl | rfl | rfl | rfl | rfl | rfl | rfl | rfl | rfl | rfl | rfl | rfl | rfl | rfl
  all_goals exact ⟨by kernel_rfl, by rw [typeLookup_type, builtinLookup_eq_fast]; kernel_rfl⟩
theorem gi_FALSE (p : Par) : nsIn (W1 p).K mainGlobals "FALSE" = some (some (.int (-1) 356)) := by kernel_rfl
theorem gi_FIRST_STEP (p : Par) : nsIn (W1 p).K mainGlobals "FIRST_STEP" = some (some (.int (1024) 196)) := by kernel_rfl
theorem gi_NO_CLAUSE (p : Par) : nsIn (W1 p).K mainGlobals "NO_CLAUSE" = some (some (.int (-1) 359)) := by kernel_rfl
theorem gi_TRUE (p : Par) : nsIn (W1 p).K mainGlobals "TRUE" = some (some (.int (1) 353)) := by kernel_rfl
theorem gi_UNKNOWN (p : Par) : nsIn (W1 p).K mainGlobals "UNKNOWN" = some (some (.int (0) 351)) := by kernel_rfl
theorem bl_abs (p : Par) : Bl (W1 p) "abs" (.builtin "abs") := ⟨by kernel_rfl, by decide +kernel, by decide, by decide, .inl ⟨_, rfl⟩⟩
theorem bl_enumerate (p : Par) : Bl (W1 p) "enumerate" (.type "enumerate") := ⟨by kernel_rfl, by decide +kernel, by decide, by decide, .inr ⟨_, rfl⟩⟩
theorem bl_len (p : Par) : Bl (W1 p) "len" (.builtin "len") := ⟨by kernel_rfl, by decide +kernel, by decide, by decide, .inl ⟨_, rfl⟩⟩
theorem bl_list (p : Par) : Bl (W1 p) "list" (.type "list") := ⟨by kernel_rfl, by decide +kernel, by decide, by decide, .inr ⟨_, rfl⟩⟩
theorem bl_range (p : Par) : Bl (W1 p) "range" (.type "range") := ⟨by kernel_rfl, by decide +kernel, by decide, by decide, .inr ⟨_, rfl⟩⟩
theorem bl_tuple (p : Par) : Bl (W1 p) "tuple" (.type "tuple") := ⟨by kernel_rfl, by decide +kernel, by decide, by decide, .inr ⟨_, rfl⟩⟩
theorem mk_CoreHeap (p : Par) : Mk (W1 p) "CoreHeap" 144 := ⟨by kernel_rfl, by kernel_rfl, by decide⟩
theorem mk_Trail (p : Par) : Mk (W1 p) "Trail" 319 := ⟨by kernel_rfl, by kernel_rfl, by decide⟩
theorem fn_law_core (p : Par) : Fn (W1 p) "_law_core" 340 := ⟨by kernel_rfl, _, _, (rfl : (K0 p.w.params).lookup 340 = some _), rfl⟩
theorem fn_law_is_looked_right (p : Par) : Fn (W1 p) "_law_is_looked_right" 350 := ⟨by kernel_rfl, _, _, (rfl : (K0 p.w.params).lookup 350 = some _), rfl⟩
theorem fn_law_lits (p : Par) : Fn (W1 p) "_law_lits" 335 := ⟨by kernel_rfl, _, _, (rfl : (K0 p.w.params).lookup 335 = some _), rfl⟩
theorem fn_law_next (p : Par) : Fn (W1 p) "_law_next" 330 := ⟨by kernel_rfl, _, _, (rfl : (K0 p.w.params).lookup 330 = some _), rfl⟩
theorem fn_law_read (p : Par) : Fn (W1 p) "_law_read" 345 := ⟨by kernel_rfl, _, _, (rfl : (K0 p.w.params).lookup 345 = some _), rfl⟩
theorem fn_place_of (p : Par) : Fn (W1 p) "place_of" 155 := ⟨by kernel_rfl, _, _, (rfl : (K0 p.w.params).lookup 155 = some _), rfl⟩
theorem mt_0_grow (p : Par) : Mt (W1 p) 0 144 143 "grow" 64 := ⟨kls0 p, by kernel_rfl, ⟨_, _, (rfl : (K0 p.w.params).lookup 64 = some _), rfl, rfl⟩, ⟨none, by rw [typeLookup_type, builtinLookup_eq_fast]; kernel_rfl⟩, by show ("grow" : Str) ∉ names1 0; decide⟩
theorem mt_0_is_before (p : Par) : Mt (W1 p) 0 144 143 "is_before" 57 := ⟨kls0 p, by kernel_rfl, ⟨_, _, (rfl : (K0 p.w.params).lookup 57 = some _), rfl, rfl⟩, ⟨none, by rw [typeLookup_type, builtinLookup_eq_fast]; kernel_rfl⟩, by show ("is_before" : Str) ∉ names1 0; decide⟩
theorem mt_0_is_held (p : Par) : Mt (W1 p) 0 144 143 "is_held" 50 := ⟨kls0 p, by kernel_rfl, ⟨_, _, (rfl : (K0 p.w.params).lookup 50 = some _), rfl, rfl⟩, ⟨none, by rw [typeLookup_type, builtinLookup_eq_fast]; kernel_rfl⟩, by show ("is_held" : Str) ∉ names1 0; decide⟩
theorem mt_0_many (p : Par) : Mt (W1 p) 0 144 143 "many" 43 := ⟨kls0 p, by kernel_rfl, ⟨_, _, (rfl : (K0 p.w.params).lookup 43 = some _), rfl, rfl⟩, ⟨none, by rw [typeLookup_type, builtinLookup_eq_fast]; kernel_rfl⟩, by show ("many" : Str) ∉ names1 0; decide⟩
theorem mt_0_push (p : Par) : Mt (W1 p) 0 144 143 "push" 99 := ⟨kls0 p, by kernel_rfl, ⟨_, _, (rfl : (K0 p.w.params).lookup 99 = some _), rfl, rfl⟩, ⟨none, by rw [typeLookup_type, builtinLookup_eq_fast]; kernel_rfl⟩, by show ("push" : Str) ∉ names1 0; decide⟩
theorem mt_0_put (p : Par) : Mt (W1 p) 0 144 143 "put" 71 := ⟨kls0 p, by kernel_rfl, ⟨_, _, (rfl : (K0 p.w.params).lookup 71 = some _), rfl, rfl⟩, ⟨none, by rw [typeLookup_type, builtinLookup_eq_fast]; kernel_rfl⟩, by show ("put" : Str) ∉ names1 0; decide⟩
theorem mt_0_rise (p : Par) : Mt (W1 p) 0 144 143 "rise" 78 := ⟨kls0 p, by kernel_rfl, ⟨_, _, (rfl : (K0 p.w.params).lookup 78 = some _), rfl, rfl⟩, ⟨none, by rw [typeLookup_type, builtinLookup_eq_fast]; kernel_rfl⟩, by show ("rise" : Str) ∉ names1 0; decide⟩
theorem mt_1_depth (p : Par) : Mt (W1 p) 1 319 318 "depth" 204 := ⟨kls1 p, by kernel_rfl, ⟨_, _, (rfl : (K0 p.w.params).lookup 204 = some _), rfl, rfl⟩, ⟨none, by rw [typeLookup_type, builtinLookup_eq_fast]; kernel_rfl⟩, by show ("depth" : Str) ∉ names1 1; decide⟩
theorem mt_1_enqueue (p : Par) : Mt (W1 p) 1 319 318 "enqueue" 274 := ⟨kls1 p, by kernel_rfl, ⟨_, _, (rfl : (K0 p.w.params).lookup 274 = some _), rfl, rfl⟩, ⟨none, by rw [typeLookup_type, builtinLookup_eq_fast]; kernel_rfl⟩, by show ("enqueue" : Str) ∉ names1 1; decide⟩
theorem mt_1_grow (p : Par) : Mt (W1 p) 1 319 318 "grow" 183 := ⟨kls1 p, by kernel_rfl, ⟨_, _, (rfl : (K0 p.w.params).lookup 183 = some _), rfl, rfl⟩, ⟨none, by rw [typeLookup_type, builtinLookup_eq_fast]; kernel_rfl⟩, by show ("grow" : Str) ∉ names1 1; decide⟩
theorem mt_1_moved (p : Par) : Mt (W1 p) 1 319 318 "moved" 309 := ⟨kls1 p, by kernel_rfl, ⟨_, _, (rfl : (K0 p.w.params).lookup 309 = some _), rfl, rfl⟩, ⟨none, by rw [typeLookup_type, builtinLookup_eq_fast]; kernel_rfl⟩, by show ("moved" : Str) ∉ names1 1; decide⟩
theorem mt_1_new_level (p : Par) : Mt (W1 p) 1 319 318 "new_level" 281 := ⟨kls1 p, by kernel_rfl, ⟨_, _, (rfl : (K0 p.w.params).lookup 281 = some _), rfl, rfl⟩, ⟨none, by rw [typeLookup_type, builtinLookup_eq_fast]; kernel_rfl⟩, by show ("new_level" : Str) ∉ names1 1; decide⟩
theorem mt_1_store (p : Par) : Mt (W1 p) 1 319 318 "store" 225 := ⟨kls1 p, by kernel_rfl, ⟨_, _, (rfl : (K0 p.w.params).lookup 225 = some _), rfl, rfl⟩, ⟨none, by rw [typeLookup_type, builtinLookup_eq_fast]; kernel_rfl⟩, by show ("store" : Str) ∉ names1 1; decide⟩
theorem mt_1_value (p : Par) : Mt (W1 p) 1 319 318 "value" 197 := ⟨kls1 p, by kernel_rfl, ⟨_, _, (rfl : (K0 p.w.params).lookup 197 = some _), rfl, rfl⟩, ⟨none, by rw [typeLookup_type, builtinLookup_eq_fast]; kernel_rfl⟩, by show ("value" : Str) ∉ names1 1; decide⟩
theorem mt_1_var_count (p : Par) : Mt (W1 p) 1 319 318 "var_count" 190 := ⟨kls1 p, by kernel_rfl, ⟨_, _, (rfl : (K0 p.w.params).lookup 190 = some _), rfl, rfl⟩, ⟨none, by rw [typeLookup_type, builtinLookup_eq_fast]; kernel_rfl⟩, by show ("var_count" : Str) ∉ names1 1; decide⟩
theorem mt_1_visit (p : Par) : Mt (W1 p) 1 319 318 "visit" 302 := ⟨kls1 p, by kernel_rfl, ⟨_, _, (rfl : (K0 p.w.params).lookup 302 = some _), rfl, rfl⟩, ⟨none, by rw [typeLookup_type, builtinLookup_eq_fast]; kernel_rfl⟩, by show ("visit" : Str) ∉ names1 1; decide⟩
theorem mt_1_watch (p : Par) : Mt (W1 p) 1 319 318 "watch" 232 := ⟨kls1 p, by kernel_rfl, ⟨_, _, (rfl : (K0 p.w.params).lookup 232 = some _), rfl, rfl⟩, ⟨none, by rw [typeLookup_type, builtinLookup_eq_fast]; kernel_rfl⟩, by show ("watch" : Str) ∉ names1 1; decide⟩

noncomputable def d_Trail_var_count : DS :=
  (D.seq (D.ret (D.bin o.sub (D.bcall b.len [(D.attr 1 1 (D.loc 0))]) (D.const (.int 1))))
  D.skip)
noncomputable def F_Trail_var_count : DF := D.fn 1 1 [] d_Trail_var_count
theorem fs_Trail_var_count (p : Par) : FS (W1 p) 1 (.ref 190) F_Trail_var_count := by
  refine fs_def' (names := ["self"]) (sl := [some "self"]) (dm := []) (dv := []) (rfl : (K0 p.w.params).lookup 190 = some _) (by kernel_rfl) (fun L => ?_) (fun _ _ => .nil) (fun s ys hl hb => by obtain ⟨a, rfl⟩ := ys1 hl; exact BindsTo.of_eq rfl) (by kernel_rfl)
  unfold d_Trail_var_count
  exact (sb_cons (ss_ret (se_bin ok_sub (se_bl (bl_len p) cb_len (sa_cons (se_attr (kls1 p) (by rfl) (se_loc (by rfl) (.inl (by rfl)) (by rfl)) (by rfl)) sa_nil (by rfl)) (plain_cons (by rfl)) (by rfl) (by rfl)) se_int))
  sb_nil)

noncomputable def d_Trail_value : DS :=
  (D.seq (D.ret (D.ite (D.cmpT .Gt (D.loc 1) (D.const (.int 0))) (D.sub (D.attr 1 1 (D.loc 0)) (D.loc 1)) (D.neg (D.sub (D.attr 1 1 (D.loc 0)) (D.neg (D.loc 1))))))
  D.skip)
noncomputable def F_Trail_value : DF := D.fn 2 2 [] d_Trail_value
theorem fs_Trail_value (p : Par) : FS (W1 p) 1 (.ref 197) F_Trail_value := by
  refine fs_def' (names := ["self", "lit"]) (sl := [some "self", some "lit"]) (dm := []) (dv := []) (rfl : (K0 p.w.params).lookup 197 = some _) (by kernel_rfl) (fun L => ?_) (fun _ _ => .nil) (fun s ys hl hb => by obtain ⟨a, b, rfl⟩ := ys2 hl; exact BindsTo.of_eq rfl) (by kernel_rfl)
  unfold d_Trail_value
  exact (sb_cons (ss_ret (se_ite (st_cmp (se_loc (by rfl) (.inl (by rfl)) (by rfl)) se_int (by rfl)) (se_sub (se_attr (kls1 p) (by rfl) (se_loc (by rfl) (.inl (by rfl)) (by rfl)) (by rfl)) (se_loc (by rfl) (.inl (by rfl)) (by rfl)) (fun _ _ _ => ⟨_, by rfl⟩)) (se_neg (se_sub (se_attr (kls1 p) (by rfl) (se_loc (by rfl) (.inl (by rfl)) (by rfl)) (by rfl)) (se_neg (se_loc (by rfl) (.inl (by rfl)) (by rfl))) (fun _ _ _ => ⟨_, by rfl⟩)))))
  sb_nil)

noncomputable def d_place_of : DS :=
  (D.seq (D.ret (D.ite (D.cmpT .Gt (D.loc 0) (D.const (.int 0))) (D.bin o.mul (D.const (.int 2)) (D.loc 0)) (D.bin o.sub (D.const (.int 1)) (D.bin o.mul (D.const (.int 2)) (D.loc 0)))))
  D.skip)
noncomputable def F_place_of : DF := D.fn 1 1 [] d_place_of
theorem fs_place_of (p : Par) : FS (W1 p) 1 (.ref 155) F_place_of := by
  refine fs_def' (names := ["lit"]) (sl := [some "lit"]) (dm := []) (dv := []) (rfl : (K0 p.w.params).lookup 155 = some _) (by kernel_rfl) (fun L => ?_) (fun _ _ => .nil) (fun s ys hl hb => by obtain ⟨a, rfl⟩ := ys1 hl; exact BindsTo.of_eq rfl) (by kernel_rfl)
  unfold d_place_of
  exact (sb_cons (ss_ret (se_ite (st_cmp (se_loc (by rfl) (.inl (by rfl)) (by rfl)) se_int (by rfl)) (se_bin ok_mul se_int (se_loc (by rfl) (.inl (by rfl)) (by rfl))) (se_bin ok_sub se_int (se_bin ok_mul se_int (se_loc (by rfl) (.inl (by rfl)) (by rfl))))))
  sb_nil)

noncomputable def d_Trail_depth : DS :=
  (D.seq (D.ret (D.bcall b.len [(D.attr 1 9 (D.loc 0))]))
  D.skip)
noncomputable def F_Trail_depth : DF := D.fn 1 1 [] d_Trail_depth
theorem fs_Trail_depth (p : Par) : FS (W1 p) 1 (.ref 204) F_Trail_depth := by
  refine fs_def' (names := ["self"]) (sl := [some "self"]) (dm := []) (dv := []) (rfl : (K0 p.w.params).lookup 204 = some _) (by kernel_rfl) (fun L => ?_) (fun _ _ => .nil) (fun s ys hl hb => by obtain ⟨a, rfl⟩ := ys1 hl; exact BindsTo.of_eq rfl) (by kernel_rfl)
  unfold d_Trail_depth
  exact (sb_cons (ss_ret (se_bl (bl_len p) cb_len (sa_cons (se_attr (kls1 p) (by rfl) (se_loc (by rfl) (.inl (by rfl)) (by rfl)) (by rfl)) sa_nil (by rfl)) (plain_cons (by rfl)) (by rfl) (by rfl)))
  sb_nil)

noncomputable def d_Trail_enqueue : DS :=
  (D.seq (D.assign (D.bcall b.abs [(D.loc 1)]) (D.tname 3))
  (D.seq (D.assign (D.ite (D.cmpT .Gt (D.loc 1) (D.const (.int 0))) (D.const (.int (1))) (D.const (.int (-1)))) (D.tsub (D.attr 1 1 (D.loc 0)) (D.loc 3)))
  (D.seq (D.assign (D.meth 1 F_Trail_depth (D.loc 0) []) (D.tsub (D.attr 1 2 (D.loc 0)) (D.loc 3)))
  (D.seq (D.assign (D.loc 2) (D.tsub (D.attr 1 3 (D.loc 0)) (D.loc 3)))
  (D.seq (D.assign (D.bcall b.len [(D.attr 1 8 (D.loc 0))]) (D.tsub (D.attr 1 4 (D.loc 0)) (D.loc 3)))
  (D.seq (D.expr (D.lmeth m.append (D.attr 1 8 (D.loc 0)) [(D.loc 1)]))
  D.skip))))))
noncomputable def F_Trail_enqueue : DF := D.fn 3 4 [] d_Trail_enqueue
theorem fs_Trail_enqueue (p : Par) : FS (W1 p) 2 (.ref 274) F_Trail_enqueue := by
  refine fs_def' (names := ["self", "lit", "number"]) (sl := [some "self", some "lit", some "number", some "var"]) (dm := []) (dv := []) (rfl : (K0 p.w.params).lookup 274 = some _) (by kernel_rfl) (fun L => ?_) (fun _ _ => .nil) (fun s ys hl hb => by obtain ⟨a, b, c, rfl⟩ := ys3 hl; exact BindsTo.of_eq rfl) (by kernel_rfl)
  unfold d_Trail_enqueue
  exact (sb_cons (ss_assign (se_bl (bl_abs p) cb_abs (sa_cons (se_loc (by rfl) (.inl (by rfl)) (by rfl)) sa_nil (by rfl)) (plain_cons (by rfl)) (by rfl) (by rfl)) (tn_loc (by rfl) (by rfl) (.head _)) (by rfl) (by rfl) (by rfl))
  (sb_cons (ss_assign (se_ite (st_cmp (se_loc (by rfl) (.inl (by rfl)) (by rfl)) se_int (by rfl)) (se_globInt (gi_TRUE p) (by rfl) (by rfl)) (se_globInt (gi_FALSE p) (by rfl) (by rfl))) (tg_sub (se_attr (kls1 p) (by rfl) (se_loc (by rfl) (.inl (by rfl)) (by rfl)) (by rfl)) (se_loc (by rfl) (.inl (by rfl)) (by rfl))) (by rfl) (by rfl) (by rfl))
  (sb_cons (ss_assign (se_mt (mt_1_depth p) (fs_Trail_depth p) (se_loc (by rfl) (.inl (by rfl)) (by rfl)) sa_nil plain_nil (by decide) (by rfl)) (tg_sub (se_attr (kls1 p) (by rfl) (se_loc (by rfl) (.inl (by rfl)) (by rfl)) (by rfl)) (se_loc (by rfl) (.inl (by rfl)) (by rfl))) (by rfl) (by rfl) (by rfl))
  (sb_cons (ss_assign (se_loc (by rfl) (.inl (by rfl)) (by rfl)) (tg_sub (se_attr (kls1 p) (by rfl) (se_loc (by rfl) (.inl (by rfl)) (by rfl)) (by rfl)) (se_loc (by rfl) (.inl (by rfl)) (by rfl))) (by rfl) (by rfl) (by rfl))
  (sb_cons (ss_assign (se_bl (bl_len p) cb_len (sa_cons (se_attr (kls1 p) (by rfl) (se_loc (by rfl) (.inl (by rfl)) (by rfl)) (by rfl)) sa_nil (by rfl)) (plain_cons (by rfl)) (by rfl) (by rfl)) (tg_sub (se_attr (kls1 p) (by rfl) (se_loc (by rfl) (.inl (by rfl)) (by rfl)) (by rfl)) (se_loc (by rfl) (.inl (by rfl)) (by rfl))) (by rfl) (by rfl) (by rfl))
  (sb_cons (ss_expr (se_lmeth cm_append PySem.F.slot_list_append PySem.F.type_list_append (se_attr (kls1 p) (by rfl) (se_loc (by rfl) (.inl (by rfl)) (by rfl)) (by rfl)) (sa_cons (se_loc (by rfl) (.inl (by rfl)) (by rfl)) sa_nil (by rfl)) (by rfl) (plain_cons (by rfl)) (by rfl)) (by rfl) (by rfl))
  sb_nil))))))

noncomputable def b1_Trail_moved : DS :=
  (D.seq (D.ifs (D.cmpT .NotEq (D.meth 1 F_Trail_value (D.loc 0) [(D.sub (D.loc 2) (D.loc 3))]) (D.const (.int (-1)))) (D.seq (D.assign (D.tup [(D.sub (D.loc 2) (D.loc 3)), (D.sub (D.loc 2) (D.const (.int 1)))]) (D.ttup [(D.tsub (D.loc 2) (D.const (.int 1))), (D.tsub (D.loc 2) (D.loc 3))]))
  (D.seq (D.expr (D.lmeth m.append (D.sub (D.attr 1 6 (D.loc 0)) (D.call F_place_of [(D.sub (D.loc 2) (D.const (.int 1)))])) [(D.loc 1)]))
  (D.seq (D.ret (D.const (.bool true)))
  D.skip))) D.skip)
  D.skip)
noncomputable def d_Trail_moved : DS :=
  (D.seq (D.for (D.bcall b.range [(D.const (.int 2)), (D.bcall b.len [(D.loc 2)])]) (D.tname 3) b1_Trail_moved)
  (D.seq (D.ret (D.const (.bool false)))
  D.skip))
noncomputable def F_Trail_moved : DF := D.fn 3 4 [] d_Trail_moved
theorem fs_Trail_moved (p : Par) : FS (W1 p) 2 (.ref 309) F_Trail_moved := by
  refine fs_def' (names := ["self", "number", "lits"]) (sl := [some "self", some "number", some "lits", some "k"]) (dm := []) (dv := []) (rfl : (K0 p.w.params).lookup 309 = some _) (by kernel_rfl) (fun L => ?_) (fun _ _ => .nil) (fun s ys hl hb => by obtain ⟨a, b, c, rfl⟩ := ys3 hl; exact BindsTo.of_eq rfl) (by kernel_rfl)
  unfold d_Trail_moved
  exact (sb_cons (ss_for (se_bl (bl_range p) cb_range (sa_cons se_int (sa_cons (se_bl (bl_len p) cb_len (sa_cons (se_loc (by rfl) (.inl (by rfl)) (by rfl)) sa_nil (by rfl)) (plain_cons (by rfl)) (by rfl) (by rfl)) sa_nil (by rfl)) (by rfl)) (plain_cons (by rfl)) (by rfl) (by rfl)) (tn_loc (by rfl) (by rfl) (.head _)) (sb_cons (ss_if (st_cmp (se_mt (mt_1_value p) (fs_Trail_value p) (se_loc (by rfl) (.inl (by rfl)) (by rfl)) (sa_cons (se_sub (se_loc (by rfl) (.inl (by rfl)) (by rfl)) (se_loc (by rfl) (.inl (by rfl)) (by rfl)) (fun _ _ _ => ⟨_, by rfl⟩)) sa_nil (by rfl)) (plain_cons (by rfl)) (by decide) (by rfl)) (se_globInt (gi_FALSE p) (by rfl) (by rfl)) (by rfl)) (sb_cons (ss_assign (se_tup (sa_cons (se_sub (se_loc (by rfl) (.inl (by rfl)) (by rfl)) (se_loc (by rfl) (.inl (by rfl)) (by rfl)) (fun _ _ _ => ⟨_, by rfl⟩)) (sa_cons (se_sub (se_loc (by rfl) (.inl (by rfl)) (by rfl)) se_int (fun _ _ _ => ⟨_, by rfl⟩)) sa_nil (by rfl)) (by rfl))) (tg_tup (tgs_cons (tg_sub (se_loc (by rfl) (.inl (by rfl)) (by rfl)) se_int) (tgs_cons (tg_sub (se_loc (by rfl) (.inl (by rfl)) (by rfl)) (se_loc (by rfl) (.inl (by rfl)) (by rfl))) tgs_nil (by rfl)) (by rfl)) (by rfl) (by rfl)) (by rfl) (by rfl) (by rfl))
  (sb_cons (ss_expr (se_lmeth cm_append PySem.F.slot_list_append PySem.F.type_list_append (se_sub (se_attr (kls1 p) (by rfl) (se_loc (by rfl) (.inl (by rfl)) (by rfl)) (by rfl)) (se_fn (fn_place_of p) (fs_place_of p) (sa_cons (se_sub (se_loc (by rfl) (.inl (by rfl)) (by rfl)) se_int (fun _ _ _ => ⟨_, by rfl⟩)) sa_nil (by rfl)) (plain_cons (by rfl)) (by decide) (by rfl) (by rfl)) (fun _ _ _ => ⟨_, by rfl⟩)) (sa_cons (se_loc (by rfl) (.inl (by rfl)) (by rfl)) sa_nil (by rfl)) (by rfl) (plain_cons (by rfl)) (by rfl)) (by rfl) (by rfl))
  (sb_cons (ss_ret se_bool)
  sb_nil))) sb_nil)
  sb_nil) (fun _ => by rfl))
  (sb_cons (ss_ret se_bool)
  sb_nil))

noncomputable def b1_Trail_visit : DS :=
  (D.seq (D.assign (D.sub (D.loc 2) (D.loc 5)) (D.tname 6))
  (D.seq (D.assign (D.sub (D.attr 1 12 (D.loc 0)) (D.loc 6)) (D.tname 7))
  (D.seq (D.ifs (D.cmpT .Is (D.loc 7) (D.const .none)) (D.seq D.cont
  D.skip) D.skip)
  (D.seq (D.ifs (D.cmpT .Eq (D.sub (D.loc 7) (D.const (.int 0))) (D.loc 1)) (D.seq (D.assign (D.tup [(D.sub (D.loc 7) (D.const (.int 1))), (D.loc 1)]) (D.ttup [(D.tsub (D.loc 7) (D.const (.int 0))), (D.tsub (D.loc 7) (D.const (.int 1)))]))
  D.skip) D.skip)
  (D.seq (D.ifs (D.andT (D.cmpT .NotEq (D.meth 1 F_Trail_value (D.loc 0) [(D.sub (D.loc 7) (D.const (.int 0)))]) (D.const (.int (1)))) (D.andT (D.truth (D.meth 1 F_Trail_moved (D.loc 0) [(D.loc 6), (D.loc 7)])) D.tt)) (D.seq D.cont
  D.skip) D.skip)
  (D.seq (D.expr (D.lmeth m.append (D.loc 3) [(D.loc 6)]))
  (D.seq (D.ifs (D.cmpT .Eq (D.meth 1 F_Trail_value (D.loc 0) [(D.sub (D.loc 7) (D.const (.int 0)))]) (D.const (.int (-1)))) (D.seq (D.assign (D.loc 6) (D.tname 4))
  (D.seq (D.expr (D.lmeth m.extend (D.loc 3) [(D.slice (D.loc 2) (some (D.bin o.add (D.loc 5) (D.const (.int 1)))) none none)]))
  (D.seq D.brk
  D.skip))) D.skip)
  (D.seq (D.ifs (D.cmpT .Eq (D.meth 1 F_Trail_value (D.loc 0) [(D.sub (D.loc 7) (D.const (.int 0)))]) (D.const (.int (0)))) (D.seq (D.expr (D.meth 1 F_Trail_enqueue (D.loc 0) [(D.sub (D.loc 7) (D.const (.int 0))), (D.loc 6)]))
  D.skip) D.skip)
  D.skip))))))))
noncomputable def d_Trail_visit : DS :=
  (D.seq (D.swap (D.tup [(D.sub (D.attr 1 6 (D.loc 0)) (D.call F_place_of [(D.loc 1)])), (D.list []), (D.const (.int (-1)))]) [2, 3, 4])
  (D.seq (D.for (D.bcall b.range [(D.bcall b.len [(D.loc 2)])]) (D.tname 5) b1_Trail_visit)
  (D.seq (D.assign (D.loc 3) (D.tsub (D.attr 1 6 (D.loc 0)) (D.call F_place_of [(D.loc 1)])))
  (D.seq (D.ret (D.loc 4))
  D.skip))))
noncomputable def F_Trail_visit : DF := D.fn 2 8 [] d_Trail_visit
theorem fs_Trail_visit (p : Par) : FS (W1 p) 3 (.ref 302) F_Trail_visit := by
  refine fs_def' (names := ["self", "gone"]) (sl := [some "self", some "gone", some "watching", some "kept", some "conflict", some "spot", some "number", some "lits"]) (dm := []) (dv := []) (rfl : (K0 p.w.params).lookup 302 = some _) (by kernel_rfl) (fun L => ?_) (fun _ _ => .nil) (fun s ys hl hb => by obtain ⟨a, b, rfl⟩ := ys2 hl; exact BindsTo.of_eq rfl) (by kernel_rfl)
  unfold d_Trail_visit
  exact (sb_cons (ss_swap (xs := ["watching", "kept", "conflict"]) (se_tup (sa_cons (se_sub (se_attr (kls1 p) (by rfl) (se_loc (by rfl) (.inl (by rfl)) (by rfl)) (by rfl)) (se_fn (fn_place_of p) (fs_place_of p) (sa_cons (se_loc (by rfl) (.inl (by rfl)) (by rfl)) sa_nil (by rfl)) (plain_cons (by rfl)) (by decide) (by rfl) (by rfl)) (fun _ _ _ => ⟨_, by rfl⟩)) (sa_cons (se_list sa_nil) (sa_cons (se_globInt (gi_NO_CLAUSE p) (by rfl) (by rfl)) sa_nil (by rfl)) (by rfl)) (by rfl))) (by rfl) (by rfl) (by rfl) (swap_kinds3 (by rfl) (.inl (by rfl)) (by rfl) (.inl (by rfl)) (by rfl) (.inl (by rfl))))
  (sb_cons (ss_for (se_bl (bl_range p) cb_range (sa_cons (se_bl (bl_len p) cb_len (sa_cons (se_loc (by rfl) (.inl (by rfl)) (by rfl)) sa_nil (by rfl)) (plain_cons (by rfl)) (by rfl) (by rfl)) sa_nil (by rfl)) (plain_cons (by rfl)) (by rfl) (by rfl)) (tn_loc (by rfl) (by rfl) (.head _)) (sb_cons (ss_assign (se_sub (se_loc (by rfl) (.inl (by rfl)) (by rfl)) (se_loc (by rfl) (.inl (by rfl)) (by rfl)) (fun _ _ _ => ⟨_, by rfl⟩)) (tn_loc (by rfl) (by rfl) (.head _)) (by rfl) (by rfl) (by rfl))
  (sb_cons (ss_assign (se_sub (se_attr (kls1 p) (by rfl) (se_loc (by rfl) (.inl (by rfl)) (by rfl)) (by rfl)) (se_loc (by rfl) (.inl (by rfl)) (by rfl)) (fun _ _ _ => ⟨_, by rfl⟩)) (tn_loc (by rfl) (by rfl) (.head _)) (by rfl) (by rfl) (by rfl))
  (sb_cons (ss_if (st_cmp (se_loc (by rfl) (.inl (by rfl)) (by rfl)) se_none (by rfl)) (sb_cons ss_cont
  sb_nil) sb_nil)
  (sb_cons (ss_if (st_cmp (se_sub (se_loc (by rfl) (.inl (by rfl)) (by rfl)) se_int (fun _ _ _ => ⟨_, by rfl⟩)) (se_loc (by rfl) (.inl (by rfl)) (by rfl)) (by rfl)) (sb_cons (ss_assign (se_tup (sa_cons (se_sub (se_loc (by rfl) (.inl (by rfl)) (by rfl)) se_int (fun _ _ _ => ⟨_, by rfl⟩)) (sa_cons (se_loc (by rfl) (.inl (by rfl)) (by rfl)) sa_nil (by rfl)) (by rfl))) (tg_tup (tgs_cons (tg_sub (se_loc (by rfl) (.inl (by rfl)) (by rfl)) se_int) (tgs_cons (tg_sub (se_loc (by rfl) (.inl (by rfl)) (by rfl)) se_int) tgs_nil (by rfl)) (by rfl)) (by rfl) (by rfl)) (by rfl) (by rfl) (by rfl))
  sb_nil) sb_nil)
  (sb_cons (ss_if (st_and (st_cmp (se_mt (mt_1_value p) (fs_Trail_value p) (se_loc (by rfl) (.inl (by rfl)) (by rfl)) (sa_cons (se_sub (se_loc (by rfl) (.inl (by rfl)) (by rfl)) se_int (fun _ _ _ => ⟨_, by rfl⟩)) sa_nil (by rfl)) (plain_cons (by rfl)) (by decide) (by rfl)) (se_globInt (gi_TRUE p) (by rfl) (by rfl)) (by rfl)) (st_and (st_val (se_mt (mt_1_moved p) (fs_Trail_moved p) (se_loc (by rfl) (.inl (by rfl)) (by rfl)) (sa_cons (se_loc (by rfl) (.inl (by rfl)) (by rfl)) (sa_cons (se_loc (by rfl) (.inl (by rfl)) (by rfl)) sa_nil (by rfl)) (by rfl)) (plain_cons (by rfl)) (by decide) (by rfl)) (by rfl)) st_and_nil)) (sb_cons ss_cont
  sb_nil) sb_nil)
  (sb_cons (ss_expr (se_lmeth cm_append PySem.F.slot_list_append PySem.F.type_list_append (se_loc (by rfl) (.inl (by rfl)) (by rfl)) (sa_cons (se_loc (by rfl) (.inl (by rfl)) (by rfl)) sa_nil (by rfl)) (by rfl) (plain_cons (by rfl)) (by rfl)) (by rfl) (by rfl))
  (sb_cons (ss_if (st_cmp (se_mt (mt_1_value p) (fs_Trail_value p) (se_loc (by rfl) (.inl (by rfl)) (by rfl)) (sa_cons (se_sub (se_loc (by rfl) (.inl (by rfl)) (by rfl)) se_int (fun _ _ _ => ⟨_, by rfl⟩)) sa_nil (by rfl)) (plain_cons (by rfl)) (by decide) (by rfl)) (se_globInt (gi_FALSE p) (by rfl) (by rfl)) (by rfl)) (sb_cons (ss_assign (se_loc (by rfl) (.inl (by rfl)) (by rfl)) (tn_loc (by rfl) (by rfl) (.head _)) (by rfl) (by rfl) (by rfl))
  (sb_cons (ss_expr (se_lmeth cm_extend PySem.F.slot_list_extend PySem.F.type_list_extend (se_loc (by rfl) (.inl (by rfl)) (by rfl)) (sa_cons (se_slice (se_loc (by rfl) (.inl (by rfl)) (by rfl)) (sp_some (se_bin ok_add (se_loc (by rfl) (.inl (by rfl)) (by rfl)) se_int)) sp_none sp_none) sa_nil (by rfl)) (by rfl) (plain_cons (by rfl)) (by rfl)) (by rfl) (by rfl))
  (sb_cons ss_brk
  sb_nil))) sb_nil)
  (sb_cons (ss_if (st_cmp (se_mt (mt_1_value p) (fs_Trail_value p) (se_loc (by rfl) (.inl (by rfl)) (by rfl)) (sa_cons (se_sub (se_loc (by rfl) (.inl (by rfl)) (by rfl)) se_int (fun _ _ _ => ⟨_, by rfl⟩)) sa_nil (by rfl)) (plain_cons (by rfl)) (by decide) (by rfl)) (se_globInt (gi_UNKNOWN p) (by rfl) (by rfl)) (by rfl)) (sb_cons (ss_expr (se_mt (mt_1_enqueue p) (fs_Trail_enqueue p) (se_loc (by rfl) (.inl (by rfl)) (by rfl)) (sa_cons (se_sub (se_loc (by rfl) (.inl (by rfl)) (by rfl)) se_int (fun _ _ _ => ⟨_, by rfl⟩)) (sa_cons (se_loc (by rfl) (.inl (by rfl)) (by rfl)) sa_nil (by rfl)) (by rfl)) (plain_cons (by rfl)) (by decide) (by rfl)) (by rfl) (by rfl))
  sb_nil) sb_nil)
  sb_nil)))))))) (fun _ => by rfl))
  (sb_cons (ss_assign (se_loc (by rfl) (.inl (by rfl)) (by rfl)) (tg_sub (se_attr (kls1 p) (by rfl) (se_loc (by rfl) (.inl (by rfl)) (by rfl)) (by rfl)) (se_fn (fn_place_of p) (fs_place_of p) (sa_cons (se_loc (by rfl) (.inl (by rfl)) (by rfl)) sa_nil (by rfl)) (plain_cons (by rfl)) (by decide) (by rfl) (by rfl))) (by rfl) (by rfl) (by rfl))
  (sb_cons (ss_ret (se_loc (by rfl) (.inl (by rfl)) (by rfl)))
  sb_nil))))

noncomputable def b1_law_read : DS :=
  (D.seq (D.ifs (D.cmpT .NotEq (D.loc 4) (D.neg (D.const (.int 1)))) (D.seq (D.expr (D.lmeth m.append (D.loc 5) [(D.loc 8)]))
  D.skip) (D.seq (D.ifs (D.cmpT .IsNot (D.sub (D.loc 3) (D.loc 8)) (D.const .none)) (D.seq (D.assign (D.ite (D.cmpT .Eq (D.sub (D.sub (D.loc 3) (D.loc 8)) (D.const (.int 1))) (D.loc 1)) (D.sub (D.sub (D.loc 3) (D.loc 8)) (D.const (.int 0))) (D.sub (D.sub (D.loc 3) (D.loc 8)) (D.const (.int 1)))) (D.tname 9))
  (D.seq (D.assign (D.slice (D.sub (D.loc 3) (D.loc 8)) (some (D.const (.int 2))) none none) (D.tname 10))
  (D.seq (D.assign (D.ite (D.cmpT .In (D.loc 9) (D.loc 2)) (D.list []) (D.comp 12 1 (D.loc 10) (D.tname 12) (D.cmpT .NotIn (D.neg (D.loc 12)) (D.loc 2)) (D.loc 12))) (D.tname 11))
  (D.seq (D.ifs (D.cmpT .NotEq (D.loc 11) (D.list [])) (D.seq (D.expr (D.lmeth m.append (D.loc 6) [(D.tup [(D.sub (D.loc 11) (D.const (.int 0))), (D.loc 8)])]))
  (D.seq (D.assign (D.bin o.add (D.list [(D.loc 9), (D.sub (D.loc 11) (D.const (.int 0)))]) (D.comp 12 1 (D.loc 10) (D.tname 12) D.yes (D.ite (D.cmpT .Eq (D.loc 12) (D.sub (D.loc 11) (D.const (.int 0)))) (D.loc 1) (D.loc 12)))) (D.tsub (D.loc 3) (D.loc 8)))
  (D.seq D.cont
  D.skip))) D.skip)
  (D.seq (D.assign (D.bin o.add (D.list [(D.loc 9), (D.loc 1)]) (D.loc 10)) (D.tsub (D.loc 3) (D.loc 8)))
  (D.seq (D.expr (D.lmeth m.append (D.loc 5) [(D.loc 8)]))
  (D.seq (D.ifs (D.cmpT .In (D.neg (D.loc 9)) (D.loc 2)) (D.seq (D.assign (D.loc 8) (D.tname 4))
  D.skip) (D.seq (D.ifs (D.cmpT .NotIn (D.loc 9) (D.loc 2)) (D.seq (D.expr (D.lmeth m.append (D.loc 7) [(D.tup [(D.loc 9), (D.loc 8)])]))
  (D.seq (D.expr (D.lmeth m.append (D.loc 2) [(D.loc 9)]))
  D.skip)) D.skip)
  D.skip))
  D.skip))))))) D.skip)
  D.skip))
  D.skip)
noncomputable def d_law_read : DS :=
  (D.seq (D.assign (D.bcall b.list [(D.attr 1 8 (D.loc 0))]) (D.tname 2))
  (D.seq (D.assign (D.comp 12 1 (D.attr 1 12 (D.loc 0)) (D.tname 12) D.yes (D.ite (D.cmpT .Is (D.loc 12) (D.const .none)) (D.const .none) (D.bcall b.list [(D.loc 12)]))) (D.tname 3))
  (D.seq (D.assign (D.tup [(D.neg (D.const (.int 1))), (D.list []), (D.list []), (D.list [])]) (D.ttup [(D.tname 4), (D.tname 5), (D.tname 6), (D.tname 7)]))
  (D.seq (D.for (D.sub (D.attr 1 6 (D.loc 0)) (D.call F_place_of [(D.loc 1)])) (D.tname 8) b1_law_read)
  (D.seq (D.ret (D.tup [(D.loc 4), (D.loc 3), (D.loc 5), (D.loc 6), (D.loc 7)]))
  D.skip)))))
noncomputable def F_law_read : DF := D.fn 2 12 [] d_law_read
theorem fs_law_read (p : Par) : FS (W1 p) 2 (.ref 345) F_law_read := by
  refine fs_def' (names := ["core", "gone"]) (sl := [some "core", some "gone", some "true_ones", some "lists", some "told", some "stays", some "goes", some "forced", some "number", some "other", some "rest", some "open_ones"]) (dm := []) (dv := []) (rfl : (K0 p.w.params).lookup 345 = some _) (by kernel_rfl) (fun L => ?_) (fun _ _ => .nil) (fun s ys hl hb => by obtain ⟨a, b, rfl⟩ := ys2 hl; exact BindsTo.of_eq rfl) (by kernel_rfl)
  unfold d_law_read
  exact (sb_cons (ss_assign (se_bl (bl_list p) cb_list (sa_cons (se_attr (kls1 p) (by rfl) (se_loc (by rfl) (.inl (by rfl)) (by rfl)) (by rfl)) sa_nil (by rfl)) (plain_cons (by rfl)) (by rfl) (by rfl)) (tn_cel (by rfl) (by rfl)) (by rfl) (by rfl) (by rfl))
  (sb_cons (ss_comp (comp_ok (csl := [none, none, none, none, none, none, none, none, none, none, none, none, some "lits"]) (by kernel_rfl) (fun C => (tn_loc (by rfl) (by rfl) (.head _))) (fun C => ct_nil) (fun C => (se_ite (st_cmp (se_loc (by rfl) (.inl (by rfl)) (by rfl)) se_none (by rfl)) se_none (se_bl (bl_list p) cb_list (sa_cons (se_loc (by rfl) (.inl (by rfl)) (by rfl)) sa_nil (by rfl)) (plain_cons (by rfl)) (by rfl) (by rfl))))) (se_attr (kls1 p) (by rfl) (se_loc (by rfl) (.inl (by rfl)) (by rfl)) (by rfl)) (fun _ => by rfl) (by rfl) (tn_loc (by rfl) (by rfl) (.head _)))
  (sb_cons (ss_assign (se_tup (sa_cons (se_neg se_int) (sa_cons (se_list sa_nil) (sa_cons (se_list sa_nil) (sa_cons (se_list sa_nil) sa_nil (by rfl)) (by rfl)) (by rfl)) (by rfl))) (tg_tup (tgs_cons (tn_loc (by rfl) (by rfl) (.head _)) (tgs_cons (tn_loc (by rfl) (by rfl) (.head _)) (tgs_cons (tn_loc (by rfl) (by rfl) (.head _)) (tgs_cons (tn_loc (by rfl) (by rfl) (.head _)) tgs_nil (by rfl)) (by rfl)) (by rfl)) (by rfl)) (by rfl) (by rfl)) (by rfl) (by rfl) (by rfl))
  (sb_cons (ss_for (se_sub (se_attr (kls1 p) (by rfl) (se_loc (by rfl) (.inl (by rfl)) (by rfl)) (by rfl)) (se_fn (fn_place_of p) (fs_place_of p) (sa_cons (se_loc (by rfl) (.inr (by rfl)) (by rfl)) sa_nil (by rfl)) (plain_cons (by rfl)) (by decide) (by rfl) (by rfl)) (fun _ _ _ => ⟨_, by rfl⟩)) (tn_loc (by rfl) (by rfl) (.head _)) (sb_cons (ss_if (st_cmp (se_loc (by rfl) (.inl (by rfl)) (by rfl)) (se_neg se_int) (by rfl)) (sb_cons (ss_expr (se_lmeth cm_append PySem.F.slot_list_append PySem.F.type_list_append (se_loc (by rfl) (.inl (by rfl)) (by rfl)) (sa_cons (se_loc (by rfl) (.inl (by rfl)) (by rfl)) sa_nil (by rfl)) (by rfl) (plain_cons (by rfl)) (by rfl)) (by rfl) (by rfl))
  sb_nil) (sb_cons (ss_if (st_cmp (se_sub (se_loc (by rfl) (.inl (by rfl)) (by rfl)) (se_loc (by rfl) (.inl (by rfl)) (by rfl)) (fun _ _ _ => ⟨_, by rfl⟩)) se_none (by rfl)) (sb_cons (ss_assign (se_ite (st_cmp (se_sub (se_sub (se_loc (by rfl) (.inl (by rfl)) (by rfl)) (se_loc (by rfl) (.inl (by rfl)) (by rfl)) (fun _ _ _ => ⟨_, by rfl⟩)) se_int (fun _ _ _ => ⟨_, by rfl⟩)) (se_loc (by rfl) (.inr (by rfl)) (by rfl)) (by rfl)) (se_sub (se_sub (se_loc (by rfl) (.inl (by rfl)) (by rfl)) (se_loc (by rfl) (.inl (by rfl)) (by rfl)) (fun _ _ _ => ⟨_, by rfl⟩)) se_int (fun _ _ _ => ⟨_, by rfl⟩)) (se_sub (se_sub (se_loc (by rfl) (.inl (by rfl)) (by rfl)) (se_loc (by rfl) (.inl (by rfl)) (by rfl)) (fun _ _ _ => ⟨_, by rfl⟩)) se_int (fun _ _ _ => ⟨_, by rfl⟩))) (tn_loc (by rfl) (by rfl) (.head _)) (by rfl) (by rfl) (by rfl))
  (sb_cons (ss_assign (se_slice (se_sub (se_loc (by rfl) (.inl (by rfl)) (by rfl)) (se_loc (by rfl) (.inl (by rfl)) (by rfl)) (fun _ _ _ => ⟨_, by rfl⟩)) (sp_some se_int) sp_none sp_none) (tn_loc (by rfl) (by rfl) (.head _)) (by rfl) (by rfl) (by rfl))
  (sb_cons (ss_assign (se_ite (st_cmp (se_loc (by rfl) (.inl (by rfl)) (by rfl)) (se_loc (by rfl) (.inr (by rfl)) (by rfl)) (by rfl)) (se_list sa_nil) (se_comp (comp_ok (csl := [none, none, some "true_ones", none, none, none, none, none, none, none, none, none, some "lit"]) (by kernel_rfl) (fun C => (tn_loc (by rfl) (by rfl) (.head _))) (fun C => (ct_one (st_cmp (se_neg (se_loc (by rfl) (.inl (by rfl)) (by rfl))) (se_loc (by rfl) (.inr (by rfl)) (by rfl)) (by rfl)))) (fun C => (se_loc (by rfl) (.inl (by rfl)) (by rfl)))) (se_loc (by rfl) (.inl (by rfl)) (by rfl)) (fun _ => by rfl))) (tn_cel (by rfl) (by rfl)) (by rfl) (by rfl) (by rfl))
  (sb_cons (ss_if (st_cmp (se_loc (by rfl) (.inr (by rfl)) (by rfl)) (se_list sa_nil) (by rfl)) (sb_cons (ss_expr (se_lmeth cm_append PySem.F.slot_list_append PySem.F.type_list_append (se_loc (by rfl) (.inl (by rfl)) (by rfl)) (sa_cons (se_tup (sa_cons (se_sub (se_loc (by rfl) (.inr (by rfl)) (by rfl)) se_int (fun _ _ _ => ⟨_, by rfl⟩)) (sa_cons (se_loc (by rfl) (.inl (by rfl)) (by rfl)) sa_nil (by rfl)) (by rfl))) sa_nil (by rfl)) (by rfl) (plain_cons (by rfl)) (by rfl)) (by rfl) (by rfl))
  (sb_cons (ss_assign (se_bin ok_add (se_list (sa_cons (se_loc (by rfl) (.inl (by rfl)) (by rfl)) (sa_cons (se_sub (se_loc (by rfl) (.inr (by rfl)) (by rfl)) se_int (fun _ _ _ => ⟨_, by rfl⟩)) sa_nil (by rfl)) (by rfl))) (se_comp (comp_ok (csl := [none, some "gone", none, none, none, none, none, none, none, none, none, some "open_ones", some "lit"]) (by kernel_rfl) (fun C => (tn_loc (by rfl) (by rfl) (.head _))) (fun C => ct_nil) (fun C => (se_ite (st_cmp (se_loc (by rfl) (.inl (by rfl)) (by rfl)) (se_sub (se_loc (by rfl) (.inr (by rfl)) (by rfl)) se_int (fun _ _ _ => ⟨_, by rfl⟩)) (by rfl)) (se_loc (by rfl) (.inr (by rfl)) (by rfl)) (se_loc (by rfl) (.inl (by rfl)) (by rfl))))) (se_loc (by rfl) (.inl (by rfl)) (by rfl)) (fun _ => by rfl))) (tg_sub (se_loc (by rfl) (.inl (by rfl)) (by rfl)) (se_loc (by rfl) (.inl (by rfl)) (by rfl))) (by rfl) (by rfl) (by rfl))
  (sb_cons ss_cont
  sb_nil))) sb_nil)
  (sb_cons (ss_assign (se_bin ok_add (se_list (sa_cons (se_loc (by rfl) (.inl (by rfl)) (by rfl)) (sa_cons (se_loc (by rfl) (.inr (by rfl)) (by rfl)) sa_nil (by rfl)) (by rfl))) (se_loc (by rfl) (.inl (by rfl)) (by rfl))) (tg_sub (se_loc (by rfl) (.inl (by rfl)) (by rfl)) (se_loc (by rfl) (.inl (by rfl)) (by rfl))) (by rfl) (by rfl) (by rfl))
  (sb_cons (ss_expr (se_lmeth cm_append PySem.F.slot_list_append PySem.F.type_list_append (se_loc (by rfl) (.inl (by rfl)) (by rfl)) (sa_cons (se_loc (by rfl) (.inl (by rfl)) (by rfl)) sa_nil (by rfl)) (by rfl) (plain_cons (by rfl)) (by rfl)) (by rfl) (by rfl))
  (sb_cons (ss_if (st_cmp (se_neg (se_loc (by rfl) (.inl (by rfl)) (by rfl))) (se_loc (by rfl) (.inr (by rfl)) (by rfl)) (by rfl)) (sb_cons (ss_assign (se_loc (by rfl) (.inl (by rfl)) (by rfl)) (tn_loc (by rfl) (by rfl) (.head _)) (by rfl) (by rfl) (by rfl))
  sb_nil) (sb_cons (ss_if (st_cmp (se_loc (by rfl) (.inl (by rfl)) (by rfl)) (se_loc (by rfl) (.inr (by rfl)) (by rfl)) (by rfl)) (sb_cons (ss_expr (se_lmeth cm_append PySem.F.slot_list_append PySem.F.type_list_append (se_loc (by rfl) (.inl (by rfl)) (by rfl)) (sa_cons (se_tup (sa_cons (se_loc (by rfl) (.inl (by rfl)) (by rfl)) (sa_cons (se_loc (by rfl) (.inl (by rfl)) (by rfl)) sa_nil (by rfl)) (by rfl))) sa_nil (by rfl)) (by rfl) (plain_cons (by rfl)) (by rfl)) (by rfl) (by rfl))
  (sb_cons (ss_expr (se_lmeth cm_append PySem.F.slot_list_append PySem.F.type_list_append (se_loc (by rfl) (.inr (by rfl)) (by rfl)) (sa_cons (se_loc (by rfl) (.inl (by rfl)) (by rfl)) sa_nil (by rfl)) (by rfl) (plain_cons (by rfl)) (by rfl)) (by rfl) (by rfl))
  sb_nil)) sb_nil)
  sb_nil))
  sb_nil))))))) sb_nil)
  sb_nil))
  sb_nil) (fun _ => by rfl))
  (sb_cons (ss_ret (se_tup (sa_cons (se_loc (by rfl) (.inl (by rfl)) (by rfl)) (sa_cons (se_loc (by rfl) (.inl (by rfl)) (by rfl)) (sa_cons (se_loc (by rfl) (.inl (by rfl)) (by rfl)) (sa_cons (se_loc (by rfl) (.inl (by rfl)) (by rfl)) (sa_cons (se_loc (by rfl) (.inl (by rfl)) (by rfl)) sa_nil (by rfl)) (by rfl)) (by rfl)) (by rfl)) (by rfl))))
  sb_nil)))))

noncomputable def b1_law_is_looked_right : DS :=
  (D.seq (D.ifs (D.orT (D.cmpT .NotEq (D.sub (D.attr 1 4 (D.loc 0)) (D.bcall b.abs [(D.loc 14)])) (D.loc 16)) (D.orT (D.cmpT .NotEq (D.meth 1 F_Trail_value (D.loc 0) [(D.loc 14)]) (D.const (.int 1))) (D.orT (D.cmpT .NotEq (D.meth 1 F_Trail_value (D.loc 0) [(D.neg (D.loc 14))]) (D.neg (D.const (.int 1)))) D.ff))) (D.seq (D.ret (D.const (.bool false)))
  D.skip) D.skip)
  D.skip)
noncomputable def b2_law_is_looked_right : DS :=
  (D.seq (D.assign (D.tup [(D.loc 10), (D.loc 15)]) (D.ttup [(D.tsub (D.loc 8) (D.bcall b.abs [(D.loc 14)])), (D.tsub (D.loc 9) (D.bcall b.abs [(D.loc 14)]))]))
  D.skip)
noncomputable def b3_law_is_looked_right : DS :=
  (D.seq (D.assign (D.bin o.add (D.sub (D.loc 13) (D.call F_place_of [(D.loc 14)])) (D.list [(D.loc 15)])) (D.tsub (D.loc 13) (D.call F_place_of [(D.loc 14)])))
  D.skip)
noncomputable def d_law_is_looked_right : DS :=
  (D.seq (D.assign (D.call F_law_read [(D.loc 0), (D.loc 1)]) (D.ttup [(D.tname 2), (D.tname 3), (D.tname 4), (D.tname 5), (D.tname 6)]))
  (D.seq (D.swap (D.tup [(D.bcall b.list [(D.attr 1 8 (D.loc 0))]), (D.bcall b.list [(D.attr 1 2 (D.loc 0))]), (D.bcall b.list [(D.attr 1 3 (D.loc 0))])]) [7, 8, 9])
  (D.seq (D.swap (D.tup [(D.meth 1 F_Trail_depth (D.loc 0) []), (D.attr 1 10 (D.loc 0)), (D.bcall b.list [(D.attr 1 9 (D.loc 0))])]) [10, 11, 12])
  (D.seq (D.assign (D.comp 17 1 (D.attr 1 6 (D.loc 0)) (D.tname 17) D.yes (D.bcall b.list [(D.loc 17)])) (D.tname 13))
  (D.seq (D.ifs (D.orT (D.cmpT .NotEq (D.meth 1 F_Trail_visit (D.loc 0) [(D.loc 1)]) (D.loc 2)) (D.orT (D.cmpT .NotEq (D.attr 1 12 (D.loc 0)) (D.loc 3)) D.ff)) (D.seq (D.ret (D.const (.bool false)))
  D.skip) D.skip)
  (D.seq (D.assign (D.loc 4) (D.tsub (D.loc 13) (D.call F_place_of [(D.loc 1)])))
  (D.seq (D.for (D.loc 5) (D.ttup [(D.tname 14), (D.tname 15)]) b3_law_is_looked_right)
  (D.seq (D.ifs (D.orT (D.cmpT .NotEq (D.attr 1 6 (D.loc 0)) (D.loc 13)) (D.orT (D.cmpT .NotEq (D.attr 1 8 (D.loc 0)) (D.bin o.add (D.loc 7) (D.comp 17 2 (D.loc 6) (D.ttup [(D.tname 17), (D.tname 18)]) D.yes (D.loc 17)))) D.ff)) (D.seq (D.ret (D.const (.bool false)))
  D.skip) D.skip)
  (D.seq (D.for (D.loc 6) (D.ttup [(D.tname 14), (D.tname 15)]) b2_law_is_looked_right)
  (D.seq (D.ifs (D.orT (D.cmpT .NotEq (D.attr 1 2 (D.loc 0)) (D.loc 8)) (D.orT (D.cmpT .NotEq (D.attr 1 3 (D.loc 0)) (D.loc 9)) (D.orT (D.cmpT .NotEq (D.tup [(D.attr 1 10 (D.loc 0)), (D.attr 1 9 (D.loc 0))]) (D.tup [(D.loc 11), (D.loc 12)])) D.ff))) (D.seq (D.ret (D.const (.bool false)))
  D.skip) D.skip)
  (D.seq (D.forE (D.attr 1 8 (D.loc 0)) (D.ttup [(D.tname 16), (D.tname 14)]) b1_law_is_looked_right)
  (D.seq (D.ret (D.cmp .Eq (D.bcall b.len [(D.comp 17 1 (D.bcall b.range [(D.const (.int 1)), (D.bin o.add (D.meth 1 F_Trail_var_count (D.loc 0) []) (D.const (.int 1)))]) (D.tname 17) (D.cmpT .NotEq (D.meth 1 F_Trail_value (D.loc 0) [(D.loc 17)]) (D.const (.int 0))) (D.loc 17))]) (D.bcall b.len [(D.attr 1 8 (D.loc 0))])))
  D.skip))))))))))))
noncomputable def F_law_is_looked_right : DF := D.fn 2 17 [] d_law_is_looked_right
theorem fs_law_is_looked_right (p : Par) : FS (W1 p) 4 (.ref 350) F_law_is_looked_right := by
  refine fs_def' (names := ["core", "gone"]) (sl := [some "core", some "gone", some "told", some "lists", some "stays", some "goes", some "forced", some "trail", some "levels", some "reasons", some "depth", some "head", some "starts", some "watches", some "lit", some "number", some "spot"]) (dm := []) (dv := []) (rfl : (K0 p.w.params).lookup 350 = some _) (by kernel_rfl) (fun L => ?_) (fun _ _ => .nil) (fun s ys hl hb => by obtain ⟨a, b, rfl⟩ := ys2 hl; exact BindsTo.of_eq rfl) (by kernel_rfl)
  unfold d_law_is_looked_right
  exact (sb_cons (ss_assign (se_fn (fn_law_read p) (fs_law_read p) (sa_cons (se_loc (by rfl) (.inr (by rfl)) (by rfl)) (sa_cons (se_loc (by rfl) (.inl (by rfl)) (by rfl)) sa_nil (by rfl)) (by rfl)) (plain_cons (by rfl)) (by decide) (by rfl) (by rfl)) (tg_tup (tgs_cons (tn_loc (by rfl) (by rfl) (.head _)) (tgs_cons (tn_loc (by rfl) (by rfl) (.head _)) (tgs_cons (tn_loc (by rfl) (by rfl) (.head _)) (tgs_cons (tn_loc (by rfl) (by rfl) (.head _)) (tgs_cons (tn_loc (by rfl) (by rfl) (.head _)) tgs_nil (by rfl)) (by rfl)) (by rfl)) (by rfl)) (by rfl)) (by rfl) (by rfl)) (by rfl) (by rfl) (by rfl))
  (sb_cons (ss_swap (xs := ["trail", "levels", "reasons"]) (se_tup (sa_cons (se_bl (bl_list p) cb_list (sa_cons (se_attr (kls1 p) (by rfl) (se_loc (by rfl) (.inr (by rfl)) (by rfl)) (by rfl)) sa_nil (by rfl)) (plain_cons (by rfl)) (by rfl) (by rfl)) (sa_cons (se_bl (bl_list p) cb_list (sa_cons (se_attr (kls1 p) (by rfl) (se_loc (by rfl) (.inr (by rfl)) (by rfl)) (by rfl)) sa_nil (by rfl)) (plain_cons (by rfl)) (by rfl) (by rfl)) (sa_cons (se_bl (bl_list p) cb_list (sa_cons (se_attr (kls1 p) (by rfl) (se_loc (by rfl) (.inr (by rfl)) (by rfl)) (by rfl)) sa_nil (by rfl)) (plain_cons (by rfl)) (by rfl) (by rfl)) sa_nil (by rfl)) (by rfl)) (by rfl))) (by rfl) (by rfl) (by rfl) (swap_kinds3 (by rfl) (.inl (by rfl)) (by rfl) (.inl (by rfl)) (by rfl) (.inl (by rfl))))
  (sb_cons (ss_swap (xs := ["depth", "head", "starts"]) (se_tup (sa_cons (se_mt (mt_1_depth p) (fs_Trail_depth p) (se_loc (by rfl) (.inr (by rfl)) (by rfl)) sa_nil plain_nil (by decide) (by rfl)) (sa_cons (se_attr (kls1 p) (by rfl) (se_loc (by rfl) (.inr (by rfl)) (by rfl)) (by rfl)) (sa_cons (se_bl (bl_list p) cb_list (sa_cons (se_attr (kls1 p) (by rfl) (se_loc (by rfl) (.inr (by rfl)) (by rfl)) (by rfl)) sa_nil (by rfl)) (plain_cons (by rfl)) (by rfl) (by rfl)) sa_nil (by rfl)) (by rfl)) (by rfl))) (by rfl) (by rfl) (by rfl) (swap_kinds3 (by rfl) (.inl (by rfl)) (by rfl) (.inl (by rfl)) (by rfl) (.inl (by rfl))))
  (sb_cons (ss_comp (comp_ok (csl := [none, none, none, none, none, none, none, none, none, none, none, none, none, none, none, none, none, some "numbers"]) (by kernel_rfl) (fun C => (tn_loc (by rfl) (by rfl) (.head _))) (fun C => ct_nil) (fun C => (se_bl (bl_list p) cb_list (sa_cons (se_loc (by rfl) (.inl (by rfl)) (by rfl)) sa_nil (by rfl)) (plain_cons (by rfl)) (by rfl) (by rfl)))) (se_attr (kls1 p) (by rfl) (se_loc (by rfl) (.inr (by rfl)) (by rfl)) (by rfl)) (fun _ => by rfl) (by rfl) (tn_loc (by rfl) (by rfl) (.head _)))
  (sb_cons (ss_if (st_or (st_cmp (se_mt (mt_1_visit p) (fs_Trail_visit p) (se_loc (by rfl) (.inr (by rfl)) (by rfl)) (sa_cons (se_loc (by rfl) (.inl (by rfl)) (by rfl)) sa_nil (by rfl)) (plain_cons (by rfl)) (by decide) (by rfl)) (se_loc (by rfl) (.inl (by rfl)) (by rfl)) (by rfl)) (st_or (st_cmp (se_attr (kls1 p) (by rfl) (se_loc (by rfl) (.inr (by rfl)) (by rfl)) (by rfl)) (se_loc (by rfl) (.inl (by rfl)) (by rfl)) (by rfl)) st_or_nil)) (sb_cons (ss_ret se_bool)
  sb_nil) sb_nil)
  (sb_cons (ss_assign (se_loc (by rfl) (.inl (by rfl)) (by rfl)) (tg_sub (se_loc (by rfl) (.inl (by rfl)) (by rfl)) (se_fn (fn_place_of p) (fs_place_of p) (sa_cons (se_loc (by rfl) (.inl (by rfl)) (by rfl)) sa_nil (by rfl)) (plain_cons (by rfl)) (by decide) (by rfl) (by rfl))) (by rfl) (by rfl) (by rfl))
  (sb_cons (ss_for (se_loc (by rfl) (.inl (by rfl)) (by rfl)) (tg_tup (tgs_cons (tn_loc (by rfl) (by rfl) (.head _)) (tgs_cons (tn_loc (by rfl) (by rfl) (.head _)) tgs_nil (by rfl)) (by rfl)) (by rfl) (by rfl)) (sb_cons (ss_assign (se_bin ok_add (se_sub (se_loc (by rfl) (.inl (by rfl)) (by rfl)) (se_fn (fn_place_of p) (fs_place_of p) (sa_cons (se_loc (by rfl) (.inl (by rfl)) (by rfl)) sa_nil (by rfl)) (plain_cons (by rfl)) (by decide) (by rfl) (by rfl)) (fun _ _ _ => ⟨_, by rfl⟩)) (se_list (sa_cons (se_loc (by rfl) (.inl (by rfl)) (by rfl)) sa_nil (by rfl)))) (tg_sub (se_loc (by rfl) (.inl (by rfl)) (by rfl)) (se_fn (fn_place_of p) (fs_place_of p) (sa_cons (se_loc (by rfl) (.inl (by rfl)) (by rfl)) sa_nil (by rfl)) (plain_cons (by rfl)) (by decide) (by rfl) (by rfl))) (by rfl) (by rfl) (by rfl))
  sb_nil) (fun _ => by rfl))
  (sb_cons (ss_if (st_or (st_cmp (se_attr (kls1 p) (by rfl) (se_loc (by rfl) (.inr (by rfl)) (by rfl)) (by rfl)) (se_loc (by rfl) (.inl (by rfl)) (by rfl)) (by rfl)) (st_or (st_cmp (se_attr (kls1 p) (by rfl) (se_loc (by rfl) (.inr (by rfl)) (by rfl)) (by rfl)) (se_bin ok_add (se_loc (by rfl) (.inl (by rfl)) (by rfl)) (se_comp (comp_ok (csl := [none, none, none, none, none, none, none, none, none, none, none, none, none, none, none, none, none, some "lit", some "number"]) (by kernel_rfl) (fun C => (tg_tup (tgs_cons (tn_loc (by rfl) (by rfl) (.head _)) (tgs_cons (tn_loc (by rfl) (by rfl) (.head _)) tgs_nil (by rfl)) (by rfl)) (by rfl) (by rfl))) (fun C => ct_nil) (fun C => (se_loc (by rfl) (.inl (by rfl)) (by rfl)))) (se_loc (by rfl) (.inl (by rfl)) (by rfl)) (fun _ => by rfl))) (by rfl)) st_or_nil)) (sb_cons (ss_ret se_bool)
  sb_nil) sb_nil)
  (sb_cons (ss_for (se_loc (by rfl) (.inl (by rfl)) (by rfl)) (tg_tup (tgs_cons (tn_loc (by rfl) (by rfl) (.head _)) (tgs_cons (tn_loc (by rfl) (by rfl) (.head _)) tgs_nil (by rfl)) (by rfl)) (by rfl) (by rfl)) (sb_cons (ss_assign (se_tup (sa_cons (se_loc (by rfl) (.inl (by rfl)) (by rfl)) (sa_cons (se_loc (by rfl) (.inl (by rfl)) (by rfl)) sa_nil (by rfl)) (by rfl))) (tg_tup (tgs_cons (tg_sub (se_loc (by rfl) (.inl (by rfl)) (by rfl)) (se_bl (bl_abs p) cb_abs (sa_cons (se_loc (by rfl) (.inl (by rfl)) (by rfl)) sa_nil (by rfl)) (plain_cons (by rfl)) (by rfl) (by rfl))) (tgs_cons (tg_sub (se_loc (by rfl) (.inl (by rfl)) (by rfl)) (se_bl (bl_abs p) cb_abs (sa_cons (se_loc (by rfl) (.inl (by rfl)) (by rfl)) sa_nil (by rfl)) (plain_cons (by rfl)) (by rfl) (by rfl))) tgs_nil (by rfl)) (by rfl)) (by rfl) (by rfl)) (by rfl) (by rfl) (by rfl))
  sb_nil) (fun _ => by rfl))
  (sb_cons (ss_if (st_or (st_cmp (se_attr (kls1 p) (by rfl) (se_loc (by rfl) (.inr (by rfl)) (by rfl)) (by rfl)) (se_loc (by rfl) (.inl (by rfl)) (by rfl)) (by rfl)) (st_or (st_cmp (se_attr (kls1 p) (by rfl) (se_loc (by rfl) (.inr (by rfl)) (by rfl)) (by rfl)) (se_loc (by rfl) (.inl (by rfl)) (by rfl)) (by rfl)) (st_or (st_cmp (se_tup (sa_cons (se_attr (kls1 p) (by rfl) (se_loc (by rfl) (.inr (by rfl)) (by rfl)) (by rfl)) (sa_cons (se_attr (kls1 p) (by rfl) (se_loc (by rfl) (.inr (by rfl)) (by rfl)) (by rfl)) sa_nil (by rfl)) (by rfl))) (se_tup (sa_cons (se_loc (by rfl) (.inl (by rfl)) (by rfl)) (sa_cons (se_loc (by rfl) (.inl (by rfl)) (by rfl)) sa_nil (by rfl)) (by rfl))) (by rfl)) st_or_nil))) (sb_cons (ss_ret se_bool)
  sb_nil) sb_nil)
  (sb_cons (ss_forE (se_attr (kls1 p) (by rfl) (se_loc (by rfl) (.inr (by rfl)) (by rfl)) (by rfl)) (tg_tup (tgs_cons (tn_loc (by rfl) (by rfl) (.head _)) (tgs_cons (tn_loc (by rfl) (by rfl) (.head _)) tgs_nil (by rfl)) (by rfl)) (by rfl) (by rfl)) (sb_cons (ss_if (st_or (st_cmp (se_sub (se_attr (kls1 p) (by rfl) (se_loc (by rfl) (.inr (by rfl)) (by rfl)) (by rfl)) (se_bl (bl_abs p) cb_abs (sa_cons (se_loc (by rfl) (.inl (by rfl)) (by rfl)) sa_nil (by rfl)) (plain_cons (by rfl)) (by rfl) (by rfl)) (fun _ _ _ => ⟨_, by rfl⟩)) (se_loc (by rfl) (.inl (by rfl)) (by rfl)) (by rfl)) (st_or (st_cmp (se_mt (mt_1_value p) (fs_Trail_value p) (se_loc (by rfl) (.inr (by rfl)) (by rfl)) (sa_cons (se_loc (by rfl) (.inl (by rfl)) (by rfl)) sa_nil (by rfl)) (plain_cons (by rfl)) (by decide) (by rfl)) se_int (by rfl)) (st_or (st_cmp (se_mt (mt_1_value p) (fs_Trail_value p) (se_loc (by rfl) (.inr (by rfl)) (by rfl)) (sa_cons (se_neg (se_loc (by rfl) (.inl (by rfl)) (by rfl))) sa_nil (by rfl)) (plain_cons (by rfl)) (by decide) (by rfl)) (se_neg se_int) (by rfl)) st_or_nil))) (sb_cons (ss_ret se_bool)
  sb_nil) sb_nil)
  sb_nil) (bl_enumerate p).glob (by rfl) (by rfl) (fun _ => by rfl))
  (sb_cons (ss_ret (se_cmp (se_bl (bl_len p) cb_len (sa_cons (se_comp (comp_ok (csl := [some "core", none, none, none, none, none, none, none, none, none, none, none, none, none, none, none, none, some "var"]) (by kernel_rfl) (fun C => (tn_loc (by rfl) (by rfl) (.head _))) (fun C => (ct_one (st_cmp (se_mt (mt_1_value p) (fs_Trail_value p) (se_loc (by rfl) (.inr (by rfl)) (by rfl)) (sa_cons (se_loc (by rfl) (.inl (by rfl)) (by rfl)) sa_nil (by rfl)) (plain_cons (by rfl)) (by decide) (by rfl)) se_int (by rfl)))) (fun C => (se_loc (by rfl) (.inl (by rfl)) (by rfl)))) (se_bl (bl_range p) cb_range (sa_cons se_int (sa_cons (se_bin ok_add (se_mt (mt_1_var_count p) (fs_Trail_var_count p) (se_loc (by rfl) (.inr (by rfl)) (by rfl)) sa_nil plain_nil (by decide) (by rfl)) se_int) sa_nil (by rfl)) (by rfl)) (plain_cons (by rfl)) (by rfl) (by rfl)) (fun _ => by rfl)) sa_nil (by rfl)) (plain_cons (by rfl)) (by rfl) (by rfl)) (se_bl (bl_len p) cb_len (sa_cons (se_attr (kls1 p) (by rfl) (se_loc (by rfl) (.inr (by rfl)) (by rfl)) (by rfl)) sa_nil (by rfl)) (plain_cons (by rfl)) (by rfl) (by rfl)) (by rfl)))
  sb_nil))))))))))))

noncomputable def d_law_next : DS :=
  (D.seq (D.assign (D.key 2 1 (D.loc 0)) (D.tname 2))
  (D.seq (D.assign (D.bin o.add (D.loc 2) (D.const (.int 1))) (D.tkey 2 1 (D.loc 0)))
  (D.seq (D.ret (D.bin o.mod (D.ite (D.cmpT .Lt (D.loc 2) (D.bcall b.len [(D.key 2 0 (D.loc 0))])) (D.sub (D.key 2 0 (D.loc 0)) (D.loc 2)) (D.bin o.add (D.bin o.add (D.bin o.mul (D.bin o.mul (D.const (.int 3)) (D.loc 2)) (D.loc 2)) (D.bin o.mul (D.const (.int 8)) (D.loc 2))) (D.const (.int 2)))) (D.loc 1)))
  D.skip)))
noncomputable def F_law_next : DF := D.fn 2 3 [] d_law_next
theorem fs_law_next (p : Par) : FS (W1 p) 1 (.ref 330) F_law_next := by
  refine fs_def' (names := ["reel", "many"]) (sl := [some "reel", some "many", some "spot"]) (dm := []) (dv := []) (rfl : (K0 p.w.params).lookup 330 = some _) (by kernel_rfl) (fun L => ?_) (fun _ _ => .nil) (fun s ys hl hb => by obtain ⟨a, b, rfl⟩ := ys2 hl; exact BindsTo.of_eq rfl) (by kernel_rfl)
  unfold d_law_next
  exact (sb_cons (ss_assign (se_key (dic2 p) (by rfl) (se_loc (by rfl) (.inl (by rfl)) (by rfl)) (fun _ _ => ⟨_, by rfl⟩)) (tn_loc (by rfl) (by rfl) (.head _)) (by rfl) (by rfl) (by rfl))
  (sb_cons (ss_assign (se_bin ok_add (se_loc (by rfl) (.inl (by rfl)) (by rfl)) se_int) (tg_key (dic2 p) (by rfl) (se_loc (by rfl) (.inl (by rfl)) (by rfl))) (by rfl) (by rfl) (by rfl))
  (sb_cons (ss_ret (se_bin ok_mod (se_ite (st_cmp (se_loc (by rfl) (.inl (by rfl)) (by rfl)) (se_bl (bl_len p) cb_len (sa_cons (se_key (dic2 p) (by rfl) (se_loc (by rfl) (.inl (by rfl)) (by rfl)) (fun _ _ => ⟨_, by rfl⟩)) sa_nil (by rfl)) (plain_cons (by rfl)) (by rfl) (by rfl)) (by rfl)) (se_sub (se_key (dic2 p) (by rfl) (se_loc (by rfl) (.inl (by rfl)) (by rfl)) (fun _ _ => ⟨_, by rfl⟩)) (se_loc (by rfl) (.inl (by rfl)) (by rfl)) (fun _ _ _ => ⟨_, by rfl⟩)) (se_bin ok_add (se_bin ok_add (se_bin ok_mul (se_bin ok_mul se_int (se_loc (by rfl) (.inl (by rfl)) (by rfl))) (se_loc (by rfl) (.inl (by rfl)) (by rfl))) (se_bin ok_mul se_int (se_loc (by rfl) (.inl (by rfl)) (by rfl)))) se_int)) (se_loc (by rfl) (.inl (by rfl)) (by rfl))))
  sb_nil)))

noncomputable def d_Trail_watch : DS :=
  (D.seq (D.assign (D.sub (D.attr 1 12 (D.loc 0)) (D.loc 1)) (D.tname 2))
  (D.seq (D.expr (D.lmeth m.append (D.sub (D.attr 1 6 (D.loc 0)) (D.call F_place_of [(D.sub (D.loc 2) (D.const (.int 0)))])) [(D.loc 1)]))
  (D.seq (D.expr (D.lmeth m.append (D.sub (D.attr 1 6 (D.loc 0)) (D.call F_place_of [(D.sub (D.loc 2) (D.const (.int 1)))])) [(D.loc 1)]))
  D.skip)))
noncomputable def F_Trail_watch : DF := D.fn 2 3 [] d_Trail_watch
theorem fs_Trail_watch (p : Par) : FS (W1 p) 2 (.ref 232) F_Trail_watch := by
  refine fs_def' (names := ["self", "number"]) (sl := [some "self", some "number", some "lits"]) (dm := []) (dv := []) (rfl : (K0 p.w.params).lookup 232 = some _) (by kernel_rfl) (fun L => ?_) (fun _ _ => .nil) (fun s ys hl hb => by obtain ⟨a, b, rfl⟩ := ys2 hl; exact BindsTo.of_eq rfl) (by kernel_rfl)
  unfold d_Trail_watch
  exact (sb_cons (ss_assign (se_sub (se_attr (kls1 p) (by rfl) (se_loc (by rfl) (.inl (by rfl)) (by rfl)) (by rfl)) (se_loc (by rfl) (.inl (by rfl)) (by rfl)) (fun _ _ _ => ⟨_, by rfl⟩)) (tn_loc (by rfl) (by rfl) (.head _)) (by rfl) (by rfl) (by rfl))
  (sb_cons (ss_expr (se_lmeth cm_append PySem.F.slot_list_append PySem.F.type_list_append (se_sub (se_attr (kls1 p) (by rfl) (se_loc (by rfl) (.inl (by rfl)) (by rfl)) (by rfl)) (se_fn (fn_place_of p) (fs_place_of p) (sa_cons (se_sub (se_loc (by rfl) (.inl (by rfl)) (by rfl)) se_int (fun _ _ _ => ⟨_, by rfl⟩)) sa_nil (by rfl)) (plain_cons (by rfl)) (by decide) (by rfl) (by rfl)) (fun _ _ _ => ⟨_, by rfl⟩)) (sa_cons (se_loc (by rfl) (.inl (by rfl)) (by rfl)) sa_nil (by rfl)) (by rfl) (plain_cons (by rfl)) (by rfl)) (by rfl) (by rfl))
  (sb_cons (ss_expr (se_lmeth cm_append PySem.F.slot_list_append PySem.F.type_list_append (se_sub (se_attr (kls1 p) (by rfl) (se_loc (by rfl) (.inl (by rfl)) (by rfl)) (by rfl)) (se_fn (fn_place_of p) (fs_place_of p) (sa_cons (se_sub (se_loc (by rfl) (.inl (by rfl)) (by rfl)) se_int (fun _ _ _ => ⟨_, by rfl⟩)) sa_nil (by rfl)) (plain_cons (by rfl)) (by decide) (by rfl) (by rfl)) (fun _ _ _ => ⟨_, by rfl⟩)) (sa_cons (se_loc (by rfl) (.inl (by rfl)) (by rfl)) sa_nil (by rfl)) (by rfl) (plain_cons (by rfl)) (by rfl)) (by rfl) (by rfl))
  sb_nil)))

noncomputable def d_Trail_store : DS :=
  (D.seq (D.assign (D.bcall b.len [(D.attr 1 12 (D.loc 0))]) (D.tname 4))
  (D.seq (D.expr (D.lmeth m.append (D.attr 1 12 (D.loc 0)) [(D.bcall b.list [(D.loc 1)])]))
  (D.seq (D.expr (D.lmeth m.append (D.attr 1 13 (D.loc 0)) [(D.loc 2)]))
  (D.seq (D.expr (D.lmeth m.append (D.attr 1 14 (D.loc 0)) [(D.loc 3)]))
  (D.seq (D.expr (D.lmeth m.append (D.attr 1 15 (D.loc 0)) [(D.const (.int 0))]))
  (D.seq (D.ifs (D.truth (D.loc 3)) (D.seq (D.assign (D.bin o.add (D.attr 1 16 (D.loc 0)) (D.const (.int 1))) (D.tattr 1 16 (D.loc 0)))
  D.skip) D.skip)
  (D.seq (D.ret (D.loc 4))
  D.skip)))))))
noncomputable def F_Trail_store : DF := D.fn 4 5 [] d_Trail_store
theorem fs_Trail_store (p : Par) : FS (W1 p) 1 (.ref 225) F_Trail_store := by
  refine fs_def' (names := ["self", "clause", "step", "can_drop"]) (sl := [some "self", some "clause", some "step", some "can_drop", some "number"]) (dm := []) (dv := []) (rfl : (K0 p.w.params).lookup 225 = some _) (by kernel_rfl) (fun L => ?_) (fun _ _ => .nil) (fun s ys hl hb => by obtain ⟨a, b, c, d, rfl⟩ := ys4 hl; exact BindsTo.of_eq rfl) (by kernel_rfl)
  unfold d_Trail_store
  exact (sb_cons (ss_assign (se_bl (bl_len p) cb_len (sa_cons (se_attr (kls1 p) (by rfl) (se_loc (by rfl) (.inl (by rfl)) (by rfl)) (by rfl)) sa_nil (by rfl)) (plain_cons (by rfl)) (by rfl) (by rfl)) (tn_loc (by rfl) (by rfl) (.head _)) (by rfl) (by rfl) (by rfl))
  (sb_cons (ss_expr (se_lmeth cm_append PySem.F.slot_list_append PySem.F.type_list_append (se_attr (kls1 p) (by rfl) (se_loc (by rfl) (.inl (by rfl)) (by rfl)) (by rfl)) (sa_cons (se_bl (bl_list p) cb_list (sa_cons (se_loc (by rfl) (.inl (by rfl)) (by rfl)) sa_nil (by rfl)) (plain_cons (by rfl)) (by rfl) (by rfl)) sa_nil (by rfl)) (by rfl) (plain_cons (by rfl)) (by rfl)) (by rfl) (by rfl))
  (sb_cons (ss_expr (se_lmeth cm_append PySem.F.slot_list_append PySem.F.type_list_append (se_attr (kls1 p) (by rfl) (se_loc (by rfl) (.inl (by rfl)) (by rfl)) (by rfl)) (sa_cons (se_loc (by rfl) (.inl (by rfl)) (by rfl)) sa_nil (by rfl)) (by rfl) (plain_cons (by rfl)) (by rfl)) (by rfl) (by rfl))
  (sb_cons (ss_expr (se_lmeth cm_append PySem.F.slot_list_append PySem.F.type_list_append (se_attr (kls1 p) (by rfl) (se_loc (by rfl) (.inl (by rfl)) (by rfl)) (by rfl)) (sa_cons (se_loc (by rfl) (.inl (by rfl)) (by rfl)) sa_nil (by rfl)) (by rfl) (plain_cons (by rfl)) (by rfl)) (by rfl) (by rfl))
  (sb_cons (ss_expr (se_lmeth cm_append PySem.F.slot_list_append PySem.F.type_list_append (se_attr (kls1 p) (by rfl) (se_loc (by rfl) (.inl (by rfl)) (by rfl)) (by rfl)) (sa_cons se_int sa_nil (by rfl)) (by rfl) (plain_cons (by rfl)) (by rfl)) (by rfl) (by rfl))
  (sb_cons (ss_if (st_val (se_loc (by rfl) (.inl (by rfl)) (by rfl)) (by rfl)) (sb_cons (ss_assign (se_bin ok_add (se_attr (kls1 p) (by rfl) (se_loc (by rfl) (.inl (by rfl)) (by rfl)) (by rfl)) se_int) (tg_attr (kls1 p) (by rfl) (se_loc (by rfl) (.inl (by rfl)) (by rfl))) (by rfl) (by rfl) (by rfl))
  sb_nil) sb_nil)
  (sb_cons (ss_ret (se_loc (by rfl) (.inl (by rfl)) (by rfl)))
  sb_nil)))))))

noncomputable def b1_law_lits : DS :=
  (D.seq (D.ifs (D.andT (D.cmpT .Lt (D.bcall b.len [(D.loc 3)]) (D.const (.int 2))) (D.andT (D.cmpT .NotIn (D.loc 6) (D.comp 7 1 (D.loc 3) (D.tname 7) D.yes (D.bcall b.abs [(D.loc 7)]))) D.tt)) (D.seq (D.expr (D.lmeth m.append (D.loc 3) [(D.neg (D.loc 6))]))
  D.skip) D.skip)
  D.skip)
noncomputable def b2_law_lits : DS :=
  (D.seq (D.assign (D.bin o.mul (D.bin o.add (D.const (.int 1)) (D.call F_law_next [(D.loc 0), (D.loc 2)])) (D.bin o.sub (D.const (.int 1)) (D.bin o.mul (D.const (.int 2)) (D.call F_law_next [(D.loc 0), (D.const (.int 2))])))) (D.tname 5))
  (D.seq (D.ifs (D.cmpT .NotIn (D.bcall b.abs [(D.loc 5)]) (D.comp 7 1 (D.loc 3) (D.tname 7) D.yes (D.bcall b.abs [(D.loc 7)]))) (D.seq (D.expr (D.lmeth m.append (D.loc 3) [(D.loc 5)]))
  D.skip) D.skip)
  D.skip))
noncomputable def d_law_lits : DS :=
  (D.seq (D.assign (D.meth 1 F_Trail_var_count (D.loc 1) []) (D.tname 2))
  (D.seq (D.assign (D.ite (D.cmpT .Lt (D.call F_law_next [(D.loc 0), (D.const (.int 4))]) (D.const (.int 3))) (D.list [(D.neg (D.sub (D.attr 1 8 (D.loc 1)) (D.call F_law_next [(D.loc 0), (D.bcall b.len [(D.attr 1 8 (D.loc 1))])])))]) (D.list [])) (D.tname 3))
  (D.seq (D.for (D.bcall b.range [(D.bin o.add (D.const (.int 1)) (D.call F_law_next [(D.loc 0), (D.const (.int 4))]))]) (D.tname 4) b2_law_lits)
  (D.seq (D.for (D.bcall b.range [(D.const (.int 1)), (D.bin o.add (D.loc 2) (D.const (.int 1)))]) (D.tname 6) b1_law_lits)
  (D.seq (D.ret (D.ite (D.cmpT .Eq (D.call F_law_next [(D.loc 0), (D.const (.int 2))]) (D.const (.int 1))) (D.bin o.add (D.slice (D.loc 3) (some (D.const (.int 1))) none (some (D.neg (D.const (.int 1))))) (D.slice (D.loc 3) (some (D.const (.int 2))) none none)) (D.loc 3)))
  D.skip)))))
noncomputable def F_law_lits : DF := D.fn 2 7 [] d_law_lits
theorem fs_law_lits (p : Par) : FS (W1 p) 2 (.ref 335) F_law_lits := by
  refine fs_def' (names := ["reel", "core"]) (sl := [some "reel", some "core", some "many", some "found", some "turn", some "lit", some "var"]) (dm := []) (dv := []) (rfl : (K0 p.w.params).lookup 335 = some _) (by kernel_rfl) (fun L => ?_) (fun _ _ => .nil) (fun s ys hl hb => by obtain ⟨a, b, rfl⟩ := ys2 hl; exact BindsTo.of_eq rfl) (by kernel_rfl)
  unfold d_law_lits
  exact (sb_cons (ss_assign (se_mt (mt_1_var_count p) (fs_Trail_var_count p) (se_loc (by rfl) (.inl (by rfl)) (by rfl)) sa_nil plain_nil (by decide) (by rfl)) (tn_loc (by rfl) (by rfl) (.head _)) (by rfl) (by rfl) (by rfl))
  (sb_cons (ss_assign (se_ite (st_cmp (se_fn (fn_law_next p) (fs_law_next p) (sa_cons (se_loc (by rfl) (.inl (by rfl)) (by rfl)) (sa_cons se_int sa_nil (by rfl)) (by rfl)) (plain_cons (by rfl)) (by decide) (by rfl) (by rfl)) se_int (by rfl)) (se_list (sa_cons (se_neg (se_sub (se_attr (kls1 p) (by rfl) (se_loc (by rfl) (.inl (by rfl)) (by rfl)) (by rfl)) (se_fn (fn_law_next p) (fs_law_next p) (sa_cons (se_loc (by rfl) (.inl (by rfl)) (by rfl)) (sa_cons (se_bl (bl_len p) cb_len (sa_cons (se_attr (kls1 p) (by rfl) (se_loc (by rfl) (.inl (by rfl)) (by rfl)) (by rfl)) sa_nil (by rfl)) (plain_cons (by rfl)) (by rfl) (by rfl)) sa_nil (by rfl)) (by rfl)) (plain_cons (by rfl)) (by decide) (by rfl) (by rfl)) (fun _ _ _ => ⟨_, by rfl⟩))) sa_nil (by rfl))) (se_list sa_nil)) (tn_loc (by rfl) (by rfl) (.head _)) (by rfl) (by rfl) (by rfl))
  (sb_cons (ss_for (se_bl (bl_range p) cb_range (sa_cons (se_bin ok_add se_int (se_fn (fn_law_next p) (fs_law_next p) (sa_cons (se_loc (by rfl) (.inl (by rfl)) (by rfl)) (sa_cons se_int sa_nil (by rfl)) (by rfl)) (plain_cons (by rfl)) (by decide) (by rfl) (by rfl))) sa_nil (by rfl)) (plain_cons (by rfl)) (by rfl) (by rfl)) (tn_loc (by rfl) (by rfl) (.head _)) (sb_cons (ss_assign (se_bin ok_mul (se_bin ok_add se_int (se_fn (fn_law_next p) (fs_law_next p) (sa_cons (se_loc (by rfl) (.inl (by rfl)) (by rfl)) (sa_cons (se_loc (by rfl) (.inl (by rfl)) (by rfl)) sa_nil (by rfl)) (by rfl)) (plain_cons (by rfl)) (by decide) (by rfl) (by rfl))) (se_bin ok_sub se_int (se_bin ok_mul se_int (se_fn (fn_law_next p) (fs_law_next p) (sa_cons (se_loc (by rfl) (.inl (by rfl)) (by rfl)) (sa_cons se_int sa_nil (by rfl)) (by rfl)) (plain_cons (by rfl)) (by decide) (by rfl) (by rfl))))) (tn_loc (by rfl) (by rfl) (.head _)) (by rfl) (by rfl) (by rfl))
  (sb_cons (ss_if (st_cmp (se_bl (bl_abs p) cb_abs (sa_cons (se_loc (by rfl) (.inl (by rfl)) (by rfl)) sa_nil (by rfl)) (plain_cons (by rfl)) (by rfl) (by rfl)) (se_comp (comp_ok (csl := [none, none, none, none, none, none, none, some "late"]) (by kernel_rfl) (fun C => (tn_loc (by rfl) (by rfl) (.head _))) (fun C => ct_nil) (fun C => (se_bl (bl_abs p) cb_abs (sa_cons (se_loc (by rfl) (.inl (by rfl)) (by rfl)) sa_nil (by rfl)) (plain_cons (by rfl)) (by rfl) (by rfl)))) (se_loc (by rfl) (.inl (by rfl)) (by rfl)) (fun _ => by rfl)) (by rfl)) (sb_cons (ss_expr (se_lmeth cm_append PySem.F.slot_list_append PySem.F.type_list_append (se_loc (by rfl) (.inl (by rfl)) (by rfl)) (sa_cons (se_loc (by rfl) (.inl (by rfl)) (by rfl)) sa_nil (by rfl)) (by rfl) (plain_cons (by rfl)) (by rfl)) (by rfl) (by rfl))
  sb_nil) sb_nil)
  sb_nil)) (fun _ => by rfl))
  (sb_cons (ss_for (se_bl (bl_range p) cb_range (sa_cons se_int (sa_cons (se_bin ok_add (se_loc (by rfl) (.inl (by rfl)) (by rfl)) se_int) sa_nil (by rfl)) (by rfl)) (plain_cons (by rfl)) (by rfl) (by rfl)) (tn_loc (by rfl) (by rfl) (.head _)) (sb_cons (ss_if (st_and (st_cmp (se_bl (bl_len p) cb_len (sa_cons (se_loc (by rfl) (.inl (by rfl)) (by rfl)) sa_nil (by rfl)) (plain_cons (by rfl)) (by rfl) (by rfl)) se_int (by rfl)) (st_and (st_cmp (se_loc (by rfl) (.inl (by rfl)) (by rfl)) (se_comp (comp_ok (csl := [none, none, none, none, none, none, none, some "late"]) (by kernel_rfl) (fun C => (tn_loc (by rfl) (by rfl) (.head _))) (fun C => ct_nil) (fun C => (se_bl (bl_abs p) cb_abs (sa_cons (se_loc (by rfl) (.inl (by rfl)) (by rfl)) sa_nil (by rfl)) (plain_cons (by rfl)) (by rfl) (by rfl)))) (se_loc (by rfl) (.inl (by rfl)) (by rfl)) (fun _ => by rfl)) (by rfl)) st_and_nil)) (sb_cons (ss_expr (se_lmeth cm_append PySem.F.slot_list_append PySem.F.type_list_append (se_loc (by rfl) (.inl (by rfl)) (by rfl)) (sa_cons (se_neg (se_loc (by rfl) (.inl (by rfl)) (by rfl))) sa_nil (by rfl)) (by rfl) (plain_cons (by rfl)) (by rfl)) (by rfl) (by rfl))
  sb_nil) sb_nil)
  sb_nil) (fun _ => by rfl))
  (sb_cons (ss_ret (se_ite (st_cmp (se_fn (fn_law_next p) (fs_law_next p) (sa_cons (se_loc (by rfl) (.inl (by rfl)) (by rfl)) (sa_cons se_int sa_nil (by rfl)) (by rfl)) (plain_cons (by rfl)) (by decide) (by rfl) (by rfl)) se_int (by rfl)) (se_bin ok_add (se_slice (se_loc (by rfl) (.inl (by rfl)) (by rfl)) (sp_some se_int) sp_none (sp_some (se_neg se_int))) (se_slice (se_loc (by rfl) (.inl (by rfl)) (by rfl)) (sp_some se_int) sp_none sp_none)) (se_loc (by rfl) (.inl (by rfl)) (by rfl))))
  sb_nil)))))

noncomputable def d_Trail_new_level : DS :=
  (D.seq (D.expr (D.lmeth m.append (D.attr 1 9 (D.loc 0)) [(D.bcall b.len [(D.attr 1 8 (D.loc 0))])]))
  (D.seq (D.ifs (D.cmpT .IsNot (D.attr 1 0 (D.loc 0)) (D.const .none)) (D.seq (D.expr (fun _ _ => none))
  D.skip) D.skip)
  D.skip))
noncomputable def F_Trail_new_level : DF := D.fn 1 1 [] d_Trail_new_level
theorem fs_Trail_new_level (p : Par) : FS (W1 p) 1 (.ref 281) F_Trail_new_level := by
  refine fs_def' (names := ["self"]) (sl := [some "self"]) (dm := []) (dv := []) (rfl : (K0 p.w.params).lookup 281 = some _) (by kernel_rfl) (fun L => ?_) (fun _ _ => .nil) (fun s ys hl hb => by obtain ⟨a, rfl⟩ := ys1 hl; exact BindsTo.of_eq rfl) (by kernel_rfl)
  unfold d_Trail_new_level
  exact (sb_cons (ss_expr (se_lmeth cm_append PySem.F.slot_list_append PySem.F.type_list_append (se_attr (kls1 p) (by rfl) (se_loc (by rfl) (.inl (by rfl)) (by rfl)) (by rfl)) (sa_cons (se_bl (bl_len p) cb_len (sa_cons (se_attr (kls1 p) (by rfl) (se_loc (by rfl) (.inl (by rfl)) (by rfl)) (by rfl)) sa_nil (by rfl)) (plain_cons (by rfl)) (by rfl) (by rfl)) sa_nil (by rfl)) (by rfl) (plain_cons (by rfl)) (by rfl)) (by rfl) (by rfl))
  (sb_cons (ss_if (st_cmp (se_attr (kls1 p) (by rfl) (se_loc (by rfl) (.inl (by rfl)) (by rfl)) (by rfl)) se_none (by rfl)) (sb_cons (ss_expr se_stuck (by rfl) (by rfl))
  sb_nil) sb_nil)
  sb_nil))

noncomputable def d_CoreHeap_many : DS :=
  (D.seq (D.ret (D.bin o.sub (D.bcall b.len [(D.attr 0 2 (D.loc 0))]) (D.const (.int 1))))
  D.skip)
noncomputable def F_CoreHeap_many : DF := D.fn 1 1 [] d_CoreHeap_many
theorem fs_CoreHeap_many (p : Par) : FS (W1 p) 1 (.ref 43) F_CoreHeap_many := by
  refine fs_def' (names := ["self"]) (sl := [some "self"]) (dm := []) (dv := []) (rfl : (K0 p.w.params).lookup 43 = some _) (by kernel_rfl) (fun L => ?_) (fun _ _ => .nil) (fun s ys hl hb => by obtain ⟨a, rfl⟩ := ys1 hl; exact BindsTo.of_eq rfl) (by kernel_rfl)
  unfold d_CoreHeap_many
  exact (sb_cons (ss_ret (se_bin ok_sub (se_bl (bl_len p) cb_len (sa_cons (se_attr (kls0 p) (by rfl) (se_loc (by rfl) (.inl (by rfl)) (by rfl)) (by rfl)) sa_nil (by rfl)) (plain_cons (by rfl)) (by rfl) (by rfl)) se_int))
  sb_nil)

noncomputable def d_CoreHeap_put : DS :=
  (D.seq (D.assign (D.loc 2) (D.tsub (D.attr 0 3 (D.loc 0)) (D.loc 1)))
  (D.seq (D.assign (D.loc 1) (D.tsub (D.attr 0 4 (D.loc 0)) (D.loc 2)))
  D.skip))
noncomputable def F_CoreHeap_put : DF := D.fn 3 3 [] d_CoreHeap_put
theorem fs_CoreHeap_put (p : Par) : FS (W1 p) 1 (.ref 71) F_CoreHeap_put := by
  refine fs_def' (names := ["self", "spot", "var"]) (sl := [some "self", some "spot", some "var"]) (dm := []) (dv := []) (rfl : (K0 p.w.params).lookup 71 = some _) (by kernel_rfl) (fun L => ?_) (fun _ _ => .nil) (fun s ys hl hb => by obtain ⟨a, b, c, rfl⟩ := ys3 hl; exact BindsTo.of_eq rfl) (by kernel_rfl)
  unfold d_CoreHeap_put
  exact (sb_cons (ss_assign (se_loc (by rfl) (.inl (by rfl)) (by rfl)) (tg_sub (se_attr (kls0 p) (by rfl) (se_loc (by rfl) (.inl (by rfl)) (by rfl)) (by rfl)) (se_loc (by rfl) (.inl (by rfl)) (by rfl))) (by rfl) (by rfl) (by rfl))
  (sb_cons (ss_assign (se_loc (by rfl) (.inl (by rfl)) (by rfl)) (tg_sub (se_attr (kls0 p) (by rfl) (se_loc (by rfl) (.inl (by rfl)) (by rfl)) (by rfl)) (se_loc (by rfl) (.inl (by rfl)) (by rfl))) (by rfl) (by rfl) (by rfl))
  sb_nil))

noncomputable def d_CoreHeap_is_before : DS :=
  (D.seq (D.ifs (D.cmpT .NotEq (D.sub (D.attr 0 2 (D.loc 0)) (D.loc 1)) (D.sub (D.attr 0 2 (D.loc 0)) (D.loc 2))) (D.seq (D.ret (D.cmp .Gt (D.sub (D.attr 0 2 (D.loc 0)) (D.loc 1)) (D.sub (D.attr 0 2 (D.loc 0)) (D.loc 2))))
  D.skip) D.skip)
  (D.seq (D.ret (D.cmp .Lt (D.loc 1) (D.loc 2)))
  D.skip))
noncomputable def F_CoreHeap_is_before : DF := D.fn 3 3 [] d_CoreHeap_is_before
theorem fs_CoreHeap_is_before (p : Par) : FS (W1 p) 1 (.ref 57) F_CoreHeap_is_before := by
  refine fs_def' (names := ["self", "one", "other"]) (sl := [some "self", some "one", some "other"]) (dm := []) (dv := []) (rfl : (K0 p.w.params).lookup 57 = some _) (by kernel_rfl) (fun L => ?_) (fun _ _ => .nil) (fun s ys hl hb => by obtain ⟨a, b, c, rfl⟩ := ys3 hl; exact BindsTo.of_eq rfl) (by kernel_rfl)
  unfold d_CoreHeap_is_before
  exact (sb_cons (ss_if (st_cmp (se_sub (se_attr (kls0 p) (by rfl) (se_loc (by rfl) (.inl (by rfl)) (by rfl)) (by rfl)) (se_loc (by rfl) (.inl (by rfl)) (by rfl)) (fun _ _ _ => ⟨_, by rfl⟩)) (se_sub (se_attr (kls0 p) (by rfl) (se_loc (by rfl) (.inl (by rfl)) (by rfl)) (by rfl)) (se_loc (by rfl) (.inl (by rfl)) (by rfl)) (fun _ _ _ => ⟨_, by rfl⟩)) (by rfl)) (sb_cons (ss_ret (se_cmp (se_sub (se_attr (kls0 p) (by rfl) (se_loc (by rfl) (.inl (by rfl)) (by rfl)) (by rfl)) (se_loc (by rfl) (.inl (by rfl)) (by rfl)) (fun _ _ _ => ⟨_, by rfl⟩)) (se_sub (se_attr (kls0 p) (by rfl) (se_loc (by rfl) (.inl (by rfl)) (by rfl)) (by rfl)) (se_loc (by rfl) (.inl (by rfl)) (by rfl)) (fun _ _ _ => ⟨_, by rfl⟩)) (by rfl)))
  sb_nil) sb_nil)
  (sb_cons (ss_ret (se_cmp (se_loc (by rfl) (.inl (by rfl)) (by rfl)) (se_loc (by rfl) (.inl (by rfl)) (by rfl)) (by rfl)))
  sb_nil))

noncomputable def b1_CoreHeap_rise : DS :=
  (D.seq (D.assign (D.bin o.fdiv (D.bin o.sub (D.loc 1) (D.const (.int 1))) (D.const (.int 2))) (D.tname 3))
  (D.seq (D.ifs (D.not (D.truth (D.meth 0 F_CoreHeap_is_before (D.loc 0) [(D.loc 2), (D.sub (D.attr 0 3 (D.loc 0)) (D.loc 3))]))) (D.seq D.brk
  D.skip) D.skip)
  (D.seq (D.expr (D.meth 0 F_CoreHeap_put (D.loc 0) [(D.loc 1), (D.sub (D.attr 0 3 (D.loc 0)) (D.loc 3))]))
  (D.seq (D.assign (D.loc 3) (D.tname 1))
  D.skip))))
noncomputable def d_CoreHeap_rise : DS :=
  (D.seq (D.assign (D.sub (D.attr 0 3 (D.loc 0)) (D.loc 1)) (D.tname 2))
  (D.seq (D.loop (D.cmpT .Gt (D.loc 1) (D.const (.int 0))) b1_CoreHeap_rise fuel)
  (D.seq (D.expr (D.meth 0 F_CoreHeap_put (D.loc 0) [(D.loc 1), (D.loc 2)]))
  D.skip)))
noncomputable def F_CoreHeap_rise : DF := D.fn 2 4 [] d_CoreHeap_rise
theorem fs_CoreHeap_rise (p : Par) : FS (W1 p) 2 (.ref 78) F_CoreHeap_rise := by
  refine fs_def' (names := ["self", "spot"]) (sl := [some "self", some "spot", some "var", some "above"]) (dm := []) (dv := []) (rfl : (K0 p.w.params).lookup 78 = some _) (by kernel_rfl) (fun L => ?_) (fun _ _ => .nil) (fun s ys hl hb => by obtain ⟨a, b, rfl⟩ := ys2 hl; exact BindsTo.of_eq rfl) (by kernel_rfl)
  unfold d_CoreHeap_rise
  exact (sb_cons (ss_assign (se_sub (se_attr (kls0 p) (by rfl) (se_loc (by rfl) (.inl (by rfl)) (by rfl)) (by rfl)) (se_loc (by rfl) (.inl (by rfl)) (by rfl)) (fun _ _ _ => ⟨_, by rfl⟩)) (tn_loc (by rfl) (by rfl) (.head _)) (by rfl) (by rfl) (by rfl))
  (sb_cons (ss_while (st_cmp (se_loc (by rfl) (.inl (by rfl)) (by rfl)) se_int (by rfl)) (sb_cons (ss_assign (se_bin ok_fdiv (se_bin ok_sub (se_loc (by rfl) (.inl (by rfl)) (by rfl)) se_int) se_int) (tn_loc (by rfl) (by rfl) (.head _)) (by rfl) (by rfl) (by rfl))
  (sb_cons (ss_if (st_not (st_val (se_mt (mt_0_is_before p) (fs_CoreHeap_is_before p) (se_loc (by rfl) (.inl (by rfl)) (by rfl)) (sa_cons (se_loc (by rfl) (.inl (by rfl)) (by rfl)) (sa_cons (se_sub (se_attr (kls0 p) (by rfl) (se_loc (by rfl) (.inl (by rfl)) (by rfl)) (by rfl)) (se_loc (by rfl) (.inl (by rfl)) (by rfl)) (fun _ _ _ => ⟨_, by rfl⟩)) sa_nil (by rfl)) (by rfl)) (plain_cons (by rfl)) (by decide) (by rfl)) (by rfl))) (sb_cons ss_brk
  sb_nil) sb_nil)
  (sb_cons (ss_expr (se_mt (mt_0_put p) (fs_CoreHeap_put p) (se_loc (by rfl) (.inl (by rfl)) (by rfl)) (sa_cons (se_loc (by rfl) (.inl (by rfl)) (by rfl)) (sa_cons (se_sub (se_attr (kls0 p) (by rfl) (se_loc (by rfl) (.inl (by rfl)) (by rfl)) (by rfl)) (se_loc (by rfl) (.inl (by rfl)) (by rfl)) (fun _ _ _ => ⟨_, by rfl⟩)) sa_nil (by rfl)) (by rfl)) (plain_cons (by rfl)) (by decide) (by rfl)) (by rfl) (by rfl))
  (sb_cons (ss_assign (se_loc (by rfl) (.inl (by rfl)) (by rfl)) (tn_loc (by rfl) (by rfl) (.head _)) (by rfl) (by rfl) (by rfl))
  sb_nil)))))
  (sb_cons (ss_expr (se_mt (mt_0_put p) (fs_CoreHeap_put p) (se_loc (by rfl) (.inl (by rfl)) (by rfl)) (sa_cons (se_loc (by rfl) (.inl (by rfl)) (by rfl)) (sa_cons (se_loc (by rfl) (.inl (by rfl)) (by rfl)) sa_nil (by rfl)) (by rfl)) (plain_cons (by rfl)) (by decide) (by rfl)) (by rfl) (by rfl))
  sb_nil)))

noncomputable def d_CoreHeap_is_held : DS :=
  (D.seq (D.ret (D.cmp .GtE (D.sub (D.attr 0 4 (D.loc 0)) (D.loc 1)) (D.const (.int 0))))
  D.skip)
noncomputable def F_CoreHeap_is_held : DF := D.fn 2 2 [] d_CoreHeap_is_held
theorem fs_CoreHeap_is_held (p : Par) : FS (W1 p) 1 (.ref 50) F_CoreHeap_is_held := by
  refine fs_def' (names := ["self", "var"]) (sl := [some "self", some "var"]) (dm := []) (dv := []) (rfl : (K0 p.w.params).lookup 50 = some _) (by kernel_rfl) (fun L => ?_) (fun _ _ => .nil) (fun s ys hl hb => by obtain ⟨a, b, rfl⟩ := ys2 hl; exact BindsTo.of_eq rfl) (by kernel_rfl)
  unfold d_CoreHeap_is_held
  exact (sb_cons (ss_ret (se_cmp (se_sub (se_attr (kls0 p) (by rfl) (se_loc (by rfl) (.inl (by rfl)) (by rfl)) (by rfl)) (se_loc (by rfl) (.inl (by rfl)) (by rfl)) (fun _ _ _ => ⟨_, by rfl⟩)) se_int (by rfl)))
  sb_nil)

noncomputable def d_CoreHeap_push : DS :=
  (D.seq (D.ifs (D.truth (D.meth 0 F_CoreHeap_is_held (D.loc 0) [(D.loc 1)])) (D.seq D.ret0
  D.skip) D.skip)
  (D.seq (D.expr (D.lmeth m.append (D.attr 0 3 (D.loc 0)) [(D.loc 1)]))
  (D.seq (D.assign (D.bin o.sub (D.bcall b.len [(D.attr 0 3 (D.loc 0))]) (D.const (.int 1))) (D.tsub (D.attr 0 4 (D.loc 0)) (D.loc 1)))
  (D.seq (D.expr (D.meth 0 F_CoreHeap_rise (D.loc 0) [(D.bin o.sub (D.bcall b.len [(D.attr 0 3 (D.loc 0))]) (D.const (.int 1)))]))
  D.skip))))
noncomputable def F_CoreHeap_push : DF := D.fn 2 2 [] d_CoreHeap_push
theorem fs_CoreHeap_push (p : Par) : FS (W1 p) 3 (.ref 99) F_CoreHeap_push := by
  refine fs_def' (names := ["self", "var"]) (sl := [some "self", some "var"]) (dm := []) (dv := []) (rfl : (K0 p.w.params).lookup 99 = some _) (by kernel_rfl) (fun L => ?_) (fun _ _ => .nil) (fun s ys hl hb => by obtain ⟨a, b, rfl⟩ := ys2 hl; exact BindsTo.of_eq rfl) (by kernel_rfl)
  unfold d_CoreHeap_push
  exact (sb_cons (ss_if (st_val (se_mt (mt_0_is_held p) (fs_CoreHeap_is_held p) (se_loc (by rfl) (.inl (by rfl)) (by rfl)) (sa_cons (se_loc (by rfl) (.inl (by rfl)) (by rfl)) sa_nil (by rfl)) (plain_cons (by rfl)) (by decide) (by rfl)) (by rfl)) (sb_cons ss_ret0
  sb_nil) sb_nil)
  (sb_cons (ss_expr (se_lmeth cm_append PySem.F.slot_list_append PySem.F.type_list_append (se_attr (kls0 p) (by rfl) (se_loc (by rfl) (.inl (by rfl)) (by rfl)) (by rfl)) (sa_cons (se_loc (by rfl) (.inl (by rfl)) (by rfl)) sa_nil (by rfl)) (by rfl) (plain_cons (by rfl)) (by rfl)) (by rfl) (by rfl))
  (sb_cons (ss_assign (se_bin ok_sub (se_bl (bl_len p) cb_len (sa_cons (se_attr (kls0 p) (by rfl) (se_loc (by rfl) (.inl (by rfl)) (by rfl)) (by rfl)) sa_nil (by rfl)) (plain_cons (by rfl)) (by rfl) (by rfl)) se_int) (tg_sub (se_attr (kls0 p) (by rfl) (se_loc (by rfl) (.inl (by rfl)) (by rfl)) (by rfl)) (se_loc (by rfl) (.inl (by rfl)) (by rfl))) (by rfl) (by rfl) (by rfl))
  (sb_cons (ss_expr (se_mt (mt_0_rise p) (fs_CoreHeap_rise p) (se_loc (by rfl) (.inl (by rfl)) (by rfl)) (sa_cons (se_bin ok_sub (se_bl (bl_len p) cb_len (sa_cons (se_attr (kls0 p) (by rfl) (se_loc (by rfl) (.inl (by rfl)) (by rfl)) (by rfl)) sa_nil (by rfl)) (plain_cons (by rfl)) (by rfl) (by rfl)) se_int) sa_nil (by rfl)) (plain_cons (by rfl)) (by decide) (by rfl)) (by rfl) (by rfl))
  sb_nil))))

noncomputable def b1_CoreHeap_grow : DS :=
  (D.seq (D.expr (D.lmeth m.append (D.attr 0 2 (D.loc 0)) [(D.const (.int 0))]))
  (D.seq (D.expr (D.lmeth m.append (D.attr 0 4 (D.loc 0)) [(D.neg (D.const (.int 1)))]))
  (D.seq (D.expr (D.meth 0 F_CoreHeap_push (D.loc 0) [(D.meth 0 F_CoreHeap_many (D.loc 0) [])]))
  D.skip)))
noncomputable def d_CoreHeap_grow : DS :=
  (D.seq (D.loop (D.cmpT .Lt (D.meth 0 F_CoreHeap_many (D.loc 0) []) (D.loc 1)) b1_CoreHeap_grow fuel)
  D.skip)
noncomputable def F_CoreHeap_grow : DF := D.fn 2 2 [] d_CoreHeap_grow
theorem fs_CoreHeap_grow (p : Par) : FS (W1 p) 4 (.ref 64) F_CoreHeap_grow := by
  refine fs_def' (names := ["self", "n"]) (sl := [some "self", some "n"]) (dm := []) (dv := []) (rfl : (K0 p.w.params).lookup 64 = some _) (by kernel_rfl) (fun L => ?_) (fun _ _ => .nil) (fun s ys hl hb => by obtain ⟨a, b, rfl⟩ := ys2 hl; exact BindsTo.of_eq rfl) (by kernel_rfl)
  unfold d_CoreHeap_grow
  exact (sb_cons (ss_while (st_cmp (se_mt (mt_0_many p) (fs_CoreHeap_many p) (se_loc (by rfl) (.inl (by rfl)) (by rfl)) sa_nil plain_nil (by decide) (by rfl)) (se_loc (by rfl) (.inl (by rfl)) (by rfl)) (by rfl)) (sb_cons (ss_expr (se_lmeth cm_append PySem.F.slot_list_append PySem.F.type_list_append (se_attr (kls0 p) (by rfl) (se_loc (by rfl) (.inl (by rfl)) (by rfl)) (by rfl)) (sa_cons se_int sa_nil (by rfl)) (by rfl) (plain_cons (by rfl)) (by rfl)) (by rfl) (by rfl))
  (sb_cons (ss_expr (se_lmeth cm_append PySem.F.slot_list_append PySem.F.type_list_append (se_attr (kls0 p) (by rfl) (se_loc (by rfl) (.inl (by rfl)) (by rfl)) (by rfl)) (sa_cons (se_neg se_int) sa_nil (by rfl)) (by rfl) (plain_cons (by rfl)) (by rfl)) (by rfl) (by rfl))
  (sb_cons (ss_expr (se_mt (mt_0_push p) (fs_CoreHeap_push p) (se_loc (by rfl) (.inl (by rfl)) (by rfl)) (sa_cons (se_mt (mt_0_many p) (fs_CoreHeap_many p) (se_loc (by rfl) (.inl (by rfl)) (by rfl)) sa_nil plain_nil (by decide) (by rfl)) sa_nil (by rfl)) (plain_cons (by rfl)) (by decide) (by rfl)) (by rfl) (by rfl))
  sb_nil))))
  sb_nil)

noncomputable def d_Trail_grow : DS :=
  (D.seq (D.assign (D.bcall b.len [(D.attr 1 1 (D.loc 0))]) (D.tname 1))
  (D.seq (D.expr (D.lmeth m.append (D.attr 1 1 (D.loc 0)) [(D.const (.int (0)))]))
  (D.seq (D.expr (D.lmeth m.append (D.attr 1 2 (D.loc 0)) [(D.const (.int 0))]))
  (D.seq (D.expr (D.lmeth m.append (D.attr 1 3 (D.loc 0)) [(D.const (.int (-1)))]))
  (D.seq (D.expr (D.lmeth m.append (D.attr 1 4 (D.loc 0)) [(D.const (.int 0))]))
  (D.seq (D.expr (D.lmeth m.append (D.attr 1 5 (D.loc 0)) [(D.const (.int (-1)))]))
  (D.seq (D.expr (D.lmeth m.append (D.attr 1 6 (D.loc 0)) [(D.list [])]))
  (D.seq (D.expr (D.lmeth m.append (D.attr 1 6 (D.loc 0)) [(D.list [])]))
  (D.seq (D.expr (D.meth 0 F_CoreHeap_grow (D.attr 1 7 (D.loc 0)) [(D.loc 1)]))
  (D.seq (D.ret (D.loc 1))
  D.skip))))))))))
noncomputable def F_Trail_grow : DF := D.fn 1 2 [] d_Trail_grow
theorem fs_Trail_grow (p : Par) : FS (W1 p) 5 (.ref 183) F_Trail_grow := by
  refine fs_def' (names := ["self"]) (sl := [some "self", some "var"]) (dm := []) (dv := []) (rfl : (K0 p.w.params).lookup 183 = some _) (by kernel_rfl) (fun L => ?_) (fun _ _ => .nil) (fun s ys hl hb => by obtain ⟨a, rfl⟩ := ys1 hl; exact BindsTo.of_eq rfl) (by kernel_rfl)
  unfold d_Trail_grow
  exact (sb_cons (ss_assign (se_bl (bl_len p) cb_len (sa_cons (se_attr (kls1 p) (by rfl) (se_loc (by rfl) (.inl (by rfl)) (by rfl)) (by rfl)) sa_nil (by rfl)) (plain_cons (by rfl)) (by rfl) (by rfl)) (tn_loc (by rfl) (by rfl) (.head _)) (by rfl) (by rfl) (by rfl))
  (sb_cons (ss_expr (se_lmeth cm_append PySem.F.slot_list_append PySem.F.type_list_append (se_attr (kls1 p) (by rfl) (se_loc (by rfl) (.inl (by rfl)) (by rfl)) (by rfl)) (sa_cons (se_globInt (gi_UNKNOWN p) (by rfl) (by rfl)) sa_nil (by rfl)) (by rfl) (plain_cons (by rfl)) (by rfl)) (by rfl) (by rfl))
  (sb_cons (ss_expr (se_lmeth cm_append PySem.F.slot_list_append PySem.F.type_list_append (se_attr (kls1 p) (by rfl) (se_loc (by rfl) (.inl (by rfl)) (by rfl)) (by rfl)) (sa_cons se_int sa_nil (by rfl)) (by rfl) (plain_cons (by rfl)) (by rfl)) (by rfl) (by rfl))
  (sb_cons (ss_expr (se_lmeth cm_append PySem.F.slot_list_append PySem.F.type_list_append (se_attr (kls1 p) (by rfl) (se_loc (by rfl) (.inl (by rfl)) (by rfl)) (by rfl)) (sa_cons (se_globInt (gi_NO_CLAUSE p) (by rfl) (by rfl)) sa_nil (by rfl)) (by rfl) (plain_cons (by rfl)) (by rfl)) (by rfl) (by rfl))
  (sb_cons (ss_expr (se_lmeth cm_append PySem.F.slot_list_append PySem.F.type_list_append (se_attr (kls1 p) (by rfl) (se_loc (by rfl) (.inl (by rfl)) (by rfl)) (by rfl)) (sa_cons se_int sa_nil (by rfl)) (by rfl) (plain_cons (by rfl)) (by rfl)) (by rfl) (by rfl))
  (sb_cons (ss_expr (se_lmeth cm_append PySem.F.slot_list_append PySem.F.type_list_append (se_attr (kls1 p) (by rfl) (se_loc (by rfl) (.inl (by rfl)) (by rfl)) (by rfl)) (sa_cons (se_globInt (gi_FALSE p) (by rfl) (by rfl)) sa_nil (by rfl)) (by rfl) (plain_cons (by rfl)) (by rfl)) (by rfl) (by rfl))
  (sb_cons (ss_expr (se_lmeth cm_append PySem.F.slot_list_append PySem.F.type_list_append (se_attr (kls1 p) (by rfl) (se_loc (by rfl) (.inl (by rfl)) (by rfl)) (by rfl)) (sa_cons (se_list sa_nil) sa_nil (by rfl)) (by rfl) (plain_cons (by rfl)) (by rfl)) (by rfl) (by rfl))
  (sb_cons (ss_expr (se_lmeth cm_append PySem.F.slot_list_append PySem.F.type_list_append (se_attr (kls1 p) (by rfl) (se_loc (by rfl) (.inl (by rfl)) (by rfl)) (by rfl)) (sa_cons (se_list sa_nil) sa_nil (by rfl)) (by rfl) (plain_cons (by rfl)) (by rfl)) (by rfl) (by rfl))
  (sb_cons (ss_expr (se_mt (mt_0_grow p) (fs_CoreHeap_grow p) (se_attr (kls1 p) (by rfl) (se_loc (by rfl) (.inl (by rfl)) (by rfl)) (by rfl)) (sa_cons (se_loc (by rfl) (.inl (by rfl)) (by rfl)) sa_nil (by rfl)) (plain_cons (by rfl)) (by decide) (by rfl)) (by rfl) (by rfl))
  (sb_cons (ss_ret (se_loc (by rfl) (.inl (by rfl)) (by rfl)))
  sb_nil))))))))))

noncomputable def d_CoreHeap_init : DS :=
  (D.seq (D.assign (D.loc 1) (D.tattr 0 0 (D.loc 0)))
  (D.seq (D.assign (D.const (.int (1024))) (D.tattr 0 1 (D.loc 0)))
  (D.seq (D.assign (D.list [(D.const (.int 0))]) (D.tattr 0 2 (D.loc 0)))
  (D.seq (D.assign (D.list []) (D.tattr 0 3 (D.loc 0)))
  (D.seq (D.assign (D.list [(D.neg (D.const (.int 1)))]) (D.tattr 0 4 (D.loc 0)))
  D.skip)))))
noncomputable def F_CoreHeap_init : DF := D.fn 2 2 [.int 1000000000000] d_CoreHeap_init
theorem fs_CoreHeap_init (p : Par) : FS (W1 p) 1 (.ref 36) F_CoreHeap_init := by
  refine fs_def' (names := ["self", "limit"]) (sl := [some "self", some "limit"]) (dm := [.int 1000000000000]) (dv := [.int 1000000000000 210]) (rfl : (K0 p.w.params).lookup 36 = some _) (by kernel_rfl) (fun L => ?_) (fun _ _ => .cons (.int ..) .nil) (fun s ys hl hb => by obtain ⟨a, rfl⟩ := ys1 (Nat.succ.inj hl); exact binds_K ((W1 p).KX.keeps hb) rfl (rfl : (K0 p.w.params).lookup 29 = some _) rfl rfl rfl) (by kernel_rfl)
  unfold d_CoreHeap_init
  exact (sb_cons (ss_assign (se_loc (by rfl) (.inl (by rfl)) (by rfl)) (tg_attr (kls0 p) (by rfl) (se_loc (by rfl) (.inl (by rfl)) (by rfl))) (by rfl) (by rfl) (by rfl))
  (sb_cons (ss_assign (se_globInt (gi_FIRST_STEP p) (by rfl) (by rfl)) (tg_attr (kls0 p) (by rfl) (se_loc (by rfl) (.inl (by rfl)) (by rfl))) (by rfl) (by rfl) (by rfl))
  (sb_cons (ss_assign (se_list (sa_cons se_int sa_nil (by rfl))) (tg_attr (kls0 p) (by rfl) (se_loc (by rfl) (.inl (by rfl)) (by rfl))) (by rfl) (by rfl) (by rfl))
  (sb_cons (ss_assign (se_list sa_nil) (tg_attr (kls0 p) (by rfl) (se_loc (by rfl) (.inl (by rfl)) (by rfl))) (by rfl) (by rfl) (by rfl))
  (sb_cons (ss_assign (se_list (sa_cons (se_neg se_int) sa_nil (by rfl))) (tg_attr (kls0 p) (by rfl) (se_loc (by rfl) (.inl (by rfl)) (by rfl))) (by rfl) (by rfl) (by rfl))
  sb_nil)))))

noncomputable def M_CoreHeap : DF := D.make 0 F_CoreHeap_init
theorem ms_CoreHeap (p : Par) : FS (W1 p) 2 (.ref 144) M_CoreHeap := fs_make (kls0 p) (fs_CoreHeap_init p) (by kernel_rfl) (by kernel_rfl) (by kernel_rfl)

noncomputable def d_Trail_init : DS :=
  (D.seq (D.assign (D.loc 1) (D.tattr 1 0 (D.loc 0)))
  (D.seq (D.assign (D.list [(D.const (.int (0)))]) (D.tattr 1 1 (D.loc 0)))
  (D.seq (D.assign (D.list [(D.const (.int 0))]) (D.tattr 1 2 (D.loc 0)))
  (D.seq (D.assign (D.list [(D.const (.int (-1)))]) (D.tattr 1 3 (D.loc 0)))
  (D.seq (D.assign (D.list [(D.const (.int 0))]) (D.tattr 1 4 (D.loc 0)))
  (D.seq (D.assign (D.list [(D.const (.int (-1)))]) (D.tattr 1 5 (D.loc 0)))
  (D.seq (D.assign (D.list [(D.list []), (D.list [])]) (D.tattr 1 6 (D.loc 0)))
  (D.seq (D.assign (D.call M_CoreHeap []) (D.tattr 1 7 (D.loc 0)))
  (D.seq (D.assign (D.list []) (D.tattr 1 8 (D.loc 0)))
  (D.seq (D.assign (D.list []) (D.tattr 1 9 (D.loc 0)))
  (D.seq (D.assign (D.const (.int 0)) (D.tattr 1 10 (D.loc 0)))
  (D.seq (D.assign (D.const (.int 0)) (D.tattr 1 11 (D.loc 0)))
  (D.seq (D.assign (D.list []) (D.tattr 1 12 (D.loc 0)))
  (D.seq (D.assign (D.list []) (D.tattr 1 13 (D.loc 0)))
  (D.seq (D.assign (D.list []) (D.tattr 1 14 (D.loc 0)))
  (D.seq (D.assign (D.list []) (D.tattr 1 15 (D.loc 0)))
  (D.seq (D.assign (D.const (.int 0)) (D.tattr 1 16 (D.loc 0)))
  D.skip)))))))))))))))))
noncomputable def F_Trail_init : DF := D.fn 2 2 [] d_Trail_init
theorem fs_Trail_init (p : Par) : FS (W1 p) 3 (.ref 176) F_Trail_init := by
  refine fs_def' (names := ["self", "hook"]) (sl := [some "self", some "hook"]) (dm := []) (dv := []) (rfl : (K0 p.w.params).lookup 176 = some _) (by kernel_rfl) (fun L => ?_) (fun _ _ => .nil) (fun s ys hl hb => by obtain ⟨a, b, rfl⟩ := ys2 hl; exact BindsTo.of_eq rfl) (by kernel_rfl)
  unfold d_Trail_init
  exact (sb_cons (ss_assign (se_loc (by rfl) (.inl (by rfl)) (by rfl)) (tg_attr (kls1 p) (by rfl) (se_loc (by rfl) (.inl (by rfl)) (by rfl))) (by rfl) (by rfl) (by rfl))
  (sb_cons (ss_assign (se_list (sa_cons (se_globInt (gi_UNKNOWN p) (by rfl) (by rfl)) sa_nil (by rfl))) (tg_attr (kls1 p) (by rfl) (se_loc (by rfl) (.inl (by rfl)) (by rfl))) (by rfl) (by rfl) (by rfl))
  (sb_cons (ss_assign (se_list (sa_cons se_int sa_nil (by rfl))) (tg_attr (kls1 p) (by rfl) (se_loc (by rfl) (.inl (by rfl)) (by rfl))) (by rfl) (by rfl) (by rfl))
  (sb_cons (ss_assign (se_list (sa_cons (se_globInt (gi_NO_CLAUSE p) (by rfl) (by rfl)) sa_nil (by rfl))) (tg_attr (kls1 p) (by rfl) (se_loc (by rfl) (.inl (by rfl)) (by rfl))) (by rfl) (by rfl) (by rfl))
  (sb_cons (ss_assign (se_list (sa_cons se_int sa_nil (by rfl))) (tg_attr (kls1 p) (by rfl) (se_loc (by rfl) (.inl (by rfl)) (by rfl))) (by rfl) (by rfl) (by rfl))
  (sb_cons (ss_assign (se_list (sa_cons (se_globInt (gi_FALSE p) (by rfl) (by rfl)) sa_nil (by rfl))) (tg_attr (kls1 p) (by rfl) (se_loc (by rfl) (.inl (by rfl)) (by rfl))) (by rfl) (by rfl) (by rfl))
  (sb_cons (ss_assign (se_list (sa_cons (se_list sa_nil) (sa_cons (se_list sa_nil) sa_nil (by rfl)) (by rfl))) (tg_attr (kls1 p) (by rfl) (se_loc (by rfl) (.inl (by rfl)) (by rfl))) (by rfl) (by rfl) (by rfl))
  (sb_cons (ss_assign (se_mk (mk_CoreHeap p) (ms_CoreHeap p) sa_nil plain_nil (by rfl) (by decide) (by rfl)) (tg_attr (kls1 p) (by rfl) (se_loc (by rfl) (.inl (by rfl)) (by rfl))) (by rfl) (by rfl) (by rfl))
  (sb_cons (ss_assign (se_list sa_nil) (tg_attr (kls1 p) (by rfl) (se_loc (by rfl) (.inl (by rfl)) (by rfl))) (by rfl) (by rfl) (by rfl))
  (sb_cons (ss_assign (se_list sa_nil) (tg_attr (kls1 p) (by rfl) (se_loc (by rfl) (.inl (by rfl)) (by rfl))) (by rfl) (by rfl) (by rfl))
  (sb_cons (ss_assign se_int (tg_attr (kls1 p) (by rfl) (se_loc (by rfl) (.inl (by rfl)) (by rfl))) (by rfl) (by rfl) (by rfl))
  (sb_cons (ss_assign se_int (tg_attr (kls1 p) (by rfl) (se_loc (by rfl) (.inl (by rfl)) (by rfl))) (by rfl) (by rfl) (by rfl))
  (sb_cons (ss_assign (se_list sa_nil) (tg_attr (kls1 p) (by rfl) (se_loc (by rfl) (.inl (by rfl)) (by rfl))) (by rfl) (by rfl) (by rfl))
  (sb_cons (ss_assign (se_list sa_nil) (tg_attr (kls1 p) (by rfl) (se_loc (by rfl) (.inl (by rfl)) (by rfl))) (by rfl) (by rfl) (by rfl))
  (sb_cons (ss_assign (se_list sa_nil) (tg_attr (kls1 p) (by rfl) (se_loc (by rfl) (.inl (by rfl)) (by rfl))) (by rfl) (by rfl) (by rfl))
  (sb_cons (ss_assign (se_list sa_nil) (tg_attr (kls1 p) (by rfl) (se_loc (by rfl) (.inl (by rfl)) (by rfl))) (by rfl) (by rfl) (by rfl))
  (sb_cons (ss_assign se_int (tg_attr (kls1 p) (by rfl) (se_loc (by rfl) (.inl (by rfl)) (by rfl))) (by rfl) (by rfl) (by rfl))
  sb_nil)))))))))))))))))

noncomputable def M_Trail : DF := D.make 1 F_Trail_init
theorem ms_Trail (p : Par) : FS (W1 p) 4 (.ref 319) M_Trail := fs_make (kls1 p) (fs_Trail_init p) (by kernel_rfl) (by kernel_rfl) (by kernel_rfl)

noncomputable def b1_law_core : DS :=
  (D.seq (D.assign (D.meth 1 F_Trail_store (D.loc 1) [(D.bcall b.tuple [(D.call F_law_lits [(D.loc 0), (D.loc 1)])]), (D.const .none), (D.const (.bool false))]) (D.tname 4))
  (D.seq (D.expr (D.meth 1 F_Trail_watch (D.loc 1) [(D.loc 4)]))
  (D.seq (D.ifs (D.cmpT .Eq (D.call F_law_next [(D.loc 0), (D.const (.int 8))]) (D.const (.int 7))) (D.seq (D.assign (D.const .none) (D.tsub (D.attr 1 12 (D.loc 1)) (D.loc 4)))
  D.skip) D.skip)
  D.skip)))
noncomputable def b2_law_core : DS :=
  (D.seq (D.assign (D.comp 5 1 (D.bcall b.range [(D.const (.int 1)), (D.bin o.add (D.meth 1 F_Trail_var_count (D.loc 1) []) (D.const (.int 1)))]) (D.tname 5) (D.cmpT .Eq (D.meth 1 F_Trail_value (D.loc 1) [(D.loc 5)]) (D.const (.int 0))) (D.loc 5)) (D.tname 3))
  (D.seq (D.ifs (D.cmpT .Eq (D.call F_law_next [(D.loc 0), (D.const (.int 2))]) (D.const (.int 1))) (D.seq (D.expr (D.meth 1 F_Trail_new_level (D.loc 1) []))
  D.skip) D.skip)
  (D.seq (D.expr (D.meth 1 F_Trail_enqueue (D.loc 1) [(D.bin o.mul (D.sub (D.loc 3) (D.call F_law_next [(D.loc 0), (D.bcall b.len [(D.loc 3)])])) (D.bin o.sub (D.const (.int 1)) (D.bin o.mul (D.const (.int 2)) (D.call F_law_next [(D.loc 0), (D.const (.int 2))])))), (D.neg (D.const (.int 1)))]))
  D.skip)))
noncomputable def b3_law_core : DS :=
  (D.seq (D.expr (D.meth 1 F_Trail_grow (D.loc 1) []))
  D.skip)
noncomputable def d_law_core : DS :=
  (D.seq (D.assign (D.call M_Trail [(D.const .none)]) (D.tname 1))
  (D.seq (D.for (D.bcall b.range [(D.bin o.add (D.const (.int 4)) (D.call F_law_next [(D.loc 0), (D.const (.int 3))]))]) (D.tname 2) b3_law_core)
  (D.seq (D.for (D.bcall b.range [(D.bin o.add (D.const (.int 1)) (D.call F_law_next [(D.loc 0), (D.const (.int 4))]))]) (D.tname 2) b2_law_core)
  (D.seq (D.for (D.bcall b.range [(D.bin o.add (D.const (.int 2)) (D.call F_law_next [(D.loc 0), (D.const (.int 4))]))]) (D.tname 2) b1_law_core)
  (D.seq (D.ret (D.loc 1))
  D.skip)))))
noncomputable def F_law_core : DF := D.fn 1 5 [] d_law_core
theorem fs_law_core (p : Par) : FS (W1 p) 6 (.ref 340) F_law_core := by
  refine fs_def' (names := ["reel"]) (sl := [some "reel", some "core", some "lap", some "free", some "number"]) (dm := []) (dv := []) (rfl : (K0 p.w.params).lookup 340 = some _) (by kernel_rfl) (fun L => ?_) (fun _ _ => .nil) (fun s ys hl hb => by obtain ⟨a, rfl⟩ := ys1 hl; exact BindsTo.of_eq rfl) (by kernel_rfl)
  unfold d_law_core
  exact (sb_cons (ss_assign (se_mk (mk_Trail p) (ms_Trail p) (sa_cons se_none sa_nil (by rfl)) (plain_cons (by rfl)) (by rfl) (by decide) (by rfl)) (tn_cel (by rfl) (by rfl)) (by rfl) (by rfl) (by rfl))
  (sb_cons (ss_for (se_bl (bl_range p) cb_range (sa_cons (se_bin ok_add se_int (se_fn (fn_law_next p) (fs_law_next p) (sa_cons (se_loc (by rfl) (.inl (by rfl)) (by rfl)) (sa_cons se_int sa_nil (by rfl)) (by rfl)) (plain_cons (by rfl)) (by decide) (by rfl) (by rfl))) sa_nil (by rfl)) (plain_cons (by rfl)) (by rfl) (by rfl)) (tn_loc (by rfl) (by rfl) (.head _)) (sb_cons (ss_expr (se_mt (mt_1_grow p) (fs_Trail_grow p) (se_loc (by rfl) (.inr (by rfl)) (by rfl)) sa_nil plain_nil (by decide) (by rfl)) (by rfl) (by rfl))
  sb_nil) (fun _ => by rfl))
  (sb_cons (ss_for (se_bl (bl_range p) cb_range (sa_cons (se_bin ok_add se_int (se_fn (fn_law_next p) (fs_law_next p) (sa_cons (se_loc (by rfl) (.inl (by rfl)) (by rfl)) (sa_cons se_int sa_nil (by rfl)) (by rfl)) (plain_cons (by rfl)) (by decide) (by rfl) (by rfl))) sa_nil (by rfl)) (plain_cons (by rfl)) (by rfl) (by rfl)) (tn_loc (by rfl) (by rfl) (.head _)) (sb_cons (ss_comp (comp_ok (csl := [none, some "core", none, none, none, some "var"]) (by kernel_rfl) (fun C => (tn_loc (by rfl) (by rfl) (.head _))) (fun C => (ct_one (st_cmp (se_mt (mt_1_value p) (fs_Trail_value p) (se_loc (by rfl) (.inr (by rfl)) (by rfl)) (sa_cons (se_loc (by rfl) (.inl (by rfl)) (by rfl)) sa_nil (by rfl)) (plain_cons (by rfl)) (by decide) (by rfl)) se_int (by rfl)))) (fun C => (se_loc (by rfl) (.inl (by rfl)) (by rfl)))) (se_bl (bl_range p) cb_range (sa_cons se_int (sa_cons (se_bin ok_add (se_mt (mt_1_var_count p) (fs_Trail_var_count p) (se_loc (by rfl) (.inr (by rfl)) (by rfl)) sa_nil plain_nil (by decide) (by rfl)) se_int) sa_nil (by rfl)) (by rfl)) (plain_cons (by rfl)) (by rfl) (by rfl)) (fun _ => by rfl) (by rfl) (tn_loc (by rfl) (by rfl) (.head _)))
  (sb_cons (ss_if (st_cmp (se_fn (fn_law_next p) (fs_law_next p) (sa_cons (se_loc (by rfl) (.inl (by rfl)) (by rfl)) (sa_cons se_int sa_nil (by rfl)) (by rfl)) (plain_cons (by rfl)) (by decide) (by rfl) (by rfl)) se_int (by rfl)) (sb_cons (ss_expr (se_mt (mt_1_new_level p) (fs_Trail_new_level p) (se_loc (by rfl) (.inr (by rfl)) (by rfl)) sa_nil plain_nil (by decide) (by rfl)) (by rfl) (by rfl))
  sb_nil) sb_nil)
  (sb_cons (ss_expr (se_mt (mt_1_enqueue p) (fs_Trail_enqueue p) (se_loc (by rfl) (.inr (by rfl)) (by rfl)) (sa_cons (se_bin ok_mul (se_sub (se_loc (by rfl) (.inl (by rfl)) (by rfl)) (se_fn (fn_law_next p) (fs_law_next p) (sa_cons (se_loc (by rfl) (.inl (by rfl)) (by rfl)) (sa_cons (se_bl (bl_len p) cb_len (sa_cons (se_loc (by rfl) (.inl (by rfl)) (by rfl)) sa_nil (by rfl)) (plain_cons (by rfl)) (by rfl) (by rfl)) sa_nil (by rfl)) (by rfl)) (plain_cons (by rfl)) (by decide) (by rfl) (by rfl)) (fun _ _ _ => ⟨_, by rfl⟩)) (se_bin ok_sub se_int (se_bin ok_mul se_int (se_fn (fn_law_next p) (fs_law_next p) (sa_cons (se_loc (by rfl) (.inl (by rfl)) (by rfl)) (sa_cons se_int sa_nil (by rfl)) (by rfl)) (plain_cons (by rfl)) (by decide) (by rfl) (by rfl))))) (sa_cons (se_neg se_int) sa_nil (by rfl)) (by rfl)) (plain_cons (by rfl)) (by decide) (by rfl)) (by rfl) (by rfl))
  sb_nil))) (fun _ => by rfl))
  (sb_cons (ss_for (se_bl (bl_range p) cb_range (sa_cons (se_bin ok_add se_int (se_fn (fn_law_next p) (fs_law_next p) (sa_cons (se_loc (by rfl) (.inl (by rfl)) (by rfl)) (sa_cons se_int sa_nil (by rfl)) (by rfl)) (plain_cons (by rfl)) (by decide) (by rfl) (by rfl))) sa_nil (by rfl)) (plain_cons (by rfl)) (by rfl) (by rfl)) (tn_loc (by rfl) (by rfl) (.head _)) (sb_cons (ss_assign (se_mt (mt_1_store p) (fs_Trail_store p) (se_loc (by rfl) (.inr (by rfl)) (by rfl)) (sa_cons (se_bl (bl_tuple p) cb_tuple (sa_cons (se_fn (fn_law_lits p) (fs_law_lits p) (sa_cons (se_loc (by rfl) (.inl (by rfl)) (by rfl)) (sa_cons (se_loc (by rfl) (.inr (by rfl)) (by rfl)) sa_nil (by rfl)) (by rfl)) (plain_cons (by rfl)) (by decide) (by rfl) (by rfl)) sa_nil (by rfl)) (plain_cons (by rfl)) (by rfl) (by rfl)) (sa_cons se_none (sa_cons se_bool sa_nil (by rfl)) (by rfl)) (by rfl)) (plain_cons (by rfl)) (by decide) (by rfl)) (tn_loc (by rfl) (by rfl) (.head _)) (by rfl) (by rfl) (by rfl))
  (sb_cons (ss_expr (se_mt (mt_1_watch p) (fs_Trail_watch p) (se_loc (by rfl) (.inr (by rfl)) (by rfl)) (sa_cons (se_loc (by rfl) (.inl (by rfl)) (by rfl)) sa_nil (by rfl)) (plain_cons (by rfl)) (by decide) (by rfl)) (by rfl) (by rfl))
  (sb_cons (ss_if (st_cmp (se_fn (fn_law_next p) (fs_law_next p) (sa_cons (se_loc (by rfl) (.inl (by rfl)) (by rfl)) (sa_cons se_int sa_nil (by rfl)) (by rfl)) (plain_cons (by rfl)) (by decide) (by rfl) (by rfl)) se_int (by rfl)) (sb_cons (ss_assign se_none (tg_sub (se_attr (kls1 p) (by rfl) (se_loc (by rfl) (.inr (by rfl)) (by rfl)) (by rfl)) (se_loc (by rfl) (.inl (by rfl)) (by rfl))) (by rfl) (by rfl) (by rfl))
  sb_nil) sb_nil)
  sb_nil))) (fun _ => by rfl))
  (sb_cons (ss_ret (se_loc (by rfl) (.inr (by rfl)) (by rfl)))
  sb_nil)))))

noncomputable def b1_law : DS :=
  (D.seq (D.ifs (D.not (D.truth (D.call F_law_is_looked_right [(D.loc 2), (D.neg (D.sub (D.attr 1 8 (D.loc 2)) (D.call F_law_next [(D.loc 1), (D.bcall b.len [(D.attr 1 8 (D.loc 2))])])))]))) (D.seq (D.ret (D.const (.bool false)))
  D.skip) D.skip)
  D.skip)
noncomputable def d_law : DS :=
  (D.seq (D.assign (D.dict2 2 (D.comp 4 1 (D.slice (D.loc 0) none (some (D.const (.int 60))) none) (D.tname 4) D.yes (D.bin o.mod (D.bcall b.abs [(D.loc 4)]) (D.const (.int 1000003)))) (D.const (.int 0))) (D.tname 1))
  (D.seq (D.assign (D.call F_law_core [(D.loc 1)]) (D.tname 2))
  (D.seq (D.for (D.bcall b.range [(D.bin o.add (D.const (.int 1)) (D.call F_law_next [(D.loc 1), (D.const (.int 3))]))]) (D.tname 3) b1_law)
  (D.seq (D.ret (D.const (.bool true)))
  D.skip))))
end Mine
namespace Mine

noncomputable abbrev il (l : List Int) : MO := .list (l.map .int)

set_option genInjectivity false in
structure T where
  r : Nat
  as : List Int
  lv : List Int
  rs : List Int
  sp : List Int
  ph : List Int
  ta : Nat
  tr : List Int
  sa : Nat
  st : List Int
  he : Int
  to : Int
  W : List (Nat × List Int)
  C : List (Option (Nat × List Int))
  x1 : List MV
  x2 : List MV
  x3 : List MV

inductive Kd where
  | obj | as | lv | rs | sp | ph | ws | tr | st | cl | x1 | x2 | x3
  | w (i : Nat)
  | c (j : Nat)

noncomputable def refOf : Option (Nat × List Int) → MV
  | some p => .ref p.1
  | none => .none

noncomputable def T.at (t : T) : Kd → Option Nat
  | .obj => some t.r
  | .as => some (t.r + 1)
  | .lv => some (t.r + 2)
  | .rs => some (t.r + 3)
  | .sp => some (t.r + 4)
  | .ph => some (t.r + 5)
  | .ws => some (t.r + 8)
  | .tr => some t.ta
  | .st => some t.sa
  | .cl => some (t.r + 15)
  | .x1 => some (t.r + 16)
  | .x2 => some (t.r + 17)
  | .x3 => some (t.r + 18)
  | .w i => t.W[i]?.map (·.1)
  | .c j => (t.C[j]?.join).map (·.1)
noncomputable def T.is (t : T) : Kd → MO
  | .obj => .obj 1 [.none, .ref (t.r + 1), .ref (t.r + 2), .ref (t.r + 3), .ref (t.r + 4), .ref (t.r + 5), .ref (t.r + 8), .ref (t.r + 9), .ref t.ta, .ref t.sa, .int t.he, .int t.to, .ref (t.r + 15), .ref (t.r + 16), .ref (t.r + 17), .ref (t.r + 18), .int 0]
  | .as => il t.as
  | .lv => il t.lv
  | .rs => il t.rs
  | .sp => il t.sp
  | .ph => il t.ph
  | .ws => .list (t.W.map fun p => .ref p.1)
  | .tr => il t.tr
  | .st => il t.st
  | .cl => .list (t.C.map refOf)
  | .x1 => .list t.x1
  | .x2 => .list t.x2
  | .x3 => .list t.x3
  | .w i => il ((t.W[i]?.map (·.2)).getD [])
  | .c j => il (((t.C[j]?.join).map (·.2)).getD [])

structure Rep (t : T) (H : St) : Prop where
  at' : ∀ k a, t.at k = some a → H[a]? = some (t.is k)
  inj : ∀ k k' a, t.at k = some a → t.at k' = some a → k = k'

theorem Rep.lt {t : T} {H : St} (R : Rep t H) {k : Kd} {a : Nat} (h : t.at k = some a) : a < H.length := (List.getElem?_eq_some_iff.mp (R.at' k a h)).1
theorem Rep.upd {t : T} {H : St} (R : Rep t H) (t' : T) {k : Kd} {a : Nat} (ha : t.at k = some a) (hat : ∀ k, t'.at k = t.at k) (his : ∀ k', k' ≠ k → t'.is k' = t.is k') {o : MO} (ho : t'.is k = o) : Rep t' (H.set a o) := by
  subst ho
  refine ⟨fun k' b hb => ?_, fun k1 k2 b h1 h2 => R.inj k1 k2 b (hat k1 ▸ h1) (hat k2 ▸ h2)⟩
  rw [hat] at hb
  by_cases e : a = b
  · subst e
    rw [R.inj k' k a hb ha, List.getElem?_set_self (R.lt ha)]
  · rw [List.getElem?_set_ne e, R.at' k' b hb, his]
    rintro rfl
    rw [hb] at ha
    exact e (Option.some.inj ha).symm
theorem Rep.frame {t : T} {H H' : St} (R : Rep t H) (h : ∀ k a, t.at k = some a → H'[a]? = H[a]?) : Rep t H' := ⟨fun k a ha => (h k a ha).trans (R.at' k a ha), R.inj⟩
theorem Rep.app {t : T} {H L : St} (R : Rep t H) : Rep t (H ++ L) := R.frame fun k a ha => List.getElem?_append_left (R.lt ha)

noncomputable def Out (t : T) (H H' : St) : Prop := H.length ≤ H'.length ∧ ∀ a, (∀ k, t.at k ≠ some a) → a < H.length → H'[a]? = H[a]?
theorem Out.refl (t : T) (H : St) : Out t H H := ⟨Nat.le_refl _, fun _ _ _ => rfl⟩
theorem Out.app (t : T) (H L : St) : Out t H (H ++ L) := ⟨by simp, fun a _ h => List.getElem?_append_left h⟩
theorem Out.set {t : T} {H H' : St} (x : Out t H H') {k : Kd} {a : Nat} (ha : t.at k = some a) (o : MO) : Out t H (H'.set a o) := by
  refine ⟨by rw [List.length_set]; exact x.1, fun b hb hl => ?_⟩
  rw [List.getElem?_set_ne, x.2 b hb hl]
  rintro rfl
  exact hb k ha
noncomputable def T.val (t : T) (l : Int) : Int := if l > 0 then t.as.getD l.natAbs 0 else -(t.as.getD l.natAbs 0)

end Mine
namespace Mine

theorem seq_next {a b : DS} {lo lo' : Lo} {H H' : St} (h : a lo H = some (.next, lo', H')) : D.seq a b lo H = b lo' H' := by unfold D.seq; rw [h]
theorem seq_cont {a b : DS} {lo lo' : Lo} {H H' : St} (h : a lo H = some (.cont, lo', H')) : D.seq a b lo H = some (.cont, lo', H') := by unfold D.seq; rw [h]
theorem seq_brk {a b : DS} {lo lo' : Lo} {H H' : St} (h : a lo H = some (.brk, lo', H')) : D.seq a b lo H = some (.brk, lo', H') := by unfold D.seq; rw [h]
theorem seq_ret {a b : DS} {lo lo' : Lo} {H H' : St} {v : MV} (h : a lo H = some (.ret v, lo', H')) : D.seq a b lo H = some (.ret v, lo', H') := by unfold D.seq; rw [h]
theorem ev_loc {i : Nat} {lo : Lo} {H : St} {v : MV} (h : lo[i]? = some (some v)) : D.loc i lo H = some (v, H) := by unfold D.loc; rw [h]
theorem ev_args1 {g : DE} {lo : Lo} {H H1 : St} {v : MV} (hg : g lo H = some (v, H1)) : D.args [g] lo H = some ([v], H1) := by
  unfold D.args; rw [hg]; rfl
theorem ev_args2 {g h : DE} {lo : Lo} {H H1 H2 : St} {v u : MV} (hg : g lo H = some (v, H1)) (hh : h lo H1 = some (u, H2)) : D.args [g, h] lo H = some ([v, u], H2) := by
  unfold D.args; rw [hg]; dsimp only [bnd]; rw [ev_args1 hh]
theorem ev_args3 {g h k : DE} {lo : Lo} {H H1 H2 H3 : St} {v u w : MV} (hg : g lo H = some (v, H1)) (hh : h lo H1 = some (u, H2)) (hk : k lo H2 = some (w, H3)) : D.args [g, h, k] lo H = some ([v, u, w], H3) := by
  unfold D.args; rw [hg]; dsimp only [bnd]; rw [ev_args2 hh hk]
theorem isObj_of {c a : Nat} {H : St} {l : List MV} (ha : H[a]? = some (.obj c l)) : isObj c (.ref a) H = true := by
  unfold isObj; dsimp only; rw [ha]; exact beq_self_eq_true c
theorem isList_of {a : Nat} {H : St} {l : List MV} (ha : H[a]? = some (.list l)) : isList (.ref a) H = true := by
  unfold isList; dsimp only; rw [ha]
theorem small_of {n : Nat} (h : n ≤ 1000000) : small n = true := decide_eq_true h
theorem ev_attr {c k a : Nat} {f : DE} {lo : Lo} {H H' : St} {l : List MV} {v : MV} (hf : f lo H = some (.ref a, H')) (ha : H'[a]? = some (.obj c l)) (hk : l[k]? = some v) : D.attr c k f lo H = some (v, H') := by
  unfold D.attr; rw [hf]; dsimp only [bnd]; rw [ha]; dsimp only; rw [if_pos rfl, hk]
theorem ev_bin {b : MV → MV → St → Option (MV × St)} {f g : DE} {lo : Lo} {H H1 H2 : St} {x y : MV} (hf : f lo H = some (x, H1)) (hg : g lo H1 = some (y, H2)) : D.bin b f g lo H = b x y H2 := by
  unfold D.bin; rw [hf]; dsimp only [bnd]; rw [hg]
theorem ev_sub {f g : DE} {lo : Lo} {H H1 H2 : St} {o v : MV} {i : Int} (hf : f lo H = some (o, H1)) (hg : g lo H1 = some (.int i, H2)) (hv : getI o (.int i) H2 = some v) : D.sub f g lo H = some (v, H2) := by
  unfold D.sub; rw [hf]; dsimp only [bnd]; rw [hg]; dsimp only; rw [hv]; rfl
theorem ev_setsub {f fa fi : DE} {lo : Lo} {H H1 : St} {v : MV} {a : Nat} {i : Int} {l : List MV} (hf : f lo H = some (v, H1)) (hfa : fa lo H1 = some (.ref a, H1)) (hfi : fi lo H1 = some (.int i, H1)) (ha : H1[a]? = some (.list l)) (h0 : 0 ≤ i) (hi : i.toNat < l.length) (hs : l.length < 2 ^ 62) :
    D.assign f (D.tsub fa fi) lo H = some (.next, lo, H1.set a (.list (l.set i.toNat v))) := by
  have e : setI (.ref a) (.int i) v H1 = some (H1.set a (.list (l.set i.toNat v))) := by
    unfold setI; dsimp only; rw [ha]; exact if_pos ⟨h0, by (first | decide | assumption | (exact Nat.le_trans (by assumption) (by decide)) | lia | omega), by (first | decide | assumption | (exact Nat.le_trans (by assumption) (by decide)) | lia | omega)⟩
  unfold D.assign D.tsub; rw [hf]; dsimp only [bnd]; rw [hfa]; dsimp only; rw [hfi]; dsimp only; rw [e]; rfl
theorem ev_setname {f : DE} {i : Nat} {lo : Lo} {H H1 : St} {v : MV} (hf : f lo H = some (v, H1)) (hi : i < lo.length) : D.assign f (D.tname i) lo H = some (.next, lo.set i (some v), H1) := by
  unfold D.assign D.tname; rw [hf]; dsimp only [bnd]; rw [if_pos hi]; rfl
theorem ev_append {f g : DE} {lo : Lo} {H H1 : St} {a : Nat} {l : List MV} {v : MV} (hf : f lo H = some (.ref a, H)) (hg : g lo H = some (v, H1)) (h0 : ∃ l, H[a]? = some (.list l)) (ha : H1[a]? = some (.list l)) (hs : l.length ≤ 1000000) :
    D.expr (D.lmeth m.append f [g]) lo H = some (.next, lo, H1.set a (.list (l ++ [v]))) := by
  obtain ⟨l0, h0⟩ := h0
  have e : m.append (.ref a) [v] H1 = some (.none, H1.set a (.list (l ++ [v]))) := by
    unfold m.append; dsimp only; rw [ha]; exact if_pos (small_of hs)
  unfold D.expr D.lmeth
  rw [hf]; dsimp only [bnd]; rw [if_pos (isList_of h0), ev_args1 hg]; dsimp only; rw [e]
theorem ev_len {f : DE} {lo : Lo} {H H1 : St} {a : Nat} {l : List MV} (hf : f lo H = some (.ref a, H1)) (ha : H1[a]? = some (.list l)) (hs : l.length ≤ 1000000) : D.bcall b.len [f] lo H = some (.int l.length, H1) := by
  unfold D.bcall; rw [ev_args1 hf]; dsimp only [bnd]; unfold b.len; dsimp only; rw [ha]; exact if_pos (small_of hs)
theorem ev_meth0 {c a : Nat} {F : DF} {f : DE} {lo : Lo} {H : St} {l : List MV} (hf : f lo H = some (.ref a, H)) (ha : H[a]? = some (.obj c l)) : D.meth c F f [] lo H = F [.ref a] H := by
  unfold D.meth; rw [hf]; dsimp only [bnd]; rw [if_pos (isObj_of ha)]; rfl
theorem ev_meth1 {c a : Nat} {F : DF} {f g : DE} {lo : Lo} {H H1 : St} {l : List MV} {v : MV} (hf : f lo H = some (.ref a, H)) (ha : H[a]? = some (.obj c l)) (hg : g lo H = some (v, H1)) : D.meth c F f [g] lo H = F [.ref a, v] H1 := by
  unfold D.meth; rw [hf]; dsimp only [bnd]; rw [if_pos (isObj_of ha), ev_args1 hg]
theorem ev_meth2 {c a : Nat} {F : DF} {f g h : DE} {lo : Lo} {H H1 H2 : St} {l : List MV} {v u : MV} (hf : f lo H = some (.ref a, H)) (ha : H[a]? = some (.obj c l)) (hg : g lo H = some (v, H1)) (hh : h lo H1 = some (u, H2)) : D.meth c F f [g, h] lo H = F [.ref a, v, u] H2 := by
  unfold D.meth; rw [hf]; dsimp only [bnd]; rw [if_pos (isObj_of ha), ev_args2 hg hh]
theorem ev_call1 {F : DF} {g : DE} {lo : Lo} {H H1 : St} {v : MV} (hg : g lo H = some (v, H1)) : D.call F [g] lo H = F [v] H1 := by
  unfold D.call; rw [ev_args1 hg]; rfl
theorem ev_call2 {F : DF} {g h : DE} {lo : Lo} {H H1 H2 : St} {v u : MV} (hg : g lo H = some (v, H1)) (hh : h lo H1 = some (u, H2)) : D.call F [g, h] lo H = F [v, u] H2 := by
  unfold D.call; rw [ev_args2 hg hh]; rfl
theorem ev_cmpT {op : CmpOp} {f g : DE} {lo : Lo} {H H1 H2 : St} {x y : MV} {b : Bool} (hf : f lo H = some (x, H1)) (hg : g lo H1 = some (y, H2)) (hc : Mine.cmp op x y H2 = some b) : D.cmpT op f g lo H = some (b, H2) := by
  unfold D.cmpT; rw [hf]; dsimp only [bnd]; rw [hg]; dsimp only; rw [hc]; rfl
theorem ev_expr {f : DE} {lo : Lo} {H H1 : St} {v : MV} (hf : f lo H = some (v, H1)) : D.expr f lo H = some (.next, lo, H1) := by unfold D.expr; rw [hf]; rfl
theorem ev_ret {f : DE} {lo : Lo} {H H1 : St} {v : MV} (hf : f lo H = some (v, H1)) : D.ret f lo H = some (.ret v, lo, H1) := by unfold D.ret; rw [hf]; rfl
theorem ev_ifT {t : Lo → St → Option (Bool × St)} {a b : DS} {lo : Lo} {H H1 : St} (ht : t lo H = some (true, H1)) : D.ifs t a b lo H = a lo H1 := by unfold D.ifs; rw [ht]; rfl
theorem ev_ifF {t : Lo → St → Option (Bool × St)} {a b : DS} {lo : Lo} {H H1 : St} (ht : t lo H = some (false, H1)) : D.ifs t a b lo H = b lo H1 := by unfold D.ifs; rw [ht]; rfl
theorem ev_if {t : Lo → St → Option (Bool × St)} {a b : DS} {lo : Lo} {H H1 : St} {c : Bool} (ht : t lo H = some (c, H1)) : D.ifs t a b lo H = if c then a lo H1 else b lo H1 := by unfold D.ifs; rw [ht]; rfl
theorem ev_ite {t : Lo → St → Option (Bool × St)} {f g : DE} {lo : Lo} {H H1 : St} {c : Bool} (ht : t lo H = some (c, H1)) : D.ite t f g lo H = if c then f lo H1 else g lo H1 := by unfold D.ite; rw [ht]; rfl
theorem fn_next {na ns : Nat} {dm : List MV} {b : DS} {args : List MV} {H H' : St} {lo' : Lo} (hl : args.length + dm.length = na) (h : b ((args ++ dm).map some ++ List.replicate (ns - na) none) H = some (.next, lo', H')) : D.fn na ns dm b args H = some (.none, H') := by
  unfold D.fn; rw [if_pos hl, h]
theorem fn_ret {na ns : Nat} {dm : List MV} {b : DS} {args : List MV} {H H' : St} {lo' : Lo} {v : MV} (hl : args.length + dm.length = na) (h : b ((args ++ dm).map some ++ List.replicate (ns - na) none) H = some (.ret v, lo', H')) : D.fn na ns dm b args H = some (v, H') := by
  unfold D.fn; rw [if_pos hl, h]

theorem Rep.attr {t : T} {H H0 : St} (R : Rep t H) {k : Nat} {f : DE} {lo : Lo} {v : MV} {l : List MV} (hl : t.is .obj = .obj 1 l) (hf : f lo H0 = some (.ref t.r, H)) (hk : l[k]? = some v) : D.attr 1 k f lo H0 = some (v, H) :=
  ev_attr hf ((R.at' .obj _ rfl).trans (congrArg some hl)) hk

theorem ev_abs {f : DE} {lo : Lo} {H H1 : St} {i : Int} (hf : f lo H = some (.int i, H1)) : D.bcall b.abs [f] lo H = some (.int i.natAbs, H1) := by
  unfold D.bcall; rw [ev_args1 hf]; dsimp only [bnd]; unfold b.abs; dsimp only
  by_cases h : i < 0
  · rw [if_pos h, show (i.natAbs : Int) = -i by (first | decide | assumption | (exact Nat.le_trans (by assumption) (by decide)) | lia | omega)]
  · rw [if_neg h, show (i.natAbs : Int) = i by (first | decide | assumption | (exact Nat.le_trans (by assumption) (by decide)) | lia | omega)]
theorem setI_list {H : St} {a : Nat} {l : List MV} {i : Int} {v : MV} (ha : H[a]? = some (.list l)) (h0 : 0 ≤ i) (hi : i.toNat < l.length) (hs : l.length ≤ 1000) : setI (.ref a) (.int i) v H = some (H.set a (.list (l.set i.toNat v))) := by
  unfold setI; dsimp only; rw [ha]; exact if_pos ⟨h0, by (first | decide | assumption | (exact Nat.le_trans (by assumption) (by decide)) | lia | omega), by (first | decide | assumption | (exact Nat.le_trans (by assumption) (by decide)) | lia | omega)⟩
theorem ev_tup2 {f g : DE} {lo : Lo} {H H1 H2 : St} {u v : MV} (hf : f lo H = some (u, H1)) (hg : g lo H1 = some (v, H2)) : D.tup [f, g] lo H = some (.tup [u, v], H2) := by
  unfold D.tup; rw [ev_args2 hf hg]; rfl
theorem tupset2_ok {fa fb ga gb gi gj : DE} {lo : Lo} {H : St} {a b : Nat} {l k : List MV} {x y : MV} {i j : Int} (h1 : fa lo H = some (x, H)) (h2 : fb lo H = some (y, H)) (hga : ∀ H, ga lo H = some (.ref a, H)) (hgb : ∀ H, gb lo H = some (.ref b, H)) (hgi : ∀ H, gi lo H = some (.int i, H)) (hgj : ∀ H, gj lo H = some (.int j, H))
    (ha : H[a]? = some (.list l)) (hb : (H.set a (.list (l.set i.toNat x)))[b]? = some (.list k)) (hi0 : 0 ≤ i) (hi : i.toNat < l.length) (hj0 : 0 ≤ j) (hj : j.toNat < k.length) (hs : l.length ≤ 1000) (hs' : k.length ≤ 1000) :
    D.assign (D.tup [fa, fb]) (D.ttup [D.tsub ga gi, D.tsub gb gj]) lo H = some (.next, lo, (H.set a (.list (l.set i.toNat x))).set b (.list (k.set j.toNat y))) := by
  have e1 : D.tsub ga gi x lo H = some (lo, H.set a (.list (l.set i.toNat x))) := by
    unfold D.tsub; rw [hga]; dsimp only [bnd]; rw [hgi]; dsimp only; rw [setI_list ha hi0 hi hs]; rfl
  have e2 : D.tsub gb gj y lo (H.set a (.list (l.set i.toNat x))) = some (lo, (H.set a (.list (l.set i.toNat x))).set b (.list (k.set j.toNat y))) := by
    unfold D.tsub; rw [hgb]; dsimp only [bnd]; rw [hgj]; dsimp only; rw [setI_list hb hj0 hj hs']; rfl
  unfold D.assign
  rw [ev_tup2 h1 h2]
  dsimp only [bnd]
  unfold D.ttup
  dsimp only
  rw [if_pos (by rfl)]
  unfold D.assigns
  rw [e1]
  dsimp only
  unfold D.assigns
  rw [e2]
  rfl
theorem ev_neg {f : DE} {lo : Lo} {H H1 : St} {i : Int} (hf : f lo H = some (.int i, H1)) : D.neg f lo H = some (.int (-i), H1) := by unfold D.neg; rw [hf]; rfl
theorem il_get {l : List Int} {i : Nat} {x : Int} (h : l[i]? = some x) : (l.map MV.int)[i]? = some (.int x) := by rw [List.getElem?_map, h]; rfl
theorem getI_list {H : St} {a : Nat} {l : List MV} {i : Int} {v : MV} (h : H[a]? = some (.list l)) (h0 : 0 ≤ i) (hv : l[i.toNat]? = some v) (hs : l.length < 2 ^ 62) : getI (.ref a) (.int i) H = some v := by
  have hlt := (List.getElem?_eq_some_iff.mp hv).1
  unfold getI; dsimp only; rw [h]; dsimp only; rw [if_pos ⟨h0, by (first | decide | assumption | (exact Nat.le_trans (by assumption) (by decide)) | lia | omega)⟩, hv]
theorem value_ok {t : T} {H : St} (R : Rep t H) {l : Int} (hb : l.natAbs < t.as.length) (hs : t.as.length ≤ 1000) : F_Trail_value [.ref t.r, .int l] H = some (.int (t.val l), H) := by
  refine fn_ret rfl (lo' := [some (.ref t.r), some (.int l)]) (seq_ret (ev_ret ?_))
  show D.ite _ _ _ [some (.ref t.r), some (.int l)] H = _
  rw [ev_ite (ev_cmpT (x := .int l) (y := .int 0) (b := decide (0 < l)) rfl rfl rfl)]
  have hg : t.as[l.natAbs]? = some (t.as.getD l.natAbs 0) := by rw [List.getD_eq_getElem?_getD, List.getElem?_eq_getElem hb]; rfl
  have hm : (t.as.map MV.int).length < 2 ^ 62 := by rw [List.length_map]; (first | decide | assumption | (exact Nat.le_trans (by assumption) (by decide)) | lia | omega)
  unfold T.val
  by_cases hl : 0 < l
  · rw [if_pos (decide_eq_true hl), if_pos hl]
    exact ev_sub (R.attr rfl rfl rfl) rfl (getI_list (R.at' .as _ rfl) (Int.le_of_lt hl) (by rw [show l.toNat = l.natAbs by (first | decide | assumption | (exact Nat.le_trans (by assumption) (by decide)) | lia | omega)]; exact il_get hg) hm)
  · rw [if_neg (by simpa using hl), if_neg hl]
    exact ev_neg (ev_sub (R.attr rfl rfl rfl) (ev_neg rfl) (getI_list (R.at' .as _ rfl) (by (first | decide | assumption | (exact Nat.le_trans (by assumption) (by decide)) | lia | omega)) (by rw [show (-l).toNat = l.natAbs by (first | decide | assumption | (exact Nat.le_trans (by assumption) (by decide)) | lia | omega)]; exact il_get hg) hm))
theorem smallI_of {a : Int} (h1 : -1000000000 < a) (h2 : a < 1000000000) : smallI a = true := by
  simp only [smallI, Bool.and_eq_true, decide_eq_true_eq]
  constructor <;> (first | decide | assumption | (exact Nat.le_trans (by assumption) (by decide)) | lia | omega)
theorem ev_mul {f g : DE} {lo : Lo} {H H1 H2 : St} {x y : Int} (hf : f lo H = some (.int x, H1)) (hg : g lo H1 = some (.int y, H2)) (hs : smallI x = true) : D.bin o.mul f g lo H = some (.int (x * y), H2) := by
  rw [ev_bin hf hg]; unfold o.mul; exact if_pos hs
theorem ev_add {f g : DE} {lo : Lo} {H H1 H2 : St} {x y : Int} (hf : f lo H = some (.int x, H1)) (hg : g lo H1 = some (.int y, H2)) : D.bin o.add f g lo H = some (.int (x + y), H2) := by
  rw [ev_bin hf hg]; rfl
theorem ev_subI {f g : DE} {lo : Lo} {H H1 H2 : St} {x y : Int} (hf : f lo H = some (.int x, H1)) (hg : g lo H1 = some (.int y, H2)) : D.bin o.sub f g lo H = some (.int (x - y), H2) := by
  rw [ev_bin hf hg]; rfl
noncomputable def plc (l : Int) : Int := if l > 0 then 2 * l else 1 - 2 * l
theorem place_ok {H : St} {l : Int} (hb : l.natAbs < 1000) : F_place_of [.int l] H = some (.int (plc l), H) := by
  refine fn_ret rfl (lo' := [some (.int l)]) (seq_ret (ev_ret ?_))
  show D.ite _ _ _ [some (.int l)] H = _
  rw [ev_ite (ev_cmpT (x := .int l) (y := .int 0) (b := decide (0 < l)) rfl rfl rfl)]
  have e := ev_mul (f := D.const (.int 2)) (g := D.loc 0) (lo := [some (.int l)]) (H := H) (x := 2) (y := l) rfl rfl (smallI_of (by (first | decide | assumption | (exact Nat.le_trans (by assumption) (by decide)) | lia | omega)) (by (first | decide | assumption | (exact Nat.le_trans (by assumption) (by decide)) | lia | omega)))
  unfold plc
  by_cases hl : 0 < l
  · rw [if_pos (decide_eq_true hl), if_pos hl]; exact e
  · rw [if_neg (by simpa using hl), if_neg hl]; exact ev_subI (x := 1) rfl e
theorem depth_ok {t : T} {H : St} (R : Rep t H) (hs : t.st.length ≤ 1000) : F_Trail_depth [.ref t.r] H = some (.int t.st.length, H) := by
  refine fn_ret rfl (lo' := [some (.ref t.r)]) ?_
  have e := ev_len (f := D.attr 1 9 (D.loc 0)) (lo := [some (.ref t.r)]) (H := H) (R.attr rfl (ev_loc rfl) rfl) (R.at' .st _ rfl) (by rw [List.length_map]; (first | decide | assumption | (exact Nat.le_trans (by assumption) (by decide)) | lia | omega))
  rw [List.length_map] at e
  exact seq_ret (ev_ret e)
theorem vars_ok {t : T} {H : St} (R : Rep t H) (hs : t.as.length ≤ 1000) : F_Trail_var_count [.ref t.r] H = some (.int (t.as.length - 1), H) := by
  refine fn_ret rfl (lo' := [some (.ref t.r)]) ?_
  have e := ev_len (f := D.attr 1 1 (D.loc 0)) (lo := [some (.ref t.r)]) (H := H) (R.attr rfl (ev_loc rfl) rfl) (R.at' .as _ rfl) (by rw [List.length_map]; (first | decide | assumption | (exact Nat.le_trans (by assumption) (by decide)) | lia | omega))
  rw [List.length_map] at e
  exact seq_ret (ev_ret ((ev_bin e rfl).trans rfl))

theorem Rep.set_as {t : T} {H : St} (R : Rep t H) (l : List Int) : Rep { t with as := l } (H.set (t.r + 1) (il l)) := R.upd { t with as := l } (k := .as) rfl (fun k => by cases k <;> rfl) (fun k h => by cases k <;> first | rfl | exact absurd rfl h) rfl
theorem Rep.set_lv {t : T} {H : St} (R : Rep t H) (l : List Int) : Rep { t with lv := l } (H.set (t.r + 2) (il l)) := R.upd { t with lv := l } (k := .lv) rfl (fun k => by cases k <;> rfl) (fun k h => by cases k <;> first | rfl | exact absurd rfl h) rfl
theorem Rep.set_rs {t : T} {H : St} (R : Rep t H) (l : List Int) : Rep { t with rs := l } (H.set (t.r + 3) (il l)) := R.upd { t with rs := l } (k := .rs) rfl (fun k => by cases k <;> rfl) (fun k h => by cases k <;> first | rfl | exact absurd rfl h) rfl
theorem Rep.set_sp {t : T} {H : St} (R : Rep t H) (l : List Int) : Rep { t with sp := l } (H.set (t.r + 4) (il l)) := R.upd { t with sp := l } (k := .sp) rfl (fun k => by cases k <;> rfl) (fun k h => by cases k <;> first | rfl | exact absurd rfl h) rfl
theorem Rep.set_tr {t : T} {H : St} (R : Rep t H) (l : List Int) : Rep { t with tr := l } (H.set (t.ta) (il l)) := R.upd { t with tr := l } (k := .tr) rfl (fun k => by cases k <;> rfl) (fun k h => by cases k <;> first | rfl | exact absurd rfl h) rfl
theorem Rep.set_st {t : T} {H : St} (R : Rep t H) (l : List Int) : Rep { t with st := l } (H.set (t.sa) (il l)) := R.upd { t with st := l } (k := .st) rfl (fun k => by cases k <;> rfl) (fun k h => by cases k <;> first | rfl | exact absurd rfl h) rfl
theorem Rep.set_x1 {t : T} {H : St} (R : Rep t H) (l : List MV) : Rep { t with x1 := l } (H.set (t.r + 16) (.list l)) := R.upd { t with x1 := l } (k := .x1) rfl (fun k => by cases k <;> rfl) (fun k h => by cases k <;> first | rfl | exact absurd rfl h) rfl
theorem Rep.set_x2 {t : T} {H : St} (R : Rep t H) (l : List MV) : Rep { t with x2 := l } (H.set (t.r + 17) (.list l)) := R.upd { t with x2 := l } (k := .x2) rfl (fun k => by cases k <;> rfl) (fun k h => by cases k <;> first | rfl | exact absurd rfl h) rfl
theorem Rep.set_x3 {t : T} {H : St} (R : Rep t H) (l : List MV) : Rep { t with x3 := l } (H.set (t.r + 18) (.list l)) := R.upd { t with x3 := l } (k := .x3) rfl (fun k => by cases k <;> rfl) (fun k h => by cases k <;> first | rfl | exact absurd rfl h) rfl
noncomputable def T.enq (t : T) (l num : Int) : T :=
  { t with as := t.as.set l.natAbs (if l > 0 then 1 else -1), lv := t.lv.set l.natAbs t.st.length, rs := t.rs.set l.natAbs num, sp := t.sp.set l.natAbs t.tr.length, tr := t.tr ++ [l] }
structure Len (t : T) : Prop where
  lv : t.lv.length = t.as.length
  rs : t.rs.length = t.as.length
  sp : t.sp.length = t.as.length
  as : t.as.length ≤ 100
  tr : t.tr.length ≤ 100
  st : t.st.length ≤ 100
theorem map_set {l : List Int} {i : Nat} {x : Int} : (l.map MV.int).set i (.int x) = (l.set i x).map .int := by rw [List.map_set]

theorem enq_ok {t : T} {H : St} (R : Rep t H) (Ln : Len t) {l num : Int} (hb : l.natAbs < t.as.length) :
    ∃ H', F_Trail_enqueue [.ref t.r, .int l, .int num] H = some (.none, H') ∧ Rep (t.enq l num) H' ∧ Out t H H' ∧ H'.length = H.length := by
  have hs : ∀ {l : List Int}, l.length ≤ 100 → (l.map MV.int).length < 2 ^ 62 := fun h => by rw [List.length_map]; (first | decide | assumption | (exact Nat.le_trans (by assumption) (by decide)) | lia | omega)
  have e0 : D.bcall b.abs [D.loc 1] [some (.ref t.r), some (.int l), some (.int num), none] H = some (.int l.natAbs, H) := ev_abs rfl
  generalize hlo : ([some (.ref t.r), some (.int l), some (.int num), some (.int l.natAbs)] : Lo) = lo
  have l0 : ∀ H, D.loc 0 lo H = some (.ref t.r, H) := fun H => ev_loc (by rw [← hlo]; rfl)
  have l1 : ∀ H, D.loc 1 lo H = some (.int l, H) := fun H => ev_loc (by rw [← hlo]; rfl)
  have l2 : ∀ H, D.loc 2 lo H = some (.int num, H) := fun H => ev_loc (by rw [← hlo]; rfl)
  have l3 : ∀ H, D.loc 3 lo H = some (.int l.natAbs, H) := fun H => ev_loc (by rw [← hlo]; rfl)
  have n3 : ((l.natAbs : Int)).toNat = l.natAbs := rfl
  have e1 : D.ite (D.cmpT .Gt (D.loc 1) (D.const (.int 0))) (D.const (.int 1)) (D.const (.int (-1))) lo H = some (.int (if l > 0 then 1 else -1), H) := by
    rw [ev_ite (ev_cmpT (l1 H) rfl rfl)]
    by_cases h : l > 0 <;> simp [h, D.const]
  -- assigns
  let t1 : T := { t with as := t.as.set l.natAbs (if l > 0 then 1 else -1) }
  have R1 : Rep t1 (H.set (t.r + 1) (il t1.as)) := R.set_as _
  have s1 := ev_setsub (lo := lo) e1 (fa := D.attr 1 1 (D.loc 0)) (R.attr rfl (l0 H) rfl) (l3 H) (R.at' .as _ rfl) (by (first | decide | assumption | (exact Nat.le_trans (by assumption) (by decide)) | lia | omega)) (by rw [n3, List.length_map]; exact hb) (hs Ln.as)
  rw [n3, map_set] at s1
  -- levels
  generalize hH1 : H.set (t.r + 1) (il t1.as) = H1 at R1
  let t2 : T := { t1 with lv := t.lv.set l.natAbs t.st.length }
  have R2 : Rep t2 (H1.set (t.r + 2) (il t2.lv)) := R1.set_lv _
  have dp : F_Trail_depth [.ref t.r] H1 = some (.int t.st.length, H1) := depth_ok (t := t1) R1 (by have := Ln.st; show t.st.length ≤ 1000; (first | decide | assumption | (exact Nat.le_trans (by assumption) (by decide)) | lia | omega))
  have s2 := ev_setsub (lo := lo) ((ev_meth0 (F := F_Trail_depth) (l0 H1) (R1.at' .obj _ rfl)).trans dp) (fa := D.attr 1 2 (D.loc 0)) (R1.attr rfl (l0 H1) rfl) (l3 H1) (R1.at' .lv _ rfl) (by (first | decide | assumption | (exact Nat.le_trans (by assumption) (by decide)) | lia | omega)) (by rw [n3, List.length_map]; show _ < t.lv.length; rw [Ln.lv]; exact hb) (hs (by show t.lv.length ≤ 100; rw [Ln.lv]; exact Ln.as))
  rw [n3, map_set] at s2
  generalize hH2 : H1.set (t.r + 2) (il t2.lv) = H2 at R2
  let t3 : T := { t2 with rs := t.rs.set l.natAbs num }
  have R3 : Rep t3 (H2.set (t.r + 3) (il t3.rs)) := R2.set_rs _
  have s3 := ev_setsub (lo := lo) (l2 H2) (fa := D.attr 1 3 (D.loc 0)) (R2.attr rfl (l0 H2) rfl) (l3 H2) (R2.at' .rs _ rfl) (by (first | decide | assumption | (exact Nat.le_trans (by assumption) (by decide)) | lia | omega)) (by rw [n3, List.length_map]; show _ < t.rs.length; rw [Ln.rs]; exact hb) (hs (by show t.rs.length ≤ 100; rw [Ln.rs]; exact Ln.as))
  rw [n3, map_set] at s3
  generalize hH3 : H2.set (t.r + 3) (il t3.rs) = H3 at R3
  let t4 : T := { t3 with sp := t.sp.set l.natAbs t.tr.length }
  have R4 : Rep t4 (H3.set (t.r + 4) (il t4.sp)) := R3.set_sp _
  have e4 := ev_len (f := D.attr 1 8 (D.loc 0)) (lo := lo) (R3.attr rfl (l0 H3) rfl) (R3.at' .tr _ rfl) (by have := Ln.tr; rw [List.length_map]; show t.tr.length ≤ _; (first | decide | assumption | (exact Nat.le_trans (by assumption) (by decide)) | lia | omega))
  rw [List.length_map] at e4
  have s4 := ev_setsub (lo := lo) e4 (fa := D.attr 1 4 (D.loc 0)) (R3.attr rfl (l0 H3) rfl) (l3 H3) (R3.at' .sp _ rfl) (by (first | decide | assumption | (exact Nat.le_trans (by assumption) (by decide)) | lia | omega)) (by rw [n3, List.length_map]; show _ < t.sp.length; rw [Ln.sp]; exact hb) (hs (by show t.sp.length ≤ 100; rw [Ln.sp]; exact Ln.as))
  rw [n3, map_set] at s4
  generalize hH4 : H3.set (t.r + 4) (il t4.sp) = H4 at R4
  have R5 : Rep (t.enq l num) (H4.set t.ta (il (t.enq l num).tr)) := R4.set_tr _
  have s5 := ev_append (lo := lo) (f := D.attr 1 8 (D.loc 0)) (g := D.loc 1) (R4.attr rfl (l0 H4) rfl) (l1 H4) ⟨_, R4.at' .tr _ rfl⟩ (R4.at' .tr _ rfl) (by have := Ln.tr; rw [List.length_map]; show t.tr.length ≤ _; (first | decide | assumption | (exact Nat.le_trans (by assumption) (by decide)) | lia | omega))
  refine ⟨_, ?_, R5, ?_, ?_⟩
  · refine fn_next (lo' := lo) rfl ?_
    unfold d_Trail_enqueue
    show D.seq _ _ [some (.ref t.r), some (.int l), some (.int num), none] H = _
    rw [seq_next (ev_setname e0 (by simp))]
    show D.seq _ _ [some (.ref t.r), some (.int l), some (.int num), some (.int l.natAbs)] H = _
    rw [hlo, seq_next s1]
    have q1 : H.set (t.r + 1) (il (t.as.set l.natAbs (if l > 0 then 1 else -1))) = H1 := hH1
    rw [q1, seq_next s2]
    have q2 : H1.set (t.r + 2) (il (t.lv.set l.natAbs t.st.length)) = H2 := hH2
    rw [q2, seq_next s3]
    have q3 : H2.set (t.r + 3) (il (t.rs.set l.natAbs num)) = H3 := hH3
    rw [q3, seq_next s4]
    have q4 : H3.set (t.r + 4) (il (t.sp.set l.natAbs t.tr.length)) = H4 := hH4
    rw [q4, seq_next s5]
    show some _ = some _
    congr 3
    show H4.set t.ta (.list (t.tr.map .int ++ [.int l])) = H4.set t.ta (il (t.tr ++ [l]))
    rw [il, List.map_append]; rfl
  · rw [← hH4, ← hH3, ← hH2, ← hH1]
    exact ((((Out.refl t H).set (k := .as) rfl _).set (k := .lv) rfl _).set (k := .rs) rfl _ |>.set (k := .sp) rfl _).set (k := .tr) rfl _
  · rw [← hH4, ← hH3, ← hH2, ← hH1]; simp
end Mine
namespace Mine

theorem range_items (a b : Int) : rangeItems a b 1 = (List.range (b - a).toNat).map fun i : Nat => .int (a + i) := by
  unfold rangeItems Builtin.Range.rangeSize
  simp only [Int.mul_one]
  congr 2
  by_cases h : a < b
  · simp [h]
  · simp [h]; (first | decide | assumption | (exact Nat.le_trans (by assumption) (by decide)) | lia | omega)
theorem range_small {a b : Int} (ha : -1000 ≤ a) (ha' : a ≤ 1000) (hb : -1000 ≤ b) (hb' : b ≤ 1000000) : Builtin.Range.small a b 1 = true := by
  have h : Builtin.Range.rangeSize a b 1 = if a < b then b - a else 0 := by
    unfold Builtin.Range.rangeSize
    by_cases h : a < b
    · simp [h]
    · simp [h]
  unfold Builtin.Range.small Builtin.Range.rangeFitsLong
  rw [h]
  by_cases h : a < b
  · simp [h]; (first | decide | assumption | (exact Nat.le_trans (by assumption) (by decide)) | lia | omega)
  · simp [h]; (first | decide | assumption | (exact Nat.le_trans (by assumption) (by decide)) | lia | omega)
theorem ev_range1 {f : DE} {lo : Lo} {H H1 : St} {y : Int} (hf : f lo H = some (.int y, H1)) : D.bcall b.range [f] lo H = some (.rng 0 y 1, H1) := by
  unfold D.bcall D.args; rw [hf]; rfl
theorem ev_range2 {f g : DE} {lo : Lo} {H H1 H2 : St} {x y : Int} (hf : f lo H = some (.int x, H1)) (hg : g lo H1 = some (.int y, H2)) : D.bcall b.range [f, g] lo H = some (.rng x y 1, H2) := by
  unfold D.bcall; simp only [D.args, hf, hg, bnd_some]; rfl
theorem ev_forR {f : DE} {g : DT} {b : DS} {lo : Lo} {H H1 : St} {x y : Int} (hf : f lo H = some (.rng x y 1, H1)) (h1 : -1000 ≤ x) (h2 : x ≤ 1000) (h3 : -1000 ≤ y) (h4 : y ≤ 1000000) :
    D.for f g b lo H = D.forV g b ((List.range (y - x).toNat).map fun i : Nat => .int (x + i)) lo H1 := by
  unfold D.for; rw [hf]; simp only [bnd_some, srcOf]; rw [if_pos (range_small h1 h2 h3 h4), range_items]; rfl
theorem ev_forList {f : DE} {g : DT} {b : DS} {lo : Lo} {H H1 : St} {r : Nat} {l : List MV} (hf : f lo H = some (.ref r, H1)) (hr : H1[r]? = some (.list l)) : D.for f g b lo H = D.forL g b r (l.length + 1) 0 lo H1 := by
  unfold D.for; rw [hf]; simp only [bnd_some, srcOf, hr]; rfl
theorem range_get {n i : Nat} {x : Int} {v : MV} (h : ((List.range n).map fun i : Nat => MV.int (x + i))[i]? = some v) : i < n ∧ v = .int (x + i) := by
  rw [List.getElem?_map] at h
  obtain ⟨j, hj, e⟩ := Option.map_eq_some_iff.mp h
  obtain ⟨h1, h2⟩ := List.getElem?_eq_some_iff.mp hj
  simp at h1 h2
  subst h2
  exact ⟨h1, e.symm⟩

noncomputable def fstOpen (p : Int → Bool) (g : Int) : List Int → Option (Int × List Int)
  | [] => none
  | l :: r => if p l then some (l, g :: r) else (fstOpen p g r).map fun x => (x.1, l :: x.2)

theorem fstOpen_at {p : Int → Bool} {g : Int} : ∀ {l : List Int} {k : Nat} {x : Int}, l[k]? = some x → p x = true → (∀ j y, j < k → l[j]? = some y → p y = false) → fstOpen p g l = some (x, l.set k g)
  | a :: r, 0, x, h, hp, _ => by
    simp at h; subst h
    simp [fstOpen, hp]
  | a :: r, k + 1, x, h, hp, hb => by
    have ha : p a = false := hb 0 a (Nat.succ_pos _) rfl
    simp only [fstOpen, ha, Bool.false_eq_true, if_false, List.set_cons_succ]
    rw [fstOpen_at (l := r) (k := k) (by simpa using h) hp fun j y hj hy => hb (j + 1) y (by (first | decide | assumption | (exact Nat.le_trans (by assumption) (by decide)) | lia | omega)) (by simpa using hy)]
    rfl
theorem fstOpen_none {p : Int → Bool} {g : Int} : ∀ {l : List Int}, (∀ y ∈ l, p y = false) → fstOpen p g l = none
  | [], _ => rfl
  | a :: r, h => by
    simp only [fstOpen, h a (.head _), Bool.false_eq_true, if_false]
    rw [fstOpen_none fun y hy => h y (.tail _ hy)]; rfl

noncomputable def T.setC (t : T) (j : Nat) (c : List Int) : T := { t with C := t.C.modify j fun o => o.map fun p => (p.1, c) }
noncomputable def T.addW (t : T) (i : Nat) (x : Int) : T := { t with W := t.W.modify i fun p => (p.1, p.2 ++ [x]) }

theorem setC_at {t : T} {j : Nat} {c : List Int} : ∀ k, (t.setC j c).at k = t.at k := by
  intro k
  cases k <;> try rfl
  rename_i i
  simp only [T.at, T.setC, List.getElem?_modify]
  by_cases h : j = i
  · subst h
    cases t.C[j]? with
    | none => simp
    | some o => cases o <;> simp
  · cases t.C[i]? <;> simp [h]
theorem setC_is {t : T} {j : Nat} {c : List Int} : ∀ k, k ≠ .c j → (t.setC j c).is k = t.is k := by
  intro k hk
  cases k <;> try rfl
  · show MO.list _ = MO.list _
    congr 1
    refine List.ext_getElem? fun i => ?_
    simp only [T.setC, List.getElem?_map, List.getElem?_modify]
    by_cases h : j = i
    · subst h
      cases t.C[j]? with
      | none => simp
      | some o => cases o <;> simp [refOf]
    · cases t.C[i]? <;> simp [h]
  · rename_i i
    have h : j ≠ i := fun e => hk (by rw [e])
    simp only [T.is, T.setC, List.getElem?_modify]
    cases t.C[i]? <;> simp [h]
theorem setC_is' {t : T} {j : Nat} {c c0 : List Int} {a : Nat} (h : t.C[j]? = some (some (a, c0))) : (t.setC j c).is (.c j) = il c := by
  simp [T.is, T.setC, List.getElem?_modify, h]
theorem addW_at {t : T} {i : Nat} {x : Int} : ∀ k, (t.addW i x).at k = t.at k := by
  intro k
  cases k <;> try rfl
  rename_i j
  simp only [T.at, T.addW, List.getElem?_modify]
  by_cases h : i = j
  · subst h
    cases t.W[i]? <;> simp
  · cases t.W[j]? <;> simp [h]
theorem addW_is {t : T} {i : Nat} {x : Int} : ∀ k, k ≠ .w i → (t.addW i x).is k = t.is k := by
  intro k hk
  cases k <;> try rfl
  · show MO.list _ = MO.list _
    congr 1
    refine List.ext_getElem? fun j => ?_
    simp only [T.addW, List.getElem?_map, List.getElem?_modify]
    by_cases h : i = j
    · subst h
      cases t.W[i]? <;> simp
    · cases t.W[j]? <;> simp [h]
  · rename_i j
    have h : i ≠ j := fun e => hk (by rw [e])
    simp only [T.is, T.addW, List.getElem?_modify]
    cases t.W[j]? <;> simp [h]
theorem addW_is' {t : T} {i : Nat} {x : Int} {a : Nat} {l : List Int} (h : t.W[i]? = some (a, l)) : (t.addW i x).is (.w i) = il (l ++ [x]) := by
  simp [T.is, T.addW, List.getElem?_modify, h]

theorem T.at_c {t : T} {j a : Nat} {c : List Int} (h : t.C[j]? = some (some (a, c))) : t.at (.c j) = some a := by simp [T.at, h]
theorem T.is_c {t : T} {j a : Nat} {c : List Int} (h : t.C[j]? = some (some (a, c))) : t.is (.c j) = il c := by simp [T.is, h]
theorem T.at_w {t : T} {i a : Nat} {l : List Int} (h : t.W[i]? = some (a, l)) : t.at (.w i) = some a := by simp [T.at, h]
theorem T.is_w {t : T} {i a : Nat} {l : List Int} (h : t.W[i]? = some (a, l)) : t.is (.w i) = il l := by simp [T.is, h]

theorem ev_watch {t : T} {H : St} (R : Rep t H) {f g : DE} {lo : Lo} {l : Int} (hf : f lo H = some (.ref t.r, H)) (hg : g lo H = some (.int l, H)) (hl : l.natAbs < 1000) {a : Nat} {ns : List Int} (hw : t.W[(plc l).toNat]? = some (a, ns)) (hW : t.W.length ≤ 1000) :
    D.sub (D.attr 1 6 f) (D.call F_place_of [g]) lo H = some (.ref a, H) := by
  have hp : 0 ≤ plc l := by unfold plc; split <;> (first | decide | assumption | (exact Nat.le_trans (by assumption) (by decide)) | lia | omega)
  refine ev_sub (R.attr rfl hf rfl) ((ev_call1 hg).trans (place_ok hl)) (getI_list (R.at' .ws _ rfl) hp ?_ (by rw [List.length_map]; (first | decide | assumption | (exact Nat.le_trans (by assumption) (by decide)) | lia | omega)))
  rw [List.getElem?_map, hw]; rfl

theorem tupset_ok {fa fb ga gb gi gj : DE} {lo : Lo} {H : St} {a : Nat} {l : List MV} {x y : MV} {i j : Int} (h1 : fa lo H = some (x, H)) (h2 : fb lo H = some (y, H)) (hga : ∀ H, ga lo H = some (.ref a, H)) (hgb : ∀ H, gb lo H = some (.ref a, H)) (hgi : ∀ H, gi lo H = some (.int i, H)) (hgj : ∀ H, gj lo H = some (.int j, H))
    (ha : H[a]? = some (.list l)) (hi0 : 0 ≤ i) (hi : i.toNat < l.length) (hj0 : 0 ≤ j) (hj : j.toNat < l.length) (hs : l.length < 1000) :
    D.assign (D.tup [fa, fb]) (D.ttup [D.tsub ga gi, D.tsub gb gj]) lo H = some (.next, lo, H.set a (.list ((l.set i.toNat x).set j.toNat y))) := by
  have hlt : a < H.length := (List.getElem?_eq_some_iff.mp ha).1
  have := tupset2_ok h1 h2 hga hgb hgi hgj ha (List.getElem?_set_self hlt) hi0 hi hj0 (by rw [List.length_set]; exact hj) (Nat.le_of_lt hs) (by rw [List.length_set]; exact Nat.le_of_lt hs)
  rw [List.set_set] at this
  exact this
end Mine
namespace Mine

theorem ints_append {l : List Int} {x : Int} : l.map MV.int ++ [.int x] = (l ++ [x]).map .int := by rw [List.map_append]; rfl
theorem ev_item {f g : DE} {lo : Lo} {H : St} {a : Nat} {l : List Int} {i : Int} {x : Int} (hf : f lo H = some (.ref a, H)) (hg : g lo H = some (.int i, H)) (ha : H[a]? = some (il l)) (h0 : 0 ≤ i) (hx : l[i.toNat]? = some x) (hs : l.length < 1000) :
    D.sub f g lo H = some (.int x, H) := ev_sub hf hg (getI_list ha h0 (il_get hx) (by rw [List.length_map]; (first | decide | assumption | (exact Nat.le_trans (by assumption) (by decide)) | lia | omega)))
theorem ev_value {t : T} {H : St} (R : Rep t H) {f g : DE} {lo : Lo} {l : Int} (hf : f lo H = some (.ref t.r, H)) (hg : g lo H = some (.int l, H)) (hb : l.natAbs < t.as.length) (hs : t.as.length ≤ 1000) :
    D.meth 1 F_Trail_value f [g] lo H = some (.int (t.val l), H) := (ev_meth1 hf (R.at' .obj _ rfl) hg).trans (value_ok R hb hs)

theorem moved_ok {t : T} {H : St} (R : Rep t H) (hs : t.as.length ≤ 100) (hW : t.W.length ≤ 1000) {j a : Nat} {o g num : Int} {rest : List Int} (hC : t.C[j]? = some (some (a, o :: g :: rest))) (hr : ∀ l ∈ rest, l.natAbs < t.as.length) (hl : rest.length ≤ 100)
    (hw : ∀ l ∈ rest, ∃ b ns, t.W[(plc l).toNat]? = some (b, ns) ∧ ns.length ≤ 1000) :
    match fstOpen (fun l => decide (t.val l ≠ -1)) g rest with
    | none => F_Trail_moved [.ref t.r, .int num, .ref a] H = some (.bool false, H)
    | some (x, rest') => ∃ H', F_Trail_moved [.ref t.r, .int num, .ref a] H = some (.bool true, H') ∧ Rep ((t.setC j (o :: x :: rest')).addW (plc x).toNat num) H' ∧ Out t H H' ∧ H'.length = H.length := by
  have hac := T.at_c hC
  have hc : H[a]? = some (il (o :: g :: rest)) := (R.at' _ _ hac).trans (congrArg some (T.is_c hC))
  have hlen : D.bcall b.len [D.loc 2] [some (.ref t.r), some (.int num), some (.ref a), none] H = some (.int ((rest.length + 2 : Nat) : Int), H) := by
    have := ev_len (f := D.loc 2) (lo := [some (.ref t.r), some (.int num), some (.ref a), none]) (ev_loc rfl) hc (by simp; (first | decide | assumption | (exact Nat.le_trans (by assumption) (by decide)) | lia | omega))
    rw [List.length_map] at this
    exact this
  have hn : (((rest.length + 2 : Nat) : Int) - 2).toNat = rest.length := by (first | decide | assumption | (exact Nat.le_trans (by assumption) (by decide)) | lia | omega)
  have hfor := ev_forR (g := D.tname 3) (b := b1_Trail_moved) (ev_range2 (f := D.const (.int 2)) (lo := [some (.ref t.r), some (.int num), some (.ref a), none]) (H := H) rfl hlen) (by (first | decide | assumption | (exact Nat.le_trans (by assumption) (by decide)) | lia | omega)) (by (first | decide | assumption | (exact Nat.le_trans (by assumption) (by decide)) | lia | omega)) (by (first | decide | assumption | (exact Nat.le_trans (by assumption) (by decide)) | lia | omega)) (by (first | decide | assumption | (exact Nat.le_trans (by assumption) (by decide)) | lia | omega))
  rw [hn] at hfor
  have rule := forV_rule (g := D.tname 3) (b := b1_Trail_moved) (l := (List.range rest.length).map fun i : Nat => MV.int (2 + i))
    (fun i lo H' => H' = H ∧ (∃ u, lo = [some (.ref t.r), some (.int num), some (.ref a), u]) ∧ ∀ (k : Nat) y, k < i → rest[k]? = some y → t.val y = -1)
    (Q := fun lo H' => H' = H ∧ (∃ u, lo = [some (.ref t.r), some (.int num), some (.ref a), u]) ∧ ∀ y ∈ rest, t.val y = -1)
    (R := fun v lo H' => v = .bool true ∧ ∃ (k : Nat) (x : Int), rest[k]? = some x ∧ t.val x ≠ -1 ∧ (∀ (k' : Nat) y, k' < k → rest[k']? = some y → t.val y = -1) ∧ Rep ((t.setC j (o :: x :: rest.set k g)).addW (plc x).toNat num) H' ∧ Out t H H' ∧ H'.length = H.length)
    (fun i v lo H' hv ⟨hH, ⟨u, hlo⟩, hb⟩ => by
      subst hH; subst hlo
      obtain ⟨hi, rfl⟩ := range_get hv
      refine ⟨[some (.ref t.r), some (.int num), some (.ref a), some (.int (2 + i))], H', rfl, ?_⟩
      obtain ⟨y, hy⟩ : ∃ y, rest[i]? = some y := ⟨_, List.getElem?_eq_getElem hi⟩
      have hmem := List.mem_of_getElem? hy
      have l0 : ∀ H, D.loc 0 [some (.ref t.r), some (.int num), some (.ref a), some (.int (2 + i))] H = some (.ref t.r, H) := fun H => rfl
      have l1 : ∀ H, D.loc 1 [some (.ref t.r), some (.int num), some (.ref a), some (.int (2 + i))] H = some (.int num, H) := fun H => rfl
      have l2 : ∀ H, D.loc 2 [some (.ref t.r), some (.int num), some (.ref a), some (.int (2 + i))] H = some (.ref a, H) := fun H => rfl
      have l3 : ∀ H, D.loc 3 [some (.ref t.r), some (.int num), some (.ref a), some (.int (2 + i))] H = some (.int (2 + i), H) := fun H => rfl
      generalize hL : ([some (.ref t.r), some (.int num), some (.ref a), some (.int (2 + i))] : Lo) = L at l0 l1 l2 l3 ⊢
      have i2 : ((2 : Int) + (i : Int)).toNat = i + 2 := by (first | decide | assumption | (exact Nat.le_trans (by assumption) (by decide)) | lia | omega)
      have e1 : D.sub (D.loc 2) (D.loc 3) L H' = some (.int y, H') := ev_item (l2 H') (l3 H') hc (by (first | decide | assumption | (exact Nat.le_trans (by assumption) (by decide)) | lia | omega)) (by rw [i2]; exact hy) (by simp; (first | decide | assumption | (exact Nat.le_trans (by assumption) (by decide)) | lia | omega))
      have e2 : D.sub (D.loc 2) (D.const (.int 1)) L H' = some (.int g, H') := ev_item (l2 H') rfl hc (by (first | decide | assumption | (exact Nat.le_trans (by assumption) (by decide)) | lia | omega)) rfl (by simp; (first | decide | assumption | (exact Nat.le_trans (by assumption) (by decide)) | lia | omega))
      have ev := ev_value R (l0 H') e1 (hr y hmem) (by (first | decide | assumption | (exact Nat.le_trans (by assumption) (by decide)) | lia | omega))
      by_cases hval : t.val y = -1
      · have hcmp : D.cmpT .NotEq (D.meth 1 F_Trail_value (D.loc 0) [D.sub (D.loc 2) (D.loc 3)]) (D.const (.int (-1))) L H' = some (false, H') := ev_cmpT ev rfl (by simp [Mine.cmp, Mine.intC, hval])
        rw [b1_Trail_moved, seq_next ((ev_ifF hcmp).trans rfl)]
        refine ⟨rfl, ⟨_, hL.symm⟩, fun k z hk hz => ?_⟩
        by_cases hki : k = i
        · subst hki; rw [hy] at hz; cases hz; exact hval
        · exact hb k z (by (first | decide | assumption | (exact Nat.le_trans (by assumption) (by decide)) | lia | omega)) hz
      · have hcmp : D.cmpT .NotEq (D.meth 1 F_Trail_value (D.loc 0) [D.sub (D.loc 2) (D.loc 3)]) (D.const (.int (-1))) L H' = some (true, H') := ev_cmpT ev rfl (by simp [Mine.cmp, Mine.intC, hval])
        have s1 := tupset_ok (ga := D.loc 2) (gb := D.loc 2) (gi := D.const (.int 1)) (gj := D.loc 3) e1 e2 l2 l2 (fun _ => rfl) l3 hc (by (first | decide | assumption | (exact Nat.le_trans (by assumption) (by decide)) | lia | omega)) (by simp) (by (first | decide | assumption | (exact Nat.le_trans (by assumption) (by decide)) | lia | omega)) (by rw [i2]; simp; (first | decide | assumption | (exact Nat.le_trans (by assumption) (by decide)) | lia | omega)) (by simp; (first | decide | assumption | (exact Nat.le_trans (by assumption) (by decide)) | lia | omega))
        rw [i2] at s1
        have hset : (((o :: g :: rest).map MV.int).set (Int.toNat 1) (.int y)).set (i + 2) (.int g) = (o :: y :: rest.set i g).map .int := by simp [List.map_set]
        rw [hset] at s1
        have R1 : Rep (t.setC j (o :: y :: rest.set i g)) (H'.set a (il (o :: y :: rest.set i g))) := R.upd _ hac (fun k => setC_at k) (fun k hk => setC_is k hk) (setC_is' hC)
        generalize hH1 : H'.set a (il (o :: y :: rest.set i g)) = H1 at R1
        have s1' : D.assign (D.tup [(D.sub (D.loc 2) (D.loc 3)), (D.sub (D.loc 2) (D.const (.int 1)))]) (D.ttup [(D.tsub (D.loc 2) (D.const (.int 1))), (D.tsub (D.loc 2) (D.loc 3))]) L H' = some (.next, L, H1) := by rw [← hH1]; exact s1
        have hc1 : H1[a]? = some (il (o :: y :: rest.set i g)) := by rw [← hH1]; exact List.getElem?_set_self (R.lt hac)
        have e3 : D.sub (D.loc 2) (D.const (.int 1)) L H1 = some (.int y, H1) := ev_item (l2 H1) rfl hc1 (by (first | decide | assumption | (exact Nat.le_trans (by assumption) (by decide)) | lia | omega)) rfl (by simp; (first | decide | assumption | (exact Nat.le_trans (by assumption) (by decide)) | lia | omega))
        obtain ⟨b, ns, hwb, hns⟩ := hw y hmem
        have hy100 : y.natAbs < 1000 := by have := hr y hmem; (first | decide | assumption | (exact Nat.le_trans (by assumption) (by decide)) | lia | omega)
        have e4 := ev_watch (t := t.setC j (o :: y :: rest.set i g)) R1 (l0 H1) e3 hy100 hwb hW
        have haw := T.at_w (t := t.setC j (o :: y :: rest.set i g)) hwb
        have hb1 : H1[b]? = some (il ns) := (R1.at' _ _ haw).trans (congrArg some (T.is_w (t := t.setC j (o :: y :: rest.set i g)) hwb))
        have s2 := ev_append e4 (l1 H1) ⟨_, hb1⟩ hb1 (by rw [List.length_map]; (first | decide | assumption | (exact Nat.le_trans (by assumption) (by decide)) | lia | omega))
        rw [ints_append] at s2
        have R2 : Rep ((t.setC j (o :: y :: rest.set i g)).addW (plc y).toNat num) (H1.set b (il (ns ++ [num]))) := R1.upd _ haw (fun k => addW_at k) (fun k hk => addW_is k hk) (addW_is' (t := t.setC j (o :: y :: rest.set i g)) hwb)
        have hbody : D.ifs (D.cmpT .NotEq (D.meth 1 F_Trail_value (D.loc 0) [(D.sub (D.loc 2) (D.loc 3))]) (D.const (.int (-1)))) (D.seq (D.assign (D.tup [(D.sub (D.loc 2) (D.loc 3)), (D.sub (D.loc 2) (D.const (.int 1)))]) (D.ttup [(D.tsub (D.loc 2) (D.const (.int 1))), (D.tsub (D.loc 2) (D.loc 3))]))
          (D.seq (D.expr (D.lmeth m.append (D.sub (D.attr 1 6 (D.loc 0)) (D.call F_place_of [(D.sub (D.loc 2) (D.const (.int 1)))])) [(D.loc 1)]))
          (D.seq (D.ret (D.const (.bool true))) D.skip))) D.skip L H' = some (.ret (.bool true), L, H1.set b (il (ns ++ [num]))) := by
          rw [ev_ifT hcmp, seq_next s1', seq_next s2]; rfl
        rw [b1_Trail_moved, seq_ret hbody]
        refine ⟨rfl, i, y, hy, hval, hb, R2, ?_, ?_⟩
        · rw [← hH1]
          exact ((Out.refl t H').set hac _).set (k := .w (plc y).toNat) (T.at_w hwb) _
        · rw [← hH1]; simp)
    (fun lo H' ⟨hH, hlo, hb⟩ => ⟨hH, hlo, fun y hy => by
      obtain ⟨k, hk, e⟩ := List.mem_iff_getElem.mp hy
      exact hb k y (by simpa using hk) (by rw [List.getElem?_eq_getElem hk, e])⟩)
    (lo := [some (.ref t.r), some (.int num), some (.ref a), none]) (H := H) ⟨rfl, ⟨_, rfl⟩, fun k y hk => by (first | decide | assumption | (exact Nat.le_trans (by assumption) (by decide)) | lia | omega)⟩
  rw [← hfor] at rule
  rcases rule.both with ⟨lo, H', e, rfl, ⟨u, rfl⟩, hall⟩ | ⟨v, lo, H', e, rfl, k, x, hk, hx, hb, R2, O2, hl2⟩
  · rw [fstOpen_none fun y hy => by simp [hall y hy]]
    refine fn_ret rfl (lo' := [some (.ref t.r), some (.int num), some (.ref a), u]) ?_
    unfold d_Trail_moved
    show D.seq _ _ [some (.ref t.r), some (.int num), some (.ref a), none] _ = _
    rw [seq_next e]; rfl
  · rw [fstOpen_at hk (by simpa using hx) fun j' y hj hy => by simp [hb j' y hj hy]]
    refine ⟨H', fn_ret rfl (lo' := lo) ?_, R2, O2, hl2⟩
    unfold d_Trail_moved
    show D.seq _ _ [some (.ref t.r), some (.int num), some (.ref a), none] _ = _
    rw [seq_ret e]
end Mine
namespace Mine

set_option genInjectivity false in
structure LS where
  told : Int
  lists : List (Option (List Int))
  stays : List Int
  goes : List (Int × Int)
  forced : List (Int × Int)
  ones : List Int

noncomputable def lstep (gone : Int) (s : LS) (num : Int) : LS :=
  if s.told ≠ -1 then { s with stays := s.stays ++ [num] } else
  match s.lists[num.toNat]? with
  | some (some (a :: b :: rest)) =>
    let other := if b = gone then a else b
    match (if other ∈ s.ones then none else fstOpen (fun l => decide (-l ∉ s.ones)) gone rest) with
    | some (o, rest') => { s with goes := s.goes ++ [(o, num)], lists := s.lists.set num.toNat (some (other :: o :: rest')) }
    | none =>
      if -other ∈ s.ones then { s with lists := s.lists.set num.toNat (some (other :: gone :: rest)), stays := s.stays ++ [num], told := num }
      else if other ∈ s.ones then { s with lists := s.lists.set num.toNat (some (other :: gone :: rest)), stays := s.stays ++ [num] }
      else { s with lists := s.lists.set num.toNat (some (other :: gone :: rest)), stays := s.stays ++ [num], forced := s.forced ++ [(other, num)], ones := s.ones ++ [other] }
  | _ => s

theorem lstep_told {gone : Int} : ∀ {l : List Int} {s : LS}, s.told ≠ -1 → l.foldl (lstep gone) s = { s with stays := s.stays ++ l }
  | [], s, h => by simp
  | x :: l, s, h => by
    simp only [List.foldl_cons]
    have e : lstep gone s x = { s with stays := s.stays ++ [x] } := by unfold lstep; rw [if_pos h]
    rw [e, lstep_told (s := { s with stays := s.stays ++ [x] }) h]
    simp [List.append_assoc]

noncomputable def addWs (W : List (Nat × List Int)) (p : Int × Int) : List (Nat × List Int) := W.modify (plc p.1).toNat fun q => (q.1, q.2 ++ [p.2])
noncomputable def cOf (C : List (Option (Nat × List Int))) (ls : List (Option (List Int))) : List (Option (Nat × List Int)) := C.zipWith (fun o l => o.map fun p => (p.1, l.getD [])) ls
noncomputable def T.enqs (t : T) (fs : List (Int × Int)) : T := fs.foldl (fun t p => t.enq p.1 p.2) t
noncomputable def T.of (t : T) (s : LS) : T := { t.enqs s.forced with W := s.goes.foldl addWs t.W, C := cOf t.C s.lists }

theorem enqs_snoc {t : T} {fs : List (Int × Int)} {p : Int × Int} : t.enqs (fs ++ [p]) = (t.enqs fs).enq p.1 p.2 := by unfold T.enqs; rw [List.foldl_append]; rfl
theorem cOf_set {C : List (Option (Nat × List Int))} {ls : List (Option (List Int))} {j : Nat} {c : List Int} (h : ls.length = C.length) : cOf C (ls.set j (some c)) = (cOf C ls).modify j fun o => o.map fun p => (p.1, c) := by
  refine List.ext_getElem? fun i => ?_
  simp only [cOf, List.getElem?_zipWith, List.getElem?_modify, List.getElem?_set]
  by_cases hj : j = i
  · subst hj
    by_cases hl : j < ls.length
    · simp [hl]
      cases C[j]? with
      | none => simp
      | some o => cases o <;> simp
    · have : C[j]? = none := List.getElem?_eq_none (by (first | decide | assumption | (exact Nat.le_trans (by assumption) (by decide)) | lia | omega))
      simp [this, hl]
  · simp [hj]

theorem of_setC {t : T} {s : LS} {j : Nat} {c : List Int} (h : s.lists.length = t.C.length) : (t.of s).setC j c = t.of { s with lists := s.lists.set j (some c) } := by
  unfold T.of T.setC
  simp only [cOf_set h]
theorem of_addW {t : T} {s : LS} {o num : Int} : (t.of s).addW (plc o).toNat num = t.of { s with goes := s.goes ++ [(o, num)] } := by
  unfold T.of T.addW
  simp only [List.foldl_append]
  rfl
theorem of_enq {t : T} {s : LS} {o num : Int} {os : List Int} : (t.of s).enq o num = t.of { s with forced := s.forced ++ [(o, num)], ones := os } := by
  unfold T.of
  simp only [enqs_snoc]
  rfl
theorem of_C {t : T} {s : LS} {j : Nat} {c : List Int} (hl : s.lists.length = t.C.length) (h : s.lists[j]? = some (some c)) {a : Nat} {c0 : List Int} (hC : t.C[j]? = some (some (a, c0))) : (t.of s).C[j]? = some (some (a, c)) := by
  simp only [T.of, cOf, List.getElem?_zipWith, hC, h]; rfl

structure Fit (n : Nat) (gone : Int) (t : T) (s : LS) (todo : List Int) : Prop where
  len : s.lists.length = t.C.length
  same : ∀ j : Nat, (t.C[j]?.join = none ↔ s.lists[j]?.join = none)
  val : ∀ l : Int, 1 ≤ l.natAbs → l.natAbs ≤ n → (t.of s).val l = if l ∈ s.ones then 1 else if -l ∈ s.ones then -1 else 0
  one : ∀ l ∈ s.ones, 1 ≤ l.natAbs ∧ l.natAbs ≤ n
  ndo : (s.ones.map Int.natAbs).Nodup
  tr : (t.of s).tr = s.ones
  gon : -gone ∈ s.ones
  good : ∀ (j : Nat) c, s.lists[j]? = some (some c) → 2 ≤ c.length ∧ c.length ≤ 10 ∧ (c.map Int.natAbs).Nodup ∧ ∀ l ∈ c, 1 ≤ l.natAbs ∧ l.natAbs ≤ n
  wat : ∀ x ∈ todo, 0 ≤ x ∧ x.toNat < t.C.length ∧ ∀ a b rest, s.lists[x.toNat]? = some (some (a :: b :: rest)) → a = gone ∨ b = gone
  nd : todo.Nodup

theorem nodup_le : ∀ {n : Nat} {l : List Nat}, l.Nodup → (∀ x ∈ l, 1 ≤ x ∧ x ≤ n) → l.length ≤ n
  | 0, l, _, h => by
    cases l with
    | nil => simp
    | cons a r => have := h a (.head _); (first | decide | assumption | (exact Nat.le_trans (by assumption) (by decide)) | lia | omega)
  | n + 1, l, nd, h => by
    by_cases hm : n + 1 ∈ l
    · have h1 := nodup_le (n := n) (l := l.erase (n + 1)) (nd.erase _) fun x hx => by
        have hx' := List.mem_of_mem_erase hx
        have hne : x ≠ n + 1 := fun e => by
          rw [List.Nodup.mem_erase_iff nd] at hx
          exact hx.1 e
        have := h x hx'
        (first | decide | assumption | (exact Nat.le_trans (by assumption) (by decide)) | lia | omega)
      rw [List.length_erase_of_mem hm] at h1
      (first | decide | assumption | (exact Nat.le_trans (by assumption) (by decide)) | lia | omega)
    · have := nodup_le (n := n) (l := l) nd fun x hx => by
        have := h x hx
        have : x ≠ n + 1 := fun e => hm (e ▸ hx)
        (first | decide | assumption | (exact Nat.le_trans (by assumption) (by decide)) | lia | omega)
      (first | decide | assumption | (exact Nat.le_trans (by assumption) (by decide)) | lia | omega)
theorem neg_not {l : List Int} (nd : (l.map Int.natAbs).Nodup) {x : Int} (h0 : x ≠ 0) (h1 : x ∈ l) (h2 : -x ∈ l) : False := by
  obtain ⟨i, hi, e1⟩ := List.mem_iff_getElem.mp h1
  obtain ⟨j, hj, e2⟩ := List.mem_iff_getElem.mp h2
  have a1 : (l.map Int.natAbs)[i]? = some x.natAbs := by rw [List.getElem?_map, List.getElem?_eq_getElem hi, e1]; rfl
  have a2 : (l.map Int.natAbs)[j]? = some x.natAbs := by rw [List.getElem?_map, List.getElem?_eq_getElem hj, e2]; simp
  have := nodup_get nd a1 a2
  subst this
  rw [e1] at e2
  (first | decide | assumption | (exact Nat.le_trans (by assumption) (by decide)) | lia | omega)

section
variable {n : Nat} {gone : Int} {t : T} {s : LS} {todo : List Int}
theorem Fit.neg (F : Fit n gone t s todo) {l : Int} (h : l ∈ s.ones) : -l ∉ s.ones := fun h2 => by
  have := (F.one l h).1
  exact neg_not F.ndo (by (first | decide | assumption | (exact Nat.le_trans (by assumption) (by decide)) | lia | omega)) h h2
theorem Fit.val1 (F : Fit n gone t s todo) {l : Int} (h1 : 1 ≤ l.natAbs) (h2 : l.natAbs ≤ n) : (t.of s).val l = 1 ↔ l ∈ s.ones := by
  rw [F.val l h1 h2]
  by_cases a : l ∈ s.ones
  · simp [a]
  · by_cases b : -l ∈ s.ones <;> simp [a, b]
theorem Fit.valm (F : Fit n gone t s todo) {l : Int} (h1 : 1 ≤ l.natAbs) (h2 : l.natAbs ≤ n) : (t.of s).val l = -1 ↔ -l ∈ s.ones := by
  rw [F.val l h1 h2]
  by_cases a : l ∈ s.ones
  · simp [a, F.neg a]
  · by_cases b : -l ∈ s.ones <;> simp [a, b]
theorem Fit.val0 (F : Fit n gone t s todo) {l : Int} (h1 : 1 ≤ l.natAbs) (h2 : l.natAbs ≤ n) : (t.of s).val l = 0 ↔ l ∉ s.ones ∧ -l ∉ s.ones := by
  rw [F.val l h1 h2]
  by_cases a : l ∈ s.ones
  · simp [a]
  · by_cases b : -l ∈ s.ones <;> simp [a, b]
theorem fstOpen_congr {p q : Int → Bool} {g : Int} : ∀ {l : List Int}, (∀ x ∈ l, p x = q x) → fstOpen p g l = fstOpen q g l
  | [], _ => rfl
  | a :: r, h => by
    simp only [fstOpen, h a (.head _)]
    rw [fstOpen_congr fun x hx => h x (.tail _ hx)]
end
end Mine
namespace Mine

theorem fstOpen_perm {p : Int → Bool} {g o : Int} : ∀ {l l' : List Int}, fstOpen p g l = some (o, l') → List.Perm (o :: l') (g :: l)
  | [], _, h => by cases h
  | a :: r, l', h => by
    simp only [fstOpen] at h
    split at h
    · cases h; exact List.Perm.swap _ _ _
    · obtain ⟨x, hx, e⟩ := Option.map_eq_some_iff.mp h
      obtain ⟨o', r'⟩ := x
      cases e
      have ih := fstOpen_perm hx
      exact ((List.Perm.swap _ _ _).trans (ih.cons a)).trans (List.Perm.swap _ _ _)
theorem fstOpen_mem {p : Int → Bool} {g o : Int} : ∀ {l l' : List Int}, fstOpen p g l = some (o, l') → o ∈ l ∧ p o = true
  | [], _, h => by cases h
  | a :: r, l', h => by
    simp only [fstOpen] at h
    split at h
    · rename_i hp; cases h; exact ⟨.head _, hp⟩
    · obtain ⟨x, hx, e⟩ := Option.map_eq_some_iff.mp h
      obtain ⟨o', r'⟩ := x
      cases e
      obtain ⟨h1, h2⟩ := fstOpen_mem hx
      exact ⟨.tail _ h1, h2⟩

theorem val_enq {t : T} {o num l : Int} (ho : 1 ≤ o.natAbs) (hb : o.natAbs < t.as.length) (hl : 1 ≤ l.natAbs) : (t.enq o num).val l = if l = o then 1 else if l = -o then -1 else t.val l := by
  have key : (t.as.set o.natAbs (if o > 0 then 1 else -1)).getD l.natAbs 0 = if l.natAbs = o.natAbs then (if o > 0 then 1 else -1) else t.as.getD l.natAbs 0 := by
    rw [List.getD_eq_getElem?_getD, List.getD_eq_getElem?_getD, List.getElem?_set]
    by_cases h : o.natAbs = l.natAbs
    · rw [if_pos h, if_pos (h ▸ hb), if_pos h.symm]; rfl
    · rw [if_neg h, if_neg (Ne.symm h)]
  unfold T.val
  show (if l > 0 then (t.as.set o.natAbs (if o > 0 then 1 else -1)).getD l.natAbs 0 else -((t.as.set o.natAbs (if o > 0 then 1 else -1)).getD l.natAbs 0)) = _
  rw [key]
  by_cases e1 : l = o
  · subst e1
    by_cases hp : l > 0 <;> simp [hp]
  · by_cases e2 : l = -o
    · have ea : l.natAbs = o.natAbs := by (first | decide | assumption | (exact Nat.le_trans (by assumption) (by decide)) | lia | omega)
      rw [if_neg e1, if_pos e2, if_pos ea]
      by_cases hp : o > 0
      · have : ¬ l > 0 := by (first | decide | assumption | (exact Nat.le_trans (by assumption) (by decide)) | lia | omega)
        simp [hp, this]
      · have : l > 0 := by (first | decide | assumption | (exact Nat.le_trans (by assumption) (by decide)) | lia | omega)
        simp [hp, this]
    · have ea : ¬ l.natAbs = o.natAbs := by (first | decide | assumption | (exact Nat.le_trans (by assumption) (by decide)) | lia | omega)
      rw [if_neg e1, if_neg e2, if_neg ea]

theorem enqs_as {t : T} : ∀ {fs : List (Int × Int)}, (t.enqs fs).as.length = t.as.length := by
  intro fs
  induction fs generalizing t with
  | nil => rfl
  | cons p fs ih => exact (ih (t := t.enq p.1 p.2)).trans (by simp [T.enq])
theorem of_as {t : T} {s : LS} : (t.of s).as.length = t.as.length := enqs_as

section
variable {n : Nat} {gone : Int} {t : T} {s : LS} {todo : List Int} {x : Int}

theorem Fit.turn (F : Fit n gone t s (x :: todo)) {c c' : List Int} (hc : s.lists[x.toNat]? = some (some c)) (hp : List.Perm c' c) (s' : LS) (hl : s'.lists = s.lists.set x.toNat (some c')) (hf : s'.forced = s.forced) (ho : s'.ones = s.ones) : Fit n gone t s' todo := by
  have hlt : x.toNat < s.lists.length := (List.getElem?_eq_some_iff.mp hc).1
  have e1 : (t.of s').as = (t.of s).as := by unfold T.of; rw [hf]
  have e2 : (t.of s').tr = (t.of s).tr := by unfold T.of; rw [hf]
  have get : ∀ j : Nat, s'.lists[j]? = if x.toNat = j then some (some c') else s.lists[j]? := fun j => by
    rw [hl, List.getElem?_set]
    by_cases h : x.toNat = j
    · rw [if_pos h, if_pos h, if_pos (h ▸ hlt)]
    · rw [if_neg h, if_neg h]
  refine ⟨by rw [hl, List.length_set]; exact F.len, fun j => ?_, fun l h1 h2 => ?_, by rw [ho]; exact F.one, by rw [ho]; exact F.ndo, by rw [e2, ho]; exact F.tr, by rw [ho]; exact F.gon, fun j c1 h1 => ?_, fun y hy => ?_, (List.nodup_cons.mp F.nd).2⟩
  · rw [F.same j, get j]
    by_cases h : x.toNat = j
    · subst h; rw [if_pos rfl, hc]; simp
    · rw [if_neg h]
  · have := F.val l h1 h2
    rw [ho]
    unfold T.val at this ⊢
    rw [e1]; exact this
  · rw [get j] at h1
    split at h1
    · cases h1
      obtain ⟨g1, g2, g3, g4⟩ := F.good _ _ hc
      exact ⟨by rw [hp.length_eq]; exact g1, by rw [hp.length_eq]; exact g2, (hp.map _).nodup_iff.mpr g3, fun l hl => g4 l (hp.mem_iff.mp hl)⟩
    · exact F.good j c1 h1
  · obtain ⟨w1, w2, w3⟩ := F.wat y (.tail _ hy)
    have hxy : x ≠ y := fun e => (List.nodup_cons.mp F.nd).1 (e ▸ hy)
    have hx0 := (F.wat x (.head _)).1
    refine ⟨w1, w2, fun a b rest h => w3 a b rest ?_⟩
    rw [get, if_neg (by (first | decide | assumption | (exact Nat.le_trans (by assumption) (by decide)) | lia | omega))] at h
    exact h
theorem Fit.pass (F : Fit n gone t s (x :: todo)) : Fit n gone t s todo :=
  ⟨F.len, F.same, F.val, F.one, F.ndo, F.tr, F.gon, F.good, fun y hy => F.wat y (.tail _ hy), (List.nodup_cons.mp F.nd).2⟩
theorem Fit.more (F : Fit n gone t s todo) (hn : t.as.length = n + 1) {o num : Int} (h1 : 1 ≤ o.natAbs) (h2 : o.natAbs ≤ n) (h3 : o ∉ s.ones) (h4 : -o ∉ s.ones) : Fit n gone t { s with forced := s.forced ++ [(o, num)], ones := s.ones ++ [o] } todo := by
  have e : t.of { s with forced := s.forced ++ [(o, num)], ones := s.ones ++ [o] } = (t.of s).enq o num := of_enq.symm
  refine ⟨F.len, F.same, fun l a1 a2 => ?_, fun l hl => ?_, ?_, ?_, List.mem_append_left _ F.gon, F.good, F.wat, F.nd⟩
  · rw [e, val_enq h1 (by rw [of_as, hn]; (first | decide | assumption | (exact Nat.le_trans (by assumption) (by decide)) | lia | omega)) a1]
    show _ = if l ∈ s.ones ++ [o] then 1 else if -l ∈ s.ones ++ [o] then -1 else 0
    by_cases e1 : l = o
    · rw [if_pos e1, if_pos (List.mem_append_right _ (by rw [e1]; exact .head _))]
    · by_cases e2 : l = -o
      · rw [if_neg e1, if_pos e2, if_neg (fun hm => ?_), if_pos (List.mem_append_right _ (by rw [e2, Int.neg_neg]; exact .head _))]
        rcases List.mem_append.mp hm with q | q
        · exact h4 (e2 ▸ q)
        · exact e1 (List.mem_singleton.mp q)
      · rw [if_neg e1, if_neg e2, F.val l a1 a2]
        have m1 : l ∈ s.ones ++ [o] ↔ l ∈ s.ones := ⟨fun hm => (List.mem_append.mp hm).resolve_right fun q => e1 (List.mem_singleton.mp q), List.mem_append_left _⟩
        have m2 : -l ∈ s.ones ++ [o] ↔ -l ∈ s.ones := ⟨fun hm => (List.mem_append.mp hm).resolve_right fun q => e2 (by have := List.mem_singleton.mp q; (first | decide | assumption | (exact Nat.le_trans (by assumption) (by decide)) | lia | omega)), List.mem_append_left _⟩
        simp only [m1, m2]
  · rcases List.mem_append.mp hl with q | q
    · exact F.one l q
    · rw [List.mem_singleton.mp q]; exact ⟨h1, h2⟩
  · show ((s.ones ++ [o]).map Int.natAbs).Nodup
    rw [List.map_append, List.nodup_append]
    refine ⟨F.ndo, by simp, fun a ha b hb e => ?_⟩
    simp at hb
    subst hb
    subst e
    obtain ⟨l, hl, el⟩ := List.mem_map.mp ha
    have : l = o ∨ l = -o := by (first | decide | assumption | (exact Nat.le_trans (by assumption) (by decide)) | lia | omega)
    rcases this with rfl | rfl
    · exact h3 hl
    · exact h4 hl
  · rw [e]
    show (t.of s).tr ++ [o] = s.ones ++ [o]
    rw [F.tr]
end
end Mine
namespace Mine

theorem enqs_keep {t : T} : ∀ {fs : List (Int × Int)}, (t.enqs fs).lv.length = t.lv.length ∧ (t.enqs fs).rs.length = t.rs.length ∧ (t.enqs fs).sp.length = t.sp.length ∧ (t.enqs fs).st = t.st ∧ (t.enqs fs).r = t.r ∧ (t.enqs fs).ta = t.ta ∧ (t.enqs fs).sa = t.sa ∧ (t.enqs fs).he = t.he ∧ (t.enqs fs).to = t.to ∧
    (t.enqs fs).ph = t.ph ∧ (t.enqs fs).x1 = t.x1 ∧ (t.enqs fs).x2 = t.x2 ∧ (t.enqs fs).x3 = t.x3 := by
  intro fs
  induction fs generalizing t with
  | nil => exact ⟨rfl, rfl, rfl, rfl, rfl, rfl, rfl, rfl, rfl, rfl, rfl, rfl, rfl⟩
  | cons p fs ih =>
    obtain ⟨h1, h2, h3, h4, h5⟩ := ih (t := t.enq p.1 p.2)
    exact ⟨h1.trans (by simp [T.enq]), h2.trans (by simp [T.enq]), h3.trans (by simp [T.enq]), h4, h5⟩
theorem addWs_fst : ∀ {gs : List (Int × Int)} {W : List (Nat × List Int)} {i : Nat}, ((gs.foldl addWs W)[i]?).map (·.1) = (W[i]?).map (·.1)
  | [], _, _ => rfl
  | p :: gs, W, i => by
    rw [List.foldl_cons, addWs_fst]
    unfold addWs
    rw [List.getElem?_modify]
    by_cases h : (plc p.1).toNat = i
    · cases W[i]? <;> simp [h]
    · cases W[i]? <;> simp [h]
theorem addWs_len : ∀ {gs : List (Int × Int)} {W : List (Nat × List Int)}, (gs.foldl addWs W).length = W.length
  | [], _ => rfl
  | p :: gs, W => by rw [List.foldl_cons, addWs_len]; simp [addWs]

section
variable {n : Nat} {gone : Int} {t : T} {s : LS} {todo : List Int} {x : Int}
theorem of_at (hl : s.lists.length = t.C.length) : ∀ k, (t.of s).at k = t.at k := by
  obtain ⟨-, -, -, -, h5, h6, h7, -⟩ := enqs_keep (t := t) (fs := s.forced)
  intro k
  cases k <;> simp only [T.at, T.of, h5, h6, h7]
  · exact addWs_fst
  · rename_i j
    simp only [cOf, List.getElem?_zipWith]
    by_cases hj : j < t.C.length
    · rw [List.getElem?_eq_getElem hj, List.getElem?_eq_getElem (hl ▸ hj)]
      cases t.C[j] <;> simp
    · rw [List.getElem?_eq_none (Nat.le_of_not_lt hj)]
theorem of_W : (t.of s).W.length = t.W.length := addWs_len
theorem Fit.lenT (F : Fit n gone t s todo) (Ln : Len t) (hn : t.as.length = n + 1) : Len (t.of s) := by
  obtain ⟨h1, h2, h3, h4, -⟩ := enqs_keep (t := t) (fs := s.forced)
  refine ⟨?_, ?_, ?_, by rw [of_as]; exact Ln.as, ?_, ?_⟩
  · rw [of_as]; exact h1.trans Ln.lv
  · rw [of_as]; exact h2.trans Ln.rs
  · rw [of_as]; exact h3.trans Ln.sp
  · rw [F.tr]
    have := nodup_le F.ndo (n := n) fun x hx => by
      obtain ⟨l, hl, rfl⟩ := List.mem_map.mp hx
      exact F.one l hl
    rw [List.length_map] at this
    have := Ln.as
    (first | decide | assumption | (exact Nat.le_trans (by assumption) (by decide)) | lia | omega)
  · show (t.enqs s.forced).st.length ≤ 100
    rw [h4]; exact Ln.st

structure VS (n : Nat) (gone : Int) (t : T) (s : LS) (todo : List Int) (wa : Nat) (nums : List Int) (K : Nat) (H0 H : St) : Prop where
  rep : Rep (t.of s) H
  fit : Fit n gone t s todo
  wat : (t.of s).W[(plc gone).toNat]? = some (wa, nums)
  wb : ∀ l : Int, 1 ≤ l.natAbs → l.natAbs ≤ n → ∃ b ns, (t.of s).W[(plc l).toNat]? = some (b, ns) ∧ ns.length + todo.length ≤ 1000
  kp : H[K]? = some (il s.stays)
  kfree : ∀ k, t.at k ≠ some K
  kh : H0.length ≤ K
  stl : s.stays.length + todo.length ≤ 1000
  len : H0.length ≤ H.length
  out : ∀ a, (∀ k, t.at k ≠ some a) → a < H0.length → H[a]? = H0[a]?

variable {wa K : Nat} {nums : List Int} {H0 H : St}
theorem VS.hop (V : VS n gone t s (x :: todo) wa nums K H0 H) {H' : St} (O : Out (t.of s) H H') : (H'[K]? = some (il s.stays)) ∧ H0.length ≤ H'.length ∧ ∀ a, (∀ k, t.at k ≠ some a) → a < H0.length → H'[a]? = H0[a]? := by
  have at' := of_at (t := t) (s := s) V.fit.len
  refine ⟨?_, Nat.le_trans V.len O.1, fun a h1 h2 => ?_⟩
  · rw [O.2 K (fun k => by rw [at']; exact V.kfree k) (List.getElem?_eq_some_iff.mp V.kp).1]; exact V.kp
  · rw [O.2 a (fun k => by rw [at']; exact h1 k) (Nat.lt_of_lt_of_le h2 V.len), V.out a h1 h2]

theorem plc_inj {a b : Int} (h : plc a = plc b) (ha : 1 ≤ a.natAbs) (hb : 1 ≤ b.natAbs) : a = b := by
  unfold plc at h
  split at h <;> split at h <;> (first | decide | assumption | (exact Nat.le_trans (by assumption) (by decide)) | lia | omega)
theorem plc_nat {a b : Int} (h : (plc a).toNat = (plc b).toNat) (ha : 1 ≤ a.natAbs) (hb : 1 ≤ b.natAbs) : a = b := by
  refine plc_inj ?_ ha hb
  unfold plc at h ⊢
  split at h <;> split at h <;> simp_all <;> (first | decide | assumption | (exact Nat.le_trans (by assumption) (by decide)) | lia | omega)
end
end Mine
namespace Mine

theorem pick_drop {α : Type} {l : List α} {i : Nat} (h : i ≤ l.length) : pick l (some (i : Int)) none none = l.drop i := by
  unfold pick
  rw [sliceBounds_plain]
  show (sliceRange ((clipAt l.length (i : Int) : Nat) : Int) ((l.length : Nat) : Int) 1).filterMap (l[·]?) = _
  have e : clipAt l.length (i : Int) = i := by unfold clipAt; split <;> omega
  rw [e, sliceRange_one]
  show ((List.range (l.length - i)).map (fun k => i + k)).filterMap (l[·]?) = _
  rw [PySem.StrLaws.picks l (l.length - i) i (by omega), List.take_of_length_le (by simp)]
theorem pick_take {α : Type} {l : List α} {k : Nat} : pick l none (some (k : Int)) none = l.take k := by
  unfold pick
  rw [sliceBounds_plain]
  show (sliceRange ((0 : Nat) : Int) ((clipAt l.length (k : Int) : Nat) : Int) 1).filterMap (l[·]?) = _
  have e : clipAt l.length (k : Int) = min k l.length := by unfold clipAt; split <;> omega
  rw [e, sliceRange_one]
  show ((List.range (min k l.length - 0)).map (fun k => 0 + k)).filterMap (l[·]?) = _
  rw [Nat.sub_zero, PySem.StrLaws.picks l (min k l.length) 0 (by omega), List.drop_zero]
  exact (List.take_eq_take_min ..).symm

theorem Rep.setOut {t : T} {H : St} (R : Rep t H) {K : Nat} (hk : ∀ k, t.at k ≠ some K) (o : MO) : Rep t (H.set K o) :=
  R.frame fun k a ha => List.getElem?_set_ne (fun e => hk k (by rw [e]; exact ha))
theorem refOf_get {t : T} {j : Nat} {o : Option (Nat × List Int)} (h : t.C[j]? = some o) : (t.C.map refOf)[j]? = some (refOf o) := by rw [List.getElem?_map, h]; rfl

section
variable {n : Nat} {gone : Int} {t : T} {s : LS} {todo : List Int} {x : Int} {wa K : Nat} {nums : List Int} {H0 H : St}

theorem visit_read (V : VS n gone t s todo wa nums K H0 H) {i : Nat} (hx : nums[i]? = some x) (hx0 : 0 ≤ x) {o : Option (Nat × List Int)} (hC : (t.of s).C[x.toNat]? = some o) (hnums : nums.length < 1000) (hCl : (t.of s).C.length < 1000) {g : Int} (u6 u7 : Option MV) (b : DS) :
    D.seq (D.assign (D.sub (D.loc 2) (D.loc 5)) (D.tname 6)) (D.seq (D.assign (D.sub (D.attr 1 12 (D.loc 0)) (D.loc 6)) (D.tname 7)) b) [some (.ref t.r), some (.int g), some (.ref wa), some (.ref K), some (.int (-1)), some (.int (i : Nat)), u6, u7] H =
      b [some (.ref t.r), some (.int g), some (.ref wa), some (.ref K), some (.int (-1)), some (.int (i : Nat)), some (.int x), some (refOf o)] H := by
  have hr : (t.of s).r = t.r := enqs_keep.2.2.2.2.1
  have hw : H[wa]? = some (il nums) := (V.rep.at' _ _ (T.at_w V.wat)).trans (congrArg some (T.is_w V.wat))
  rw [seq_next (ev_setname (v := .int x) (ev_item (a := wa) (i := (i : Int)) rfl rfl hw (by omega) (by simpa using hx) hnums) (by simp))]
  show D.seq _ b [some (.ref t.r), some (.int g), some (.ref wa), some (.ref K), some (.int (-1)), some (.int (i : Nat)), some (.int x), u7] H = _
  rw [seq_next (ev_setname (v := refOf o) (ev_sub (V.rep.attr rfl (by rw [hr]; rfl) rfl) (rfl : D.loc 6 _ H = some (.int x, H)) (getI_list (V.rep.at' .cl _ rfl) hx0 (refOf_get hC) (by rw [List.length_map]; omega))) (by simp))]
  rfl

theorem visit_swap (R : Rep (t.of s) H) (hlen : s.lists.length = t.C.length) {j a1 : Nat} {a b : Int} {rest : List Int} (hl : s.lists[j]? = some (some (a :: b :: rest))) (hC : (t.of s).C[j]? = some (some (a1, a :: b :: rest))) (hg : a = gone ∨ b = gone) (hrest : rest.length ≤ 100) {L : Lo}
    (l1 : ∀ H, D.loc 1 L H = some (.int gone, H)) (l7 : ∀ H, D.loc 7 L H = some (.ref a1, H)) :
    ∃ H1, D.ifs (D.cmpT .Eq (D.sub (D.loc 7) (D.const (.int 0))) (D.loc 1)) (D.seq (D.assign (D.tup [(D.sub (D.loc 7) (D.const (.int 1))), (D.loc 1)]) (D.ttup [(D.tsub (D.loc 7) (D.const (.int 0))), (D.tsub (D.loc 7) (D.const (.int 1)))])) D.skip) D.skip L H = some (.next, L, H1) ∧
      Rep (t.of { s with lists := s.lists.set j (some ((if b = gone then a else b) :: gone :: rest)) }) H1 ∧ Out (t.of s) H H1 := by
  have hac := T.at_c hC
  have hc : H[a1]? = some (il (a :: b :: rest)) := (R.at' _ _ hac).trans (congrArg some (T.is_c hC))
  have e0 : D.sub (D.loc 7) (D.const (.int 0)) L H = some (.int a, H) := ev_item (l7 H) rfl hc (by omega) rfl (by simp; omega)
  have e1 : D.sub (D.loc 7) (D.const (.int 1)) L H = some (.int b, H) := ev_item (l7 H) rfl hc (by omega) rfl (by simp; omega)
  by_cases ha : a = gone
  · have hcmp : D.cmpT .Eq (D.sub (D.loc 7) (D.const (.int 0))) (D.loc 1) L H = some (true, H) := ev_cmpT e0 (l1 H) (by simp [Mine.cmp, Mine.intC, ha])
    have s1 := tupset_ok (ga := D.loc 7) (gb := D.loc 7) (gi := D.const (.int 0)) (gj := D.const (.int 1)) e1 (l1 H) l7 l7 (fun _ => rfl) (fun _ => rfl) hc (by omega) (by simp) (by omega) (by simp) (by simp; omega)
    have hset : (((a :: b :: rest).map MV.int).set (Int.toNat 0) (.int b)).set (Int.toNat 1) (.int gone) = (b :: gone :: rest).map .int := rfl
    rw [hset] at s1
    refine ⟨_, by rw [ev_ifT hcmp, seq_next s1]; rfl, ?_, (Out.refl _ H).set hac _⟩
    have hoth : (if b = gone then a else b) = b := by
      by_cases hb : b = gone
      · rw [if_pos hb, ha, hb]
      · rw [if_neg hb]
    rw [hoth, ← of_setC hlen]
    exact R.upd _ hac (fun k => setC_at k) (fun k hk => setC_is k hk) (setC_is' hC)
  · have hcmp : D.cmpT .Eq (D.sub (D.loc 7) (D.const (.int 0))) (D.loc 1) L H = some (false, H) := ev_cmpT e0 (l1 H) (by simp [Mine.cmp, Mine.intC, ha])
    have hb := hg.resolve_left ha
    refine ⟨H, by rw [ev_ifF hcmp]; rfl, ?_, Out.refl _ H⟩
    rw [if_pos hb]
    have : s.lists.set j (some (a :: gone :: rest)) = s.lists := by
      refine List.ext_getElem? fun i => ?_
      rw [List.getElem?_set]
      by_cases e : j = i
      · subst e
        rw [if_pos rfl, if_pos (List.getElem?_eq_some_iff.mp hl).1, hl, hb]
      · rw [if_neg e]
    rw [this]
    exact R
end
end Mine
namespace Mine
section
variable {n : Nat} {gone : Int} {t : T} {s : LS} {todo : List Int} {x : Int} {wa K : Nat} {nums : List Int} {H0 H : St}

theorem Fit.note (F : Fit n gone t s todo) (st : List Int) (td : Int) : Fit n gone t { s with stays := st, told := td } todo := ⟨F.len, F.same, F.val, F.one, F.ndo, F.tr, F.gon, F.good, F.wat, F.nd⟩
theorem Fit.less {todo' : List Int} (F : Fit n gone t s todo) (h : ∀ y ∈ todo', y ∈ todo) (nd : todo'.Nodup) : Fit n gone t s todo' := ⟨F.len, F.same, F.val, F.one, F.ndo, F.tr, F.gon, F.good, fun y hy => F.wat y (h y hy), nd⟩

theorem Fit.item (F : Fit n gone t s (x :: todo)) : (s.lists[x.toNat]? = some none ∧ t.C[x.toNat]? = some none) ∨ ∃ a b rest a1 c0, s.lists[x.toNat]? = some (some (a :: b :: rest)) ∧ t.C[x.toNat]? = some (some (a1, c0)) ∧ (a = gone ∨ b = gone) := by
  obtain ⟨w1, w2, w3⟩ := F.wat x (.head _)
  have hl : x.toNat < s.lists.length := by rw [F.len]; exact w2
  cases h1 : s.lists[x.toNat]? with
  | none => rw [List.getElem?_eq_none_iff] at h1; (first | decide | assumption | (exact Nat.le_trans (by assumption) (by decide)) | lia | omega)
  | some o =>
    have hs := F.same x.toNat
    cases h2 : t.C[x.toNat]? with
    | none => rw [List.getElem?_eq_none_iff] at h2; (first | decide | assumption | (exact Nat.le_trans (by assumption) (by decide)) | lia | omega)
    | some p =>
      rw [h1, h2] at hs
      cases o with
      | none =>
        cases p with
        | none => exact .inl ⟨rfl, rfl⟩
        | some q => simp at hs
      | some c =>
        cases p with
        | none => simp at hs
        | some q =>
          have hg := (F.good _ _ h1).1
          match c, hg with
          | a :: b :: rest, _ => exact .inr ⟨a, b, rest, q.1, q.2, rfl, rfl, w3 a b rest h1⟩

theorem of_Cnone (hl : s.lists.length = t.C.length) {j : Nat} (hC : t.C[j]? = some none) (h : s.lists[j]? = some none) : (t.of s).C[j]? = some none := by
  simp only [T.of, cOf, List.getElem?_zipWith, hC, h]; rfl
theorem of_Clen (hl : s.lists.length = t.C.length) : (t.of s).C.length = t.C.length := by simp [T.of, cOf, hl]

noncomputable def lturn (gone : Int) (s : LS) (x oth : Int) (rest : List Int) : LS := match (if oth ∈ s.ones then none else fstOpen (fun l => decide (-l ∉ s.ones)) gone rest) with
  | some (o, rest') => { s with goes := s.goes ++ [(o, x)], lists := s.lists.set x.toNat (some (oth :: o :: rest')) }
  | none =>
    if -oth ∈ s.ones then { s with lists := s.lists.set x.toNat (some (oth :: gone :: rest)), stays := s.stays ++ [x], told := x }
    else if oth ∈ s.ones then { s with lists := s.lists.set x.toNat (some (oth :: gone :: rest)), stays := s.stays ++ [x] }
    else { s with lists := s.lists.set x.toNat (some (oth :: gone :: rest)), stays := s.stays ++ [x], forced := s.forced ++ [(oth, x)], ones := s.ones ++ [oth] }
theorem lstep_clause (htold : s.told = -1) {a b : Int} {rest : List Int} (i1 : s.lists[x.toNat]? = some (some (a :: b :: rest))) : lstep gone s x = lturn gone s x (if b = gone then a else b) rest := by
  unfold lstep lturn
  rw [if_neg (by simp [htold]), i1]
  try rfl

theorem ev_andF {f g : Lo → St → Option (Bool × St)} {lo : Lo} {H H1 : St} (h : f lo H = some (false, H1)) : D.andT f g lo H = some (false, H1) := by unfold D.andT; rw [h]; rfl
theorem ev_andT {f g : Lo → St → Option (Bool × St)} {lo : Lo} {H H1 : St} (h : f lo H = some (true, H1)) : D.andT f g lo H = g lo H1 := by unfold D.andT; rw [h]; rfl
theorem ev_truth {f : DE} {lo : Lo} {H H1 : St} {b : Bool} (h : f lo H = some (.bool b, H1)) : D.truth f lo H = some (b, H1) := by unfold D.truth; rw [h]; rfl
theorem ev_slice1 {f g : DE} {lo : Lo} {H : St} {a : Nat} {l : List MV} {i : Nat} (hf : f lo H = some (.ref a, H)) (hg : g lo H = some (.int (i : Int), H)) (ha : H[a]? = some (.list l)) (hi : i ≤ l.length) (hs : l.length ≤ 1000000) :
    D.slice f (some g) none none lo H = some (.ref H.length, H ++ [.list (l.drop i)]) := by
  unfold D.slice D.part
  simp only [hf, hg, bnd_some, itemsOf, ha]
  rw [if_neg (by simp), if_pos (by simpa [small] using hs), pick_drop hi]
theorem ev_extend {f g : DE} {lo : Lo} {H H1 : St} {a b : Nat} {l k l0 : List MV} (hf : f lo H = some (.ref a, H)) (h0 : H[a]? = some (.list l0)) (hg : g lo H = some (.ref b, H1)) (ha : H1[a]? = some (.list l)) (hb : H1[b]? = some (.list k)) (hs : l.length + k.length ≤ 1000000) :
    D.expr (D.lmeth m.extend f [g]) lo H = some (.next, lo, H1.set a (.list (l ++ k))) := by
  unfold D.expr D.lmeth
  have e : m.extend (.ref a) [.ref b] H1 = some (.none, H1.set a (.list (l ++ k))) := by
    unfold m.extend; dsimp only; rw [ha, hb]; exact if_pos (small_of hs)
  rw [hf]; dsimp only [bnd]; rw [if_pos (isList_of h0), ev_args1 hg]; dsimp only; rw [e]

noncomputable abbrev vlo (t : T) (gone : Int) (wa K : Nat) (cf : Int) (i : Nat) (u6 u7 : Option MV) : Lo := [some (.ref t.r), some (.int gone), some (.ref wa), some (.ref K), some (.int cf), some (.int (i : Nat)), u6, u7]

theorem visit_turn' (V : VS n gone t s (x :: todo) wa nums K H0 H) (htold : s.told = -1) (Ln : Len t) (hn : t.as.length = n + 1) (hn1 : n ≤ 50) (hW : t.W.length ≤ 1000) (hg1 : 1 ≤ gone.natAbs) (hg2 : gone.natAbs ≤ n) {i : Nat} (hx : nums[i]? = some x) (hd : nums.drop (i + 1) = todo) (hnums : nums.length < 1000) (hCl : t.C.length < 1000) (u6 u7 : Option MV) {P Q : Lo → St → Prop}
    (hP : ∀ s' u6 u7 H', lstep gone s x = s' → s'.told = -1 → VS n gone t s' todo wa nums K H0 H' → P (vlo t gone wa K (-1) i u6 u7) H')
    (hQ : ∀ s' u6 u7 H', lstep gone s x = s' → s'.told = x → VS n gone t { s' with stays := s'.stays ++ todo } [] wa nums K H0 H' → Q (vlo t gone wa K x i u6 u7) H') :
    Turn (b1_Trail_visit (vlo t gone wa K (-1) i u6 u7) H) P Q (fun _ _ _ => False) := by
  have F := V.fit
  have hr : (t.of s).r = t.r := enqs_keep.2.2.2.2.1
  obtain ⟨w1, w2, w3⟩ := F.wat x (.head _)
  have hClen := of_Clen (t := t) F.len
  have hat := of_at (t := t) (s := s) F.len
  have wb' : ∀ l : Int, 1 ≤ l.natAbs → l.natAbs ≤ n → ∃ b ns, (t.of s).W[(plc l).toNat]? = some (b, ns) ∧ ns.length + todo.length ≤ 1000 := fun l h1 h2 => by
    obtain ⟨b, ns, e1, e2⟩ := V.wb l h1 h2
    exact ⟨b, ns, e1, by rw [List.length_cons] at e2; (first | decide | assumption | (exact Nat.le_trans (by assumption) (by decide)) | lia | omega)⟩
  have hst : s.stays.length + 1 + todo.length ≤ 1000 := by have := V.stl; rw [List.length_cons] at this; (first | decide | assumption | (exact Nat.le_trans (by assumption) (by decide)) | lia | omega)
  have ndt := (List.nodup_cons.mp F.nd).2
  rcases F.item with ⟨i1, i2⟩ | ⟨a, b, rest, a1, c0, i1, i2, hab⟩
  · -- a forgotten clause
    have hstep : lstep gone s x = s := by unfold lstep; rw [if_neg (by simp [htold]), i1]
    have hC := of_Cnone (t := t) F.len i2 i1
    have e := visit_read V hx w1 hC hnums (by rw [hClen]; exact hCl) (g := gone) u6 u7
    unfold b1_Trail_visit
    rw [e]
    have hcmp : D.cmpT .Is (D.loc 7) (D.const .none) (vlo t gone wa K (-1) i (some (.int x)) (some (refOf none))) H = some (true, H) := rfl
    rw [seq_cont (lo' := vlo t gone wa K (-1) i (some (.int x)) (some (refOf none))) (H' := H) (by rw [ev_ifT hcmp]; rfl)]
    exact hP s _ _ H hstep htold ⟨V.rep, F.pass, V.wat, wb', V.kp, V.kfree, V.kh, by (first | decide | assumption | (exact Nat.le_trans (by assumption) (by decide)) | lia | omega), V.len, V.out⟩
  · have hC := of_C (t := t) F.len i1 i2
    obtain ⟨g1, g2, g3, g4⟩ := F.good _ _ i1
    have hrest : rest.length ≤ 8 := by simp at g2; (first | decide | assumption | (exact Nat.le_trans (by assumption) (by decide)) | lia | omega)
    have e := visit_read V hx w1 hC hnums (by rw [hClen]; exact hCl) (g := gone) u6 u7
    unfold b1_Trail_visit
    rw [e]
    generalize hL : ([some (.ref t.r), some (.int gone), some (.ref wa), some (.ref K), some (.int (-1)), some (.int (i : Nat)), some (.int x), some (refOf (some (a1, a :: b :: rest)))] : Lo) = L
    have l0 : ∀ H, D.loc 0 L H = some (.ref t.r, H) := fun H => by rw [← hL]; rfl
    have l1 : ∀ H, D.loc 1 L H = some (.int gone, H) := fun H => by rw [← hL]; rfl
    have l2 : ∀ H, D.loc 2 L H = some (.ref wa, H) := fun H => by rw [← hL]; rfl
    have l3 : ∀ H, D.loc 3 L H = some (.ref K, H) := fun H => by rw [← hL]; rfl
    have l5 : ∀ H, D.loc 5 L H = some (.int (i : Nat), H) := fun H => by rw [← hL]; rfl
    have l6 : ∀ H, D.loc 6 L H = some (.int x, H) := fun H => by rw [← hL]; rfl
    have l7 : ∀ H, D.loc 7 L H = some (.ref a1, H) := fun H => by rw [← hL]; rfl
    have hcmp : D.cmpT .Is (D.loc 7) (D.const .none) L H = some (false, H) := ev_cmpT (l7 H) rfl rfl
    rw [seq_next (lo' := L) (H' := H) (by rw [ev_ifF hcmp]; rfl)]
    obtain ⟨H1, e1, R1, O1⟩ := visit_swap V.rep F.len i1 hC hab (by (first | decide | assumption | (exact Nat.le_trans (by assumption) (by decide)) | lia | omega)) l1 l7
    rw [seq_next e1]
    generalize hoth : (if b = gone then a else b) = oth at R1
    -- the clause with gone second
    let s1 : LS := { s with lists := s.lists.set x.toNat (some (oth :: gone :: rest)) }
    have hperm : List.Perm (oth :: gone :: rest) (a :: b :: rest) := by
      rw [← hoth]
      by_cases hb : b = gone
      · rw [if_pos hb, hb]
      · rw [if_neg hb, hab.resolve_right hb]; exact List.Perm.swap _ _ _
    have F1 : Fit n gone t s1 todo := F.turn i1 hperm s1 rfl rfl rfl
    have hl1 : s1.lists[x.toNat]? = some (some (oth :: gone :: rest)) := List.getElem?_set_self (List.getElem?_eq_some_iff.mp i1).1
    have hC1 : (t.of s1).C[x.toNat]? = some (some (a1, oth :: gone :: rest)) := of_C F1.len hl1 i2
    have hin : ∀ l ∈ oth :: gone :: rest, 1 ≤ l.natAbs ∧ l.natAbs ≤ n := fun l hl => g4 l (hperm.mem_iff.mp hl)
    obtain ⟨o1, o2⟩ := hin oth (.head _)
    have hr1 : (t.of s1).r = t.r := enqs_keep.2.2.2.2.1
    have hac1 := T.at_c hC1
    have hc1 : H1[a1]? = some (il (oth :: gone :: rest)) := (R1.at' _ _ hac1).trans (congrArg some (T.is_c hC1))
    have ev0 : ∀ H', H'[a1]? = some (il (oth :: gone :: rest)) → D.sub (D.loc 7) (D.const (.int 0)) L H' = some (.int oth, H') := fun H' h => ev_item (l7 H') rfl h (by (first | decide | assumption | (exact Nat.le_trans (by assumption) (by decide)) | lia | omega)) rfl (by simp; (first | decide | assumption | (exact Nat.le_trans (by assumption) (by decide)) | lia | omega))
    have asl : (t.of s1).as.length = n + 1 := of_as.trans hn
    have ev1 := ev_value R1 (hr1.symm ▸ l0 H1) (ev0 H1 hc1) (by rw [asl]; (first | decide | assumption | (exact Nat.le_trans (by assumption) (by decide)) | lia | omega)) (by rw [asl]; (first | decide | assumption | (exact Nat.le_trans (by assumption) (by decide)) | lia | omega))
    obtain ⟨k1, k2, k3⟩ := V.hop O1
    have hat1 := of_at (t := t) (s := s1) F1.len
    have hlstep := lstep_clause (gone := gone) htold i1
    rw [hoth] at hlstep
    -- the appended kept list and what is behind it
    have tail_ok : (if oth ∈ s.ones then none else fstOpen (fun l => decide (-l ∉ s.ones)) gone rest) = none →
        Turn (D.seq (D.expr (D.lmeth m.append (D.loc 3) [(D.loc 6)]))
          (D.seq (D.ifs (D.cmpT .Eq (D.meth 1 F_Trail_value (D.loc 0) [(D.sub (D.loc 7) (D.const (.int 0)))]) (D.const (.int (-1)))) (D.seq (D.assign (D.loc 6) (D.tname 4))
          (D.seq (D.expr (D.lmeth m.extend (D.loc 3) [(D.slice (D.loc 2) (some (D.bin o.add (D.loc 5) (D.const (.int 1)))) none none)]))
          (D.seq D.brk D.skip))) D.skip)
          (D.seq (D.ifs (D.cmpT .Eq (D.meth 1 F_Trail_value (D.loc 0) [(D.sub (D.loc 7) (D.const (.int 0)))]) (D.const (.int (0)))) (D.seq (D.expr (D.meth 1 F_Trail_enqueue (D.loc 0) [(D.sub (D.loc 7) (D.const (.int 0))), (D.loc 6)])) D.skip) D.skip)
          D.skip)) L H1) P Q (fun _ _ _ => False) := by
      intro hnone
      have s3 := ev_append (l3 H1) (l6 H1) ⟨_, k1⟩ k1 (by rw [List.length_map]; (first | decide | assumption | (exact Nat.le_trans (by assumption) (by decide)) | lia | omega))
      rw [ints_append] at s3
      rw [seq_next s3]
      have hKlt : K < H1.length := (List.getElem?_eq_some_iff.mp k1).1
      have R2 : Rep (t.of s1) (H1.set K (il (s.stays ++ [x]))) := R1.setOut (fun k => by rw [hat1]; exact V.kfree k) _
      have kp2 : (H1.set K (il (s.stays ++ [x])))[K]? = some (il (s.stays ++ [x])) := List.getElem?_set_self hKlt
      have out2 : ∀ a, (∀ k, t.at k ≠ some a) → a < H0.length → (H1.set K (il (s.stays ++ [x])))[a]? = H0[a]? := fun a h1 h2 => by
        rw [List.getElem?_set_ne (by have := V.kh; (first | decide | assumption | (exact Nat.le_trans (by assumption) (by decide)) | lia | omega))]
        exact k3 a h1 h2
      have len2 : H0.length ≤ (H1.set K (il (s.stays ++ [x]))).length := by rw [List.length_set]; exact k2
      generalize H1.set K (il (s.stays ++ [x])) = H2 at R2 kp2 out2 len2 ⊢
      have hc2 : H2[a1]? = some (il (oth :: gone :: rest)) := (R2.at' _ _ hac1).trans (congrArg some (T.is_c hC1))
      have ev2 := ev_value R2 (hr1.symm ▸ l0 H2) (ev0 H2 hc2) (by rw [asl]; (first | decide | assumption | (exact Nat.le_trans (by assumption) (by decide)) | lia | omega)) (by rw [asl]; (first | decide | assumption | (exact Nat.le_trans (by assumption) (by decide)) | lia | omega))
      have wat1 : (t.of s1).W[(plc gone).toNat]? = some (wa, nums) := V.wat
      unfold lturn at hlstep
      rw [hnone] at hlstep
      dsimp only at hlstep
      by_cases hneg : -oth ∈ s.ones
      · rw [if_pos hneg] at hlstep
        have hv : (t.of s1).val oth = -1 := (F1.valm o1 o2).mpr hneg
        have hcm : D.cmpT .Eq (D.meth 1 F_Trail_value (D.loc 0) [(D.sub (D.loc 7) (D.const (.int 0)))]) (D.const (.int (-1))) L H2 = some (true, H2) := ev_cmpT ev2 rfl (by simp [Mine.cmp, Mine.intC, hv])
        have hw2 : H2[wa]? = some (il nums) := (R2.at' _ _ (T.at_w wat1)).trans (congrArg some (T.is_w wat1))
        have hi1 : i + 1 ≤ nums.length := by have := (List.getElem?_eq_some_iff.mp hx).1; (first | decide | assumption | (exact Nat.le_trans (by assumption) (by decide)) | lia | omega)
        have hbody : D.ifs (D.cmpT .Eq (D.meth 1 F_Trail_value (D.loc 0) [(D.sub (D.loc 7) (D.const (.int 0)))]) (D.const (.int (-1)))) (D.seq (D.assign (D.loc 6) (D.tname 4))
          (D.seq (D.expr (D.lmeth m.extend (D.loc 3) [(D.slice (D.loc 2) (some (D.bin o.add (D.loc 5) (D.const (.int 1)))) none none)]))
          (D.seq D.brk D.skip))) D.skip L H2 = some (.brk, vlo t gone wa K x i (some (.int x)) (some (refOf (some (a1, a :: b :: rest)))), (H2 ++ [il todo]).set K (il (s.stays ++ [x] ++ todo))) := by
          rw [ev_ifT hcm, seq_next (ev_setname (l6 H2) (by rw [← hL]; simp))]
          have e5 : ∀ L', (∀ H, D.loc 2 L' H = some (.ref wa, H)) → (∀ H, D.loc 3 L' H = some (.ref K, H)) → (∀ H, D.loc 5 L' H = some (.int (i : Nat), H)) → D.expr (D.lmeth m.extend (D.loc 3) [(D.slice (D.loc 2) (some (D.bin o.add (D.loc 5) (D.const (.int 1)))) none none)]) L' H2 = some (.next, L', (H2 ++ [il todo]).set K (il (s.stays ++ [x] ++ todo))) := fun L' q2 q3 q5 => by
            have hsl := ev_slice1 (f := D.loc 2) (g := D.bin o.add (D.loc 5) (D.const (.int 1))) (lo := L') (i := i + 1) (q2 H2) ((ev_bin (q5 H2) rfl).trans rfl) hw2 (by rw [List.length_map]; exact hi1) (by rw [List.length_map]; (first | decide | assumption | (exact Nat.le_trans (by assumption) (by decide)) | lia | omega))
            rw [← List.map_drop, hd] at hsl
            have hk3 : (H2 ++ [il todo])[K]? = some (il (s.stays ++ [x])) := by rw [List.getElem?_append_left (List.getElem?_eq_some_iff.mp kp2).1]; exact kp2
            have := ev_extend (k := todo.map .int) (q3 H2) kp2 hsl hk3 (by simp) (by rw [List.length_map, List.length_map, List.length_append]; simp; (first | decide | assumption | (exact Nat.le_trans (by assumption) (by decide)) | lia | omega))
            rw [← List.map_append] at this
            exact this
          rw [← hL]
          show D.seq _ _ (vlo t gone wa K x i (some (.int x)) (some (refOf (some (a1, a :: b :: rest))))) H2 = _
          rw [seq_next (e5 _ (fun _ => rfl) (fun _ => rfl) (fun _ => rfl))]
          rfl
        rw [seq_brk hbody]
        have hKl2 : K < (H2 ++ [il todo]).length := by have := (List.getElem?_eq_some_iff.mp kp2).1; simp; (first | decide | assumption | (exact Nat.le_trans (by assumption) (by decide)) | lia | omega)
        refine hQ _ _ _ _ hlstep rfl ⟨?_, (F1.less (todo' := []) (fun y hy => nomatch hy) List.nodup_nil).note (s.stays ++ [x] ++ todo) x, wat1, fun l h1 h2 => ?_, List.getElem?_set_self hKl2, V.kfree, V.kh, by simp; (first | decide | assumption | (exact Nat.le_trans (by assumption) (by decide)) | lia | omega), by rw [List.length_set, List.length_append]; (first | decide | assumption | (exact Nat.le_trans (by assumption) (by decide)) | lia | omega), fun a h1 h2 => ?_⟩
        · exact (R2.app (L := [il todo])).setOut (fun k => by rw [hat1]; exact V.kfree k) _
        · obtain ⟨b', ns, e1', e2'⟩ := wb' l h1 h2
          exact ⟨b', ns, e1', by simp; (first | decide | assumption | (exact Nat.le_trans (by assumption) (by decide)) | lia | omega)⟩
        · rw [List.getElem?_set_ne (by have := V.kh; (first | decide | assumption | (exact Nat.le_trans (by assumption) (by decide)) | lia | omega)), List.getElem?_append_left (by (first | decide | assumption | (exact Nat.le_trans (by assumption) (by decide)) | lia | omega))]
          exact out2 a h1 h2
      · rw [if_neg hneg] at hlstep
        have hv : (t.of s1).val oth ≠ -1 := fun h => hneg ((F1.valm o1 o2).mp h)
        have hcm : D.cmpT .Eq (D.meth 1 F_Trail_value (D.loc 0) [(D.sub (D.loc 7) (D.const (.int 0)))]) (D.const (.int (-1))) L H2 = some (false, H2) := ev_cmpT ev2 rfl (by show some ((t.of s1).val oth == -1) = some false; rw [beq_false_of_ne hv])
        rw [seq_next (lo' := L) (H' := H2) (by rw [ev_ifF hcm]; rfl)]
        by_cases hpos : oth ∈ s.ones
        · rw [if_pos hpos] at hlstep
          have hv1 : (t.of s1).val oth = 1 := (F1.val1 o1 o2).mpr hpos
          have hcm0 : D.cmpT .Eq (D.meth 1 F_Trail_value (D.loc 0) [(D.sub (D.loc 7) (D.const (.int 0)))]) (D.const (.int (0))) L H2 = some (false, H2) := ev_cmpT ev2 rfl (by show some ((t.of s1).val oth == 0) = some false; rw [hv1]; rfl)
          rw [seq_next (lo' := L) (H' := H2) (by rw [ev_ifF hcm0]; rfl)]
          show P L H2
          rw [← hL]
          exact hP _ _ _ H2 hlstep htold ⟨R2, F1.note (s.stays ++ [x]) s.told, wat1, wb', kp2, V.kfree, V.kh, by simp; (first | decide | assumption | (exact Nat.le_trans (by assumption) (by decide)) | lia | omega), len2, out2⟩
        · rw [if_neg hpos] at hlstep
          have hv0 : (t.of s1).val oth = 0 := (F1.val0 o1 o2).mpr ⟨hpos, hneg⟩
          have hcm0 : D.cmpT .Eq (D.meth 1 F_Trail_value (D.loc 0) [(D.sub (D.loc 7) (D.const (.int 0)))]) (D.const (.int (0))) L H2 = some (true, H2) := ev_cmpT ev2 rfl (by simp [Mine.cmp, Mine.intC, hv0])
          obtain ⟨H3, e3, R3, O3, len3⟩ := enq_ok R2 (F1.lenT Ln hn) (l := oth) (num := x) (by rw [asl]; (first | decide | assumption | (exact Nat.le_trans (by assumption) (by decide)) | lia | omega))
          have s4 : D.expr (D.meth 1 F_Trail_enqueue (D.loc 0) [(D.sub (D.loc 7) (D.const (.int 0))), (D.loc 6)]) L H2 = some (.next, L, H3) := ev_expr ((ev_meth2 (hr1.symm ▸ l0 H2) (R2.at' .obj _ rfl) (ev0 H2 hc2) (l6 H2)).trans e3)
          rw [seq_next (lo' := L) (H' := H3) (by rw [ev_ifT hcm0, seq_next s4]; rfl)]
          rw [of_enq (os := s.ones ++ [oth])] at R3
          have hK3 : H3[K]? = some (il (s.stays ++ [x])) := by rw [O3.2 K (fun k => by rw [hat1]; exact V.kfree k) (List.getElem?_eq_some_iff.mp kp2).1]; exact kp2
          show P L H3
          rw [← hL]
          refine hP _ _ _ H3 hlstep htold ⟨R3, (F1.more hn o1 o2 hpos hneg).note (s.stays ++ [x]) s.told, wat1, wb', hK3, V.kfree, V.kh, by simp; (first | decide | assumption | (exact Nat.le_trans (by assumption) (by decide)) | lia | omega), by (first | decide | assumption | (exact Nat.le_trans (by assumption) (by decide)) | lia | omega), fun a h1 h2 => ?_⟩
          rw [O3.2 a (fun k => by rw [hat1]; exact h1 k) (by (first | decide | assumption | (exact Nat.le_trans (by assumption) (by decide)) | lia | omega))]
          exact out2 a h1 h2
    -- the test: is it true, or moved
    by_cases hpos : oth ∈ s.ones
    · have hv1 : (t.of s1).val oth = 1 := (F1.val1 o1 o2).mpr hpos
      have hcm : D.cmpT .NotEq (D.meth 1 F_Trail_value (D.loc 0) [(D.sub (D.loc 7) (D.const (.int 0)))]) (D.const (.int (1))) L H1 = some (false, H1) := ev_cmpT ev1 rfl (by show some ((t.of s1).val oth != 1) = some false; rw [hv1]; rfl)
      rw [seq_next (lo' := L) (H' := H1) (by rw [ev_ifF (ev_andF hcm)]; rfl)]
      exact tail_ok (if_pos hpos)
    · have hv1 : (t.of s1).val oth ≠ 1 := fun h => hpos ((F1.val1 o1 o2).mp h)
      have hcm : D.cmpT .NotEq (D.meth 1 F_Trail_value (D.loc 0) [(D.sub (D.loc 7) (D.const (.int 0)))]) (D.const (.int (1))) L H1 = some (true, H1) := ev_cmpT ev1 rfl (by show some ((t.of s1).val oth != 1) = some true; rw [bne_iff_ne.mpr hv1])
      have hmv := moved_ok R1 (by rw [asl]; (first | decide | assumption | (exact Nat.le_trans (by assumption) (by decide)) | lia | omega)) (by rw [of_W]; exact hW) hC1 (num := x) (fun l hl => by rw [asl]; have := hin l (.tail _ (.tail _ hl)); (first | decide | assumption | (exact Nat.le_trans (by assumption) (by decide)) | lia | omega)) (by (first | decide | assumption | (exact Nat.le_trans (by assumption) (by decide)) | lia | omega)) (fun l hl => by
        obtain ⟨q1, q2⟩ := hin l (.tail _ (.tail _ hl))
        obtain ⟨b', ns, e1', e2'⟩ := wb' l q1 q2
        exact ⟨b', ns, e1', by (first | decide | assumption | (exact Nat.le_trans (by assumption) (by decide)) | lia | omega)⟩)
      have hcongr : fstOpen (fun l => decide ((t.of s1).val l ≠ -1)) gone rest = fstOpen (fun l => decide (-l ∉ s.ones)) gone rest := fstOpen_congr fun l hl => by
        obtain ⟨q1, q2⟩ := hin l (.tail _ (.tail _ hl))
        have := F1.valm q1 q2
        simp only [ne_eq, this]
        rfl
      rw [hcongr] at hmv
      cases hfo : fstOpen (fun l => decide (-l ∉ s.ones)) gone rest with
      | none =>
        rw [hfo] at hmv
        have e6 : D.truth (D.meth 1 F_Trail_moved (D.loc 0) [(D.loc 6), (D.loc 7)]) L H1 = some (false, H1) := ev_truth ((ev_meth2 (hr1.symm ▸ l0 H1) (R1.at' .obj _ rfl) (l6 H1) (l7 H1)).trans hmv)
        rw [seq_next (lo' := L) (H' := H1) (by rw [ev_ifF ((ev_andT hcm).trans (ev_andF e6))]; rfl)]
        exact tail_ok (by rw [if_neg hpos]; exact hfo)
      | some p =>
        obtain ⟨o, rest'⟩ := p
        rw [hfo] at hmv
        obtain ⟨H2, e7, R2, O2, len2⟩ := hmv
        have e6 : D.truth (D.meth 1 F_Trail_moved (D.loc 0) [(D.loc 6), (D.loc 7)]) L H1 = some (true, H2) := ev_truth ((ev_meth2 (hr1.symm ▸ l0 H1) (R1.at' .obj _ rfl) (l6 H1) (l7 H1)).trans e7)
        rw [seq_cont (lo' := L) (H' := H2) (by rw [ev_ifT ((ev_andT hcm).trans ((ev_andT e6).trans rfl))]; rfl)]
        unfold lturn at hlstep
        rw [if_neg hpos, hfo] at hlstep
        dsimp only at hlstep
        obtain ⟨m1, m2⟩ := fstOpen_mem hfo
        have hog : o ≠ gone := fun e => by
          have m2' : -o ∉ s.ones := by simpa using m2
          exact m2' (e ▸ F.gon)
        obtain ⟨q1, q2⟩ := hin o (.tail _ (.tail _ m1))
        have hne : (plc o).toNat ≠ (plc gone).toNat := fun e => hog (plc_nat e q1 hg1)
        let s2 : LS := { s with goes := s.goes ++ [(o, x)], lists := s.lists.set x.toNat (some (oth :: o :: rest')) }
        have hT : (((t.of s1).setC x.toNat (oth :: o :: rest')).addW (plc o).toNat x) = t.of s2 := by
          rw [of_setC F1.len, of_addW]
          show t.of _ = t.of _
          congr 1
          simp only [s1, s2, List.set_set]
        rw [hT] at R2
        have hp2 : List.Perm (oth :: o :: rest') (a :: b :: rest) := ((fstOpen_perm hfo).cons oth).trans hperm
        have hWe : (t.of s2).W = addWs (t.of s).W (o, x) := by
          show (s.goes ++ [(o, x)]).foldl addWs t.W = _
          rw [List.foldl_append]; rfl
        have hWs : ∀ j, (t.of s2).W[j]? = ((t.of s).W[j]?).map fun q => if (plc o).toNat = j then (q.1, q.2 ++ [x]) else q := fun j => by
          rw [hWe]
          generalize (t.of s).W = W0
          show (W0.modify (plc o).toNat fun q => (q.1, q.2 ++ [x]))[j]? = _
          rw [List.getElem?_modify]
          by_cases h : (plc o).toNat = j
          · simp only [h, if_true]; rfl
          · simp only [h, if_false]
            cases W0[j]? <;> rfl
        show P L H2
        rw [← hL]
        refine hP s2 _ _ H2 hlstep htold ⟨R2, F.turn i1 hp2 s2 rfl rfl rfl, ?_, fun l h1 h2 => ?_, ?_, V.kfree, V.kh, by show s.stays.length + _ ≤ _; (first | decide | assumption | (exact Nat.le_trans (by assumption) (by decide)) | lia | omega), by (first | decide | assumption | (exact Nat.le_trans (by assumption) (by decide)) | lia | omega), fun c h1 h2 => ?_⟩
        · rw [hWs, V.wat]; simp [hne]
        · obtain ⟨b', ns, e1', e2'⟩ := V.wb l h1 h2
          rw [List.length_cons] at e2'
          rw [hWs, e1']
          by_cases h : (plc o).toNat = (plc l).toNat
          · exact ⟨b', ns ++ [x], by simp [h], by simp; (first | decide | assumption | (exact Nat.le_trans (by assumption) (by decide)) | lia | omega)⟩
          · exact ⟨b', ns, by simp [h], by (first | decide | assumption | (exact Nat.le_trans (by assumption) (by decide)) | lia | omega)⟩
        · rw [O2.2 K (fun k => by rw [hat1]; exact V.kfree k) (List.getElem?_eq_some_iff.mp k1).1]; exact k1
        · rw [O2.2 c (fun k => by rw [hat1]; exact h1 k) (by (first | decide | assumption | (exact Nat.le_trans (by assumption) (by decide)) | lia | omega))]
          exact k3 c h1 h2
theorem visit_turn (V : VS n gone t s (x :: todo) wa nums K H0 H) (htold : s.told = -1) (Ln : Len t) (hn : t.as.length = n + 1) (hn1 : n ≤ 50) (hW : t.W.length ≤ 1000) (hg1 : 1 ≤ gone.natAbs) (hg2 : gone.natAbs ≤ n) {i : Nat} (hx : nums[i]? = some x) (hd : nums.drop (i + 1) = todo) (hnums : nums.length < 1000) (hCl : t.C.length < 1000) (u6 u7 : Option MV) :
    Turn (b1_Trail_visit (vlo t gone wa K (-1) i u6 u7) H)
      (fun lo' H' => (lstep gone s x).told = -1 ∧ ∃ u6 u7, lo' = vlo t gone wa K (-1) i u6 u7 ∧ VS n gone t (lstep gone s x) todo wa nums K H0 H')
      (fun lo' H' => (lstep gone s x).told = x ∧ ∃ u6 u7, lo' = vlo t gone wa K x i u6 u7 ∧ VS n gone t { lstep gone s x with stays := (lstep gone s x).stays ++ todo } [] wa nums K H0 H')
      (fun _ _ _ => False) :=
  visit_turn' V htold Ln hn hn1 hW hg1 hg2 hx hd hnums hCl u6 u7 (fun s' u6 u7 H' e h1 h2 => by subst e; exact ⟨h1, u6, u7, rfl, h2⟩) (fun s' u6 u7 H' e h1 h2 => by subst e; exact ⟨h1, u6, u7, rfl, h2⟩)
end
end Mine
namespace Mine

noncomputable def T.init (t : T) : LS := { told := -1, lists := t.C.map fun o => o.map (·.2), stays := [], goes := [], forced := [], ones := t.tr }
theorem of_init (t : T) : t.of t.init = t := by
  have : cOf t.C (t.C.map fun o => o.map (·.2)) = t.C := by
    refine List.ext_getElem? fun i => ?_
    simp only [cOf, List.getElem?_zipWith, List.getElem?_map]
    cases t.C[i]? with
    | none => rfl
    | some o => cases o <;> rfl
  unfold T.of T.init T.enqs
  simp only [List.foldl_nil, this]

noncomputable def T.newW (t : T) (p K : Nat) (ns : List Int) : T := { t with W := t.W.set p (K, ns) }
theorem Rep.newW {t : T} {H : St} (R : Rep t H) {p K : Nat} {ns : List Int} (hK : ∀ k, t.at k ≠ some K) (hns : H[K]? = some (il ns)) (hp : p < t.W.length) :
    Rep (t.newW p K ns) (H.set (t.r + 8) (.list ((t.W.map fun q => MV.ref q.1).set p (.ref K)))) := by
  have hws : t.at .ws = some (t.r + 8) := rfl
  have hKr : t.r + 8 ≠ K := fun e => hK .ws (by rw [hws, e])
  have atw : ∀ i, (t.newW p K ns).at (.w i) = if p = i then some K else t.at (.w i) := fun i => by
    show Option.map (·.1) ((t.W.set p (K, ns))[i]?) = _
    rw [List.getElem?_set]
    by_cases h : p = i
    · subst h; simp [hp]
    · simp [h, T.at]
  have atk : ∀ k, (∀ i, k ≠ .w i) → (t.newW p K ns).at k = t.at k := fun k h => by cases k <;> first | rfl | exact absurd rfl (h _)
  have other : ∀ k a, t.at k = some a → k ≠ .ws → (H.set (t.r + 8) (.list ((t.W.map fun q => MV.ref q.1).set p (.ref K))))[a]? = some (t.is k) := fun k a ha hk => by
    rw [List.getElem?_set_ne (fun e => hk (R.inj k .ws a ha (by rw [hws, e])))]
    exact R.at' k a ha
  refine ⟨fun k a ha => ?_, fun k k' a h1 h2 => ?_⟩
  · by_cases hw : ∃ i, k = .w i
    · obtain ⟨i, rfl⟩ := hw
      rw [atw] at ha
      by_cases h : p = i
      · subst h
        rw [if_pos rfl] at ha
        cases ha
        rw [List.getElem?_set_ne hKr, hns]
        simp [T.is, T.newW, hp]
      · rw [if_neg h] at ha
        rw [other _ _ ha (by simp)]
        simp [T.is, T.newW, List.getElem?_set, h]
    · have hk : ∀ i, k ≠ .w i := fun i e => hw ⟨i, e⟩
      rw [atk k hk] at ha
      by_cases hs : k = .ws
      · subst hs
        cases ha
        rw [List.getElem?_set_self (R.lt hws)]
        show some (MO.list _) = some (MO.list ((t.W.set p (K, ns)).map _))
        rw [List.map_set]
      · rw [other k a ha hs]
        cases k <;> first | rfl | exact absurd rfl hs | exact absurd rfl (hk _)
  · by_cases hw : ∃ i, k = .w i
    · obtain ⟨i, rfl⟩ := hw
      rw [atw] at h1
      by_cases hw' : ∃ j, k' = .w j
      · obtain ⟨j, rfl⟩ := hw'
        rw [atw] at h2
        by_cases e1 : p = i
        · by_cases e2 : p = j
          · rw [← e1, ← e2]
          · rw [if_pos e1] at h1; rw [if_neg e2] at h2
            exact absurd (h2.trans h1.symm) (hK _)
        · by_cases e2 : p = j
          · rw [if_neg e1] at h1; rw [if_pos e2] at h2
            exact absurd (h1.trans h2.symm) (hK _)
          · rw [if_neg e1] at h1; rw [if_neg e2] at h2
            exact R.inj _ _ a h1 h2
      · rw [atk k' fun j e => hw' ⟨j, e⟩] at h2
        by_cases e1 : p = i
        · rw [if_pos e1] at h1
          exact absurd (h2.trans h1.symm) (hK _)
        · rw [if_neg e1] at h1
          exact R.inj _ _ a h1 h2
    · rw [atk k fun j e => hw ⟨j, e⟩] at h1
      by_cases hw' : ∃ j, k' = .w j
      · obtain ⟨j, rfl⟩ := hw'
        rw [atw] at h2
        by_cases e2 : p = j
        · rw [if_pos e2] at h2
          exact absurd (h1.trans h2.symm) (hK _)
        · rw [if_neg e2] at h2
          exact R.inj _ _ a h1 h2
      · rw [atk k' fun j e => hw' ⟨j, e⟩] at h2
        exact R.inj _ _ a h1 h2

section
variable {n : Nat} {gone : Int} {t : T} {wa : Nat} {nums : List Int} {H : St}
theorem visit_ok (R : Rep t H) (F : Fit n gone t t.init nums) (Ln : Len t) (hn : t.as.length = n + 1) (hn1 : n ≤ 50) (hW : t.W.length ≤ 1000) (hg1 : 1 ≤ gone.natAbs) (hg2 : gone.natAbs ≤ n) (hw : t.W[(plc gone).toNat]? = some (wa, nums)) (hnums : nums.length ≤ 500) (hCl : t.C.length < 1000)
    (wb : ∀ l : Int, 1 ≤ l.natAbs → l.natAbs ≤ n → ∃ b ns, t.W[(plc l).toNat]? = some (b, ns) ∧ ns.length + nums.length ≤ 1000) :
    ∃ H', F_Trail_visit [.ref t.r, .int gone] H = some (.int (nums.foldl (lstep gone) t.init).told, H') ∧ Rep ((t.of (nums.foldl (lstep gone) t.init)).newW (plc gone).toNat H.length (nums.foldl (lstep gone) t.init).stays) H' ∧
      Fit n gone t (nums.foldl (lstep gone) t.init) [] ∧ H.length < H'.length ∧ ∀ a, (∀ k, t.at k ≠ some a) → a < H.length → H'[a]? = H[a]? := by
  have hK : ∀ k, t.at k ≠ some H.length := fun k e => by have := R.lt e; (first | decide | assumption | (exact Nat.le_trans (by assumption) (by decide)) | lia | omega)
  have R0 : Rep (t.of t.init) (H ++ [.list []]) := by rw [of_init]; exact R.app
  have e1 := ev_watch (t := t) R (f := D.loc 0) (g := D.loc 1) (lo := [some (.ref t.r), some (.int gone), none, none, none, none, none, none]) rfl rfl (by (first | decide | assumption | (exact Nat.le_trans (by assumption) (by decide)) | lia | omega)) hw hW
  have s1 : D.swap (D.tup [(D.sub (D.attr 1 6 (D.loc 0)) (D.call F_place_of [(D.loc 1)])), (D.list []), (D.const (.int (-1)))]) [2, 3, 4] [some (.ref t.r), some (.int gone), none, none, none, none, none, none] H =
      some (.next, [some (.ref t.r), some (.int gone), some (.ref wa), some (.ref H.length), some (.int (-1)), none, none, none], H ++ [.list []]) := by
    unfold D.swap D.tup
    simp only [D.args, e1, bnd_some, D.list]
    rfl
  have V0 : VS n gone t t.init nums wa nums H.length H (H ++ [.list []]) := by
    refine ⟨R0, F, by rw [of_init]; exact hw, fun l h1 h2 => by rw [of_init]; exact wb l h1 h2, by simp [T.init], hK, Nat.le_refl _, by simp [T.init]; (first | decide | assumption | (exact Nat.le_trans (by assumption) (by decide)) | lia | omega), by simp, fun a h1 h2 => List.getElem?_append_left h2⟩
  have hlen : D.bcall b.len [D.loc 2] [some (.ref t.r), some (.int gone), some (.ref wa), some (.ref H.length), some (.int (-1)), none, none, none] (H ++ [.list []]) = some (.int (nums.length : Int), H ++ [.list []]) := by
    have := ev_len (f := D.loc 2) (lo := [some (.ref t.r), some (.int gone), some (.ref wa), some (.ref H.length), some (.int (-1)), none, none, none]) rfl ((V0.rep.at' _ _ (T.at_w V0.wat)).trans (congrArg some (T.is_w V0.wat))) (by rw [List.length_map]; (first | decide | assumption | (exact Nat.le_trans (by assumption) (by decide)) | lia | omega))
    rw [List.length_map] at this
    exact this
  have hfor := ev_forR (g := D.tname 5) (b := b1_Trail_visit) (ev_range1 hlen) (by (first | decide | assumption | (exact Nat.le_trans (by assumption) (by decide)) | lia | omega)) (by (first | decide | assumption | (exact Nat.le_trans (by assumption) (by decide)) | lia | omega)) (by (first | decide | assumption | (exact Nat.le_trans (by assumption) (by decide)) | lia | omega)) (by (first | decide | assumption | (exact Nat.le_trans (by assumption) (by decide)) | lia | omega))
  have rule := forV_rule (g := D.tname 5) (b := b1_Trail_visit) (l := (List.range ((nums.length : Int) - 0).toNat).map fun i : Nat => MV.int (0 + i))
    (fun i lo H' => ∃ u5 u6 u7, lo = [some (.ref t.r), some (.int gone), some (.ref wa), some (.ref H.length), some (.int (-1)), u5, u6, u7] ∧ ((nums.take i).foldl (lstep gone) t.init).told = -1 ∧ VS n gone t ((nums.take i).foldl (lstep gone) t.init) (nums.drop i) wa nums H.length H H')
    (Q := fun lo H' => ∃ u5 u6 u7, lo = [some (.ref t.r), some (.int gone), some (.ref wa), some (.ref H.length), some (.int (nums.foldl (lstep gone) t.init).told), u5, u6, u7] ∧ VS n gone t (nums.foldl (lstep gone) t.init) [] wa nums H.length H H')
    (R := fun _ _ _ => False)
    (fun i v lo H' hv ⟨u5, u6, u7, hlo, htold, V⟩ => by
      subst hlo
      obtain ⟨hi, rfl⟩ := range_get hv
      have hi' : i < nums.length := by simpa using hi
      have hx : nums[i]? = some nums[i] := List.getElem?_eq_getElem hi'
      have hdrop : nums.drop i = nums[i] :: nums.drop (i + 1) := List.drop_eq_getElem_cons hi'
      rw [hdrop] at V
      have hti : nums.take (i + 1) = nums.take i ++ [nums[i]] := by rw [List.take_add_one, hx]; rfl
      have hfold : (nums.take (i + 1)).foldl (lstep gone) t.init = lstep gone ((nums.take i).foldl (lstep gone) t.init) nums[i] := by rw [hti, List.foldl_append]; rfl
      refine ⟨vlo t gone wa H.length (-1) i u6 u7, H', by rw [Int.zero_add]; rfl, ?_⟩
      have hw0 := (V.fit.wat _ (.head _)).1
      generalize hs0 : (nums.take i).foldl (lstep gone) t.init = s0 at V htold hfold
      refine visit_turn' V htold Ln hn hn1 hW hg1 hg2 hx rfl (by (first | decide | assumption | (exact Nat.le_trans (by assumption) (by decide)) | lia | omega)) hCl u6 u7 (fun s' v6 v7 H'' e h1 h2 => ?_) (fun s' v6 v7 H'' e h1 h2 => ?_)
      · rw [hfold, e]
        exact ⟨_, v6, v7, rfl, h1, h2⟩
      · have hall : nums.foldl (lstep gone) t.init = { s' with stays := s'.stays ++ nums.drop (i + 1) } := by
          have e' : nums.foldl (lstep gone) t.init = (nums.drop (i + 1)).foldl (lstep gone) s' := by rw [← e, ← hfold, ← List.foldl_append, List.take_append_drop]
          rw [e']
          exact lstep_told (by rw [h1]; (first | decide | assumption | (exact Nat.le_trans (by assumption) (by decide)) | lia | omega))
        rw [hall, ← h1]
        exact ⟨_, v6, v7, rfl, h2⟩)
    (fun lo H' ⟨u5, u6, u7, hlo, htold, V⟩ => by
      have hl : ((List.range ((nums.length : Int) - 0).toNat).map fun i : Nat => MV.int (0 + i)).length = nums.length := by simp
      rw [hl, List.take_length, List.drop_length] at V
      rw [hl, List.take_length] at htold
      exact ⟨u5, u6, u7, by rw [hlo, htold], V⟩)
    (lo := [some (.ref t.r), some (.int gone), some (.ref wa), some (.ref H.length), some (.int (-1)), none, none, none]) (H := H ++ [.list []]) ⟨none, none, none, rfl, rfl, by simpa using V0⟩
  rw [← hfor] at rule
  obtain ⟨lo, H', e2, u5, u6, u7, rfl, V⟩ := rule.next
  generalize hs : nums.foldl (lstep gone) t.init = s at V e2 ⊢
  have hr : (t.of s).r = t.r := enqs_keep.2.2.2.2.1
  have hp0 : 0 ≤ plc gone := by unfold plc; split <;> (first | decide | assumption | (exact Nat.le_trans (by assumption) (by decide)) | lia | omega)
  have hplt : (plc gone).toNat < (t.of s).W.length := by rw [of_W]; exact (List.getElem?_eq_some_iff.mp hw).1
  have hat := of_at (t := t) (s := s) V.fit.len
  have s3 := ev_setsub (f := D.loc 3) (fa := D.attr 1 6 (D.loc 0)) (fi := D.call F_place_of [D.loc 1]) (lo := [some (.ref t.r), some (.int gone), some (.ref wa), some (.ref H.length), some (.int s.told), u5, u6, u7]) (H := H') (v := .ref H.length)
    rfl (V.rep.attr rfl (by rw [hr]; rfl) rfl) ((ev_call1 rfl).trans (place_ok (by (first | decide | assumption | (exact Nat.le_trans (by assumption) (by decide)) | lia | omega)))) (V.rep.at' .ws _ rfl) hp0 (by rw [List.length_map]; exact hplt) (by rw [List.length_map, of_W]; (first | decide | assumption | (exact Nat.le_trans (by assumption) (by decide)) | lia | omega))
  have R4 := V.rep.newW (p := (plc gone).toNat) (K := H.length) (ns := s.stays) (fun k => by rw [hat]; exact hK k) V.kp hplt
  refine ⟨_, fn_ret rfl (lo' := [some (.ref t.r), some (.int gone), some (.ref wa), some (.ref H.length), some (.int s.told), u5, u6, u7]) ?_, R4, V.fit, ?_, fun a h1 h2 => ?_⟩
  · unfold d_Trail_visit
    show D.seq _ _ [some (.ref t.r), some (.int gone), none, none, none, none, none, none] H = _
    rw [seq_next s1, seq_next e2, seq_next s3]
    rfl
  · rw [List.length_set]
    exact (List.getElem?_eq_some_iff.mp V.kp).1
  · rw [List.getElem?_set_ne (fun e => h1 .ws (by rw [← e, hr]; rfl))]
    exact V.out a h1 h2
end
end Mine
namespace Mine

theorem all_shaped {k : Nat} : ∀ {xs : List PyData}, (∀ x ∈ xs, PyData.canLay0 x = true ∧ PyData.depth x ≤ k) → PyData.canLayAll0 xs = true ∧ PyData.depthAll xs ≤ k
  | [], _ => ⟨rfl, Nat.zero_le _⟩
  | x :: xs, h => by
    obtain ⟨h1, h2⟩ := h x (.head _)
    obtain ⟨h3, h4⟩ := all_shaped fun y hy => h y (.tail _ hy)
    simp only [PyData.canLayAll0, PyData.depthAll, h1, h3]
    exact ⟨rfl, by (first | decide | assumption | (exact Nat.le_trans (by assumption) (by decide)) | lia | omega)⟩
noncomputable def dInts (l : List Int) : PyData := .list (l.map .int)
theorem ints_shaped (l : List Int) : PyData.canLay0 (dInts l) = true ∧ PyData.depth (dInts l) ≤ 1 := by
  obtain ⟨h1, h2⟩ := all_shaped (k := 0) (xs := l.map PyData.int) fun x hx => by
    obtain ⟨i, _, rfl⟩ := List.mem_map.mp hx
    exact ⟨rfl, Nat.le_refl _⟩
  simp only [dInts, PyData.canLay0, PyData.depth]
  exact ⟨h1, by (first | decide | assumption | (exact Nat.le_trans (by assumption) (by decide)) | lia | omega)⟩
theorem shaped_of {d : PyData} {k : Nat} (h : PyData.canLay0 d = true ∧ PyData.depth d ≤ k) (hk : k ≤ 64) : shaped d = true := by
  unfold shaped; rw [h.1]; simp; (first | decide | assumption | (exact Nat.le_trans (by assumption) (by decide)) | lia | omega)
theorem eqD_same {H : St} {a b : MV} {d : PyData} (ha : rd 8 H a = some d) (hb : rd 8 H b = some d) (hs : shaped d = true) : eqD H a b = some true := by
  unfold eqD
  rw [ha, hb]
  simp only [hs, Bool.and_self, if_true]
  rw [eqv_refl d (canLay_of_shaped hs)]
theorem rdsW_map {α : Type} {f : MV → Option PyData} {g : α → MV} {d : α → PyData} : ∀ {l : List α}, (∀ x ∈ l, f (g x) = some (d x)) → rdsW f (l.map g) = some (l.map d)
  | [], _ => rfl
  | x :: l, h => by
    rw [List.map_cons, List.map_cons]
    unfold rdsW
    rw [h x (.head _), rdsW_map fun y hy => h y (.tail _ hy)]
theorem rds_ints {k : Nat} {H : St} {l : List Int} : rdsW (rd (k + 1) H) (l.map .int) = some (l.map .int) := rdsW_map fun _ _ => rfl
theorem rd_il {k a : Nat} {H : St} {l : List Int} (h : H[a]? = some (il l)) : rd (k + 2) H (.ref a) = some (dInts l) := by
  unfold rd
  simp only [h, rds_ints, dInts]; rfl
noncomputable def dC : Option (List Int) → PyData
  | none => .none
  | some l => dInts l
theorem dC_shaped (o : Option (List Int)) : PyData.canLay0 (dC o) = true ∧ PyData.depth (dC o) ≤ 1 := by
  cases o with
  | none => exact ⟨rfl, Nat.zero_le _⟩
  | some l => exact ints_shaped l
theorem rds_refs {k : Nat} {H : St} {LA : List (Option (Nat × List Int))} (h : ∀ p, some p ∈ LA → H[p.1]? = some (il p.2)) : rdsW (rd (k + 2) H) (LA.map refOf) = some (LA.map fun o => dC (o.map (·.2))) := rdsW_map fun o ho => by
  cases o with
  | none => rfl
  | some p => exact rd_il (h p ho)
theorem rd_refs {a : Nat} {H : St} {LA : List (Option (Nat × List Int))} (ha : H[a]? = some (.list (LA.map refOf))) (h : ∀ p, some p ∈ LA → H[p.1]? = some (il p.2)) : rd 8 H (.ref a) = some (.list (LA.map fun o => dC (o.map (·.2)))) := by
  have e := rds_refs (k := 5) h
  unfold rd
  simp only [ha, e]; rfl
theorem refs_shaped {l : List (Option (List Int))} : shaped (.list (l.map dC)) = true := by
  obtain ⟨h1, h2⟩ := all_shaped (k := 1) (xs := l.map dC) fun x hx => by
    obtain ⟨o, _, rfl⟩ := List.mem_map.mp hx
    exact dC_shaped o
  refine shaped_of (k := 2) ⟨?_, ?_⟩ (by (first | decide | assumption | (exact Nat.le_trans (by assumption) (by decide)) | lia | omega))
  · simp only [PyData.canLay0]; exact h1
  · simp only [PyData.depth]; (first | decide | assumption | (exact Nat.le_trans (by assumption) (by decide)) | lia | omega)

theorem eqD_empty {H : St} {a b : Nat} {l : List Int} (ha : H[a]? = some (il l)) (hb : H[b]? = some (.list [])) : eqD H (.ref a) (.ref b) = some (decide (l = [])) := by
  unfold eqD
  have h2 : rd 8 H (.ref b) = some (dInts []) := rd_il (l := []) hb
  rw [rd_il (k := 6) ha, h2]
  simp only [shaped_of (ints_shaped _) (by (first | decide | assumption | (exact Nat.le_trans (by assumption) (by decide)) | lia | omega)), Bool.and_self, if_true]
  cases l with
  | nil => rfl
  | cons x l => simp [dInts, PyData.eqv, PyData.eqvAll]

theorem ev_comp {f : DE} {t : Lo → St → Option (Bool × St)} {e : DE} {lo : Lo} {H H1 : St} {a q : Nat} {l : List MV} (c : MV → Bool) (fn : MV → MV) (hf : f lo H = some (.ref a, H1)) (ha : H1[a]? = some (.list l)) (hq : lo.length = q) (hl : l.length ≤ 1000000)
    (ht : ∀ v ∈ l, t (lo ++ [some v]) H1 = some (c v, H1)) (he : ∀ v ∈ l, c v = true → e (lo ++ [some v]) H1 = some (fn v, H1)) :
    D.comp q 1 f (D.tname q) t e lo H = some (.ref H1.length, H1 ++ [.list ((l.filter c).map fn)]) := by
  unfold D.comp D.compTo
  rw [hf]
  simp only [bnd_some, srcOf, ha]
  rw [if_pos hq]
  have := cl_pure (src := srcL a) (g := D.tname q) (t := t) (e := e) (l := l) H1 (lo ++ [none]) (fun v => lo ++ [some v]) c fn (fun i => by simp only [srcL, ha]) hl
    (fun v hv lo' hlo => by
      have hg : ∀ u : Option MV, D.tname q v (lo ++ [u]) H1 = some (lo ++ [some v], H1) := fun u => by
        unfold D.tname
        rw [if_pos (by simp; (first | decide | assumption | (exact Nat.le_trans (by assumption) (by decide)) | lia | omega))]
        rw [List.set_append_right _ _ (by (first | decide | assumption | (exact Nat.le_trans (by assumption) (by decide)) | lia | omega))]
        simp [hq]
      rcases hlo with rfl | ⟨u, _, rfl⟩
      · exact hg none
      · exact hg (some u)) ht he
  simp only [List.replicate_one, this, Option.map_some]
theorem ev_compR {f : DE} {t : Lo → St → Option (Bool × St)} {e : DE} {lo : Lo} {H H1 : St} {x y : Int} {q : Nat} (c : MV → Bool) (fn : MV → MV) (hf : f lo H = some (.rng x y 1, H1)) (h1 : -1000 ≤ x) (h2 : x ≤ 1000) (h3 : -1000 ≤ y) (h4 : y ≤ 1000) (hq : lo.length = q)
    (ht : ∀ v ∈ ((List.range (y - x).toNat).map fun i : Nat => MV.int (x + i)), t (lo ++ [some v]) H1 = some (c v, H1)) (he : ∀ v ∈ ((List.range (y - x).toNat).map fun i : Nat => MV.int (x + i)), c v = true → e (lo ++ [some v]) H1 = some (fn v, H1)) :
    D.comp q 1 f (D.tname q) t e lo H = some (.ref H1.length, H1 ++ [.list ((((List.range (y - x).toNat).map fun i : Nat => MV.int (x + i)).filter c).map fn)]) := by
  unfold D.comp D.compTo
  rw [hf]
  simp only [bnd_some, srcOf]
  rw [if_pos hq, if_pos (range_small h1 h2 h3 (by (first | decide | assumption | (exact Nat.le_trans (by assumption) (by decide)) | lia | omega))), range_items]
  generalize hl : ((List.range (y - x).toNat).map fun i : Nat => MV.int (x + i)) = l at ht he ⊢
  have := cl_pure (src := srcV l) (g := D.tname q) (t := t) (e := e) (l := l) H1 (lo ++ [none]) (fun v => lo ++ [some v]) c fn (fun i => rfl) (by rw [← hl]; simp; (first | decide | assumption | (exact Nat.le_trans (by assumption) (by decide)) | lia | omega))
    (fun v hv lo' hlo => by
      have hg : ∀ u : Option MV, D.tname q v (lo ++ [u]) H1 = some (lo ++ [some v], H1) := fun u => by
        unfold D.tname
        rw [if_pos (by simp; (first | decide | assumption | (exact Nat.le_trans (by assumption) (by decide)) | lia | omega))]
        rw [List.set_append_right _ _ (by (first | decide | assumption | (exact Nat.le_trans (by assumption) (by decide)) | lia | omega))]
        simp [hq]
      rcases hlo with rfl | ⟨u, _, rfl⟩
      · exact hg none
      · exact hg (some u)) ht he
  simp only [List.replicate_one, this, Option.map_some]

theorem ev_copies {f : DE} {lo : Lo} {H H1 : St} {a q : Nat} {C : List (Option (Nat × List Int))} (hf : f lo H = some (.ref a, H1)) (ha : H1[a]? = some (.list (C.map refOf))) (hq : lo.length = q) (hl : C.length ≤ 1000)
    (hC : ∀ p, some p ∈ C → H1[p.1]? = some (il p.2) ∧ p.2.length ≤ 1000) :
    ∃ (LA : List (Option (Nat × List Int))) (H2 : St), D.comp q 1 f (D.tname q) D.yes (D.ite (D.cmpT .Is (D.loc q) (D.const .none)) (D.const .none) (D.bcall b.list [(D.loc q)])) lo H = some (.ref H2.length, H2 ++ [.list (LA.map refOf)]) ∧
      LA.map (·.map (·.2)) = C.map (·.map (·.2)) ∧ H1.length ≤ H2.length ∧ (∀ i, i < H1.length → H2[i]? = H1[i]?) ∧ (∀ p, some p ∈ LA → H1.length ≤ p.1 ∧ H2[p.1]? = some (il p.2)) := by
  unfold D.comp D.compTo
  rw [hf]
  simp only [bnd_some, srcOf, ha]
  rw [if_pos hq]
  have lget : ∀ (u : MV) H, D.loc q (lo ++ [some u]) H = some (u, H) := fun u H => ev_loc (by rw [List.getElem?_append_right (by (first | decide | assumption | (exact Nat.le_trans (by assumption) (by decide)) | lia | omega))]; simp [hq])
  have hg : ∀ v (u : Option MV) H, D.tname q v (lo ++ [u]) H = some (lo ++ [some v], H) := fun v u H => by
    unfold D.tname
    rw [if_pos (by simp; (first | decide | assumption | (exact Nat.le_trans (by assumption) (by decide)) | lia | omega)), List.set_append_right _ _ (by (first | decide | assumption | (exact Nat.le_trans (by assumption) (by decide)) | lia | omega))]
    simp [hq]
  obtain ⟨acc, H2, e1, LA, q1, q2, q3, q4, q5⟩ := cl_rule (src := srcL a) (g := D.tname q) (t := D.yes) (e := D.ite (D.cmpT .Is (D.loc q) (D.const .none)) (D.const .none) (D.bcall b.list [(D.loc q)])) (l := C.map refOf)
    (fun i acc lo' H' => (∃ u, lo' = lo ++ [u]) ∧ ∃ LA : List (Option (Nat × List Int)), acc = LA.map refOf ∧ LA.map (·.map (·.2)) = (C.take i).map (·.map (·.2)) ∧ H1.length ≤ H'.length ∧ (∀ j, j < H1.length → H'[j]? = H1[j]?) ∧ (∀ p, some p ∈ LA → H1.length ≤ p.1 ∧ H'[p.1]? = some (il p.2)))
    (Q := fun acc H' => ∃ LA : List (Option (Nat × List Int)), acc = LA.map refOf ∧ LA.map (·.map (·.2)) = C.map (·.map (·.2)) ∧ H1.length ≤ H'.length ∧ (∀ j, j < H1.length → H'[j]? = H1[j]?) ∧ (∀ p, some p ∈ LA → H1.length ≤ p.1 ∧ H'[p.1]? = some (il p.2)))
    (fun i acc lo' H' ⟨_, LA, _, _, _, q4, _⟩ => by
      have hlt : a < H1.length := (List.getElem?_eq_some_iff.mp ha).1
      simp only [srcL, q4 a hlt, ha])
    (fun i v acc lo' H' hv ⟨⟨u, hu⟩, LA, q1, q2, q3, q4, q5⟩ => by
      subst hu
      rw [List.getElem?_map] at hv
      obtain ⟨o, ho, rfl⟩ := Option.map_eq_some_iff.mp hv
      have hlt : i < C.length := (List.getElem?_eq_some_iff.mp ho).1
      have hacc : acc.length ≤ 1000000 := by
        have := congrArg List.length q2
        rw [List.length_map, List.length_map, List.length_take] at this
        rw [q1, List.length_map]; (first | decide | assumption | (exact Nat.le_trans (by assumption) (by decide)) | lia | omega)
      have htk : (C.take (i + 1)).map (·.map (·.2)) = (C.take i).map (·.map (·.2)) ++ [o.map (·.2)] := by rw [List.take_add_one, ho]; simp
      refine ⟨_, H', true, H', hg _ u H', rfl, ?_⟩
      rw [if_pos rfl]
      cases o with
      | none =>
        refine ⟨.none, H', ?_, hacc, ⟨_, rfl⟩, LA ++ [none], by rw [q1, List.map_append]; rfl, by rw [List.map_append, q2, htk]; rfl, q3, q4, fun p hp => q5 p ?_⟩
        · show D.ite _ _ _ (lo ++ [some .none]) H' = _
          rw [ev_ite (ev_cmpT (g := D.const .none) (y := .none) (lget .none H') rfl (rfl : Mine.cmp .Is .none .none H' = some true))]; rfl
        · rcases List.mem_append.mp hp with h | h
          · exact h
          · simp at h
      | some p0 =>
        obtain ⟨h1, h2⟩ := hC p0 (List.mem_of_getElem? ho)
        have hp0 : H'[p0.1]? = some (il p0.2) := by rw [q4 _ (List.getElem?_eq_some_iff.mp h1).1]; exact h1
        refine ⟨.ref H'.length, H' ++ [il p0.2], ?_, hacc, ⟨_, rfl⟩, LA ++ [some (H'.length, p0.2)], by rw [q1, List.map_append]; rfl, by rw [List.map_append, q2, htk]; rfl, by simp; (first | decide | assumption | (exact Nat.le_trans (by assumption) (by decide)) | lia | omega), fun j hj => ?_, fun p hp => ?_⟩
        · show D.ite _ _ _ (lo ++ [some (.ref p0.1)]) H' = _
          rw [ev_ite (ev_cmpT (g := D.const .none) (y := .none) (lget (.ref p0.1) H') rfl (rfl : Mine.cmp .Is (.ref p0.1) .none H' = some false))]
          simp only [Bool.false_eq_true, if_false, D.bcall, D.args, lget, refOf, bnd_some, Mine.b.list, hp0]
          rw [if_pos (by simp [small]; (first | decide | assumption | (exact Nat.le_trans (by assumption) (by decide)) | lia | omega))]
        · rw [List.getElem?_append_left (by (first | decide | assumption | (exact Nat.le_trans (by assumption) (by decide)) | lia | omega))]; exact q4 j hj
        · rcases List.mem_append.mp hp with h | h
          · obtain ⟨r1, r2⟩ := q5 p h
            exact ⟨r1, by rw [List.getElem?_append_left (List.getElem?_eq_some_iff.mp r2).1]; exact r2⟩
          · simp at h
            subst h
            exact ⟨q3, by simp⟩)
    (fun acc lo' H' ⟨_, LA, q1, q2, r⟩ => ⟨LA, q1, by rw [List.length_map, List.take_length] at q2; exact q2, r⟩)
    (lo := lo ++ [none]) (H := H1) ⟨⟨none, rfl⟩, [], rfl, by simp, Nat.le_refl _, fun _ _ => rfl, fun p hp => by simp at hp⟩
  refine ⟨LA, H2, ?_, q2, q3, q4, q5⟩
  rw [List.length_map] at e1
  simp only [List.replicate_one, List.length_map, e1, Option.map_some, q1]
end Mine
namespace Mine
section
variable {n : Nat} {gone : Int} {t : T} {s : LS} {todo : List Int} {x : Int}

theorem other_perm {a b g : Int} {rest : List Int} (h : a = g ∨ b = g) : List.Perm ((if b = g then a else b) :: g :: rest) (a :: b :: rest) := by
  by_cases hb : b = g
  · rw [if_pos hb, hb]
  · rw [if_neg hb, h.resolve_right hb]; exact List.Perm.swap _ _ _

theorem Fit.step (F : Fit n gone t s (x :: todo)) (htold : s.told = -1) (hn : t.as.length = n + 1) : Fit n gone t (lstep gone s x) todo := by
  rcases F.item with ⟨i1, i2⟩ | ⟨a, b, rest, a1, c0, i1, i2, hab⟩
  · have : lstep gone s x = s := by unfold lstep; rw [if_neg (by simp [htold]), i1]
    rw [this]; exact F.pass
  · rw [lstep_clause htold i1]
    have hperm := other_perm (rest := rest) hab
    generalize (if b = gone then a else b) = oth at hperm ⊢
    have F1 : Fit n gone t { s with lists := s.lists.set x.toNat (some (oth :: gone :: rest)) } todo := F.turn i1 hperm _ rfl rfl rfl
    obtain ⟨-, -, -, g4⟩ := F.good _ _ i1
    obtain ⟨o1, o2⟩ := g4 oth (hperm.mem_iff.mp (.head _))
    have base : Fit n gone t (if -oth ∈ s.ones then { s with lists := s.lists.set x.toNat (some (oth :: gone :: rest)), stays := s.stays ++ [x], told := x }
        else if oth ∈ s.ones then { s with lists := s.lists.set x.toNat (some (oth :: gone :: rest)), stays := s.stays ++ [x] }
        else { s with lists := s.lists.set x.toNat (some (oth :: gone :: rest)), stays := s.stays ++ [x], forced := s.forced ++ [(oth, x)], ones := s.ones ++ [oth] }) todo := by
      by_cases h1 : -oth ∈ s.ones
      · rw [if_pos h1]; exact F1.note (s.stays ++ [x]) x
      · rw [if_neg h1]
        by_cases h2 : oth ∈ s.ones
        · rw [if_pos h2]; exact F1.note (s.stays ++ [x]) s.told
        · rw [if_neg h2]; exact (F1.more hn o1 o2 h2 h1).note (s.stays ++ [x]) s.told
    unfold lturn
    by_cases h2 : oth ∈ s.ones
    · rw [if_pos h2]
      exact base
    · rw [if_neg h2]
      cases hfo : fstOpen (fun l => decide (-l ∉ s.ones)) gone rest with
      | none => exact base
      | some p =>
        obtain ⟨o, rest'⟩ := p
        exact F.turn i1 (((fstOpen_perm hfo).cons oth).trans hperm) _ rfl rfl rfl

theorem opens_head {p : Int → Bool} {g : Int} : ∀ {rest : List Int}, (rest.map Int.natAbs).Nodup → match rest.filter p with
    | [] => fstOpen p g rest = none
    | o :: _ => fstOpen p g rest = some (o, rest.map fun l => if l = o then g else l)
  | [], _ => rfl
  | a :: r, nd => by
    have nd' := List.nodup_cons.mp nd
    have ih := opens_head (p := p) (g := g) nd'.2
    by_cases hp : p a = true
    · rw [List.filter_cons_of_pos hp]
      simp only [fstOpen, hp, if_true, List.map_cons]
      congr 3
      symm
      have : ∀ l ∈ r, (if l = a then g else l) = l := fun l hl => if_neg fun e => nd'.1 (by rw [← e]; exact List.mem_map_of_mem hl)
      exact (List.map_congr_left this).trans (List.map_id'' (fun _ => rfl) r)
    · rw [List.filter_cons_of_neg hp]
      cases hf : r.filter p with
      | nil =>
        rw [hf] at ih
        simp only [fstOpen, hp, Bool.false_eq_true, if_false, ih]; rfl
      | cons o os =>
        rw [hf] at ih
        have ho : o ∈ r := by
          have : o ∈ r.filter p := by rw [hf]; exact .head _
          exact (List.mem_filter.mp this).1
        have hao : ¬ a = o := fun e => nd'.1 (by rw [e]; exact List.mem_map_of_mem ho)
        simp only [fstOpen, hp, Bool.false_eq_true, if_false, ih, Option.map_some, List.map_cons, hao]

noncomputable abbrev pr (p : Int × Int) : MV := .tup [.int p.1, .int p.2]
structure RS (s : LS) (todo : List Int) (ta la sa ga fa : Nat) (H0 H : St) : Prop where
  ones : H[ta]? = some (il s.ones)
  stays : H[sa]? = some (il s.stays)
  goes : H[ga]? = some (.list (s.goes.map pr))
  forced : H[fa]? = some (.list (s.forced.map pr))
  lists : ∃ LA : List (Option (Nat × List Int)), H[la]? = some (.list (LA.map refOf)) ∧ LA.map (·.map (·.2)) = s.lists ∧ ∀ p, some p ∈ LA → H[p.1]? = some (il p.2) ∧ p.1 ∉ [ta, la, sa, ga, fa] ∧ H0.length ≤ p.1
  old : ∀ a, a < H0.length → H[a]? = H0[a]?
  b1 : s.stays.length + todo.length ≤ 1000
  b2 : s.goes.length + todo.length ≤ 1000
  b3 : s.forced.length + todo.length ≤ 1000
  b4 : s.ones.length + todo.length ≤ 1000
  len : H0.length ≤ H.length

variable {ta la sa ga fa : Nat} {H0 H : St}
theorem RS.less (V : RS s (x :: todo) ta la sa ga fa H0 H) : RS s todo ta la sa ga fa H0 H := by
  have h1 := V.b1; have h2 := V.b2; have h3 := V.b3; have h4 := V.b4
  rw [List.length_cons] at h1 h2 h3 h4
  exact ⟨V.ones, V.stays, V.goes, V.forced, V.lists, V.old, by (first | decide | assumption | (exact Nat.le_trans (by assumption) (by decide)) | lia | omega), by (first | decide | assumption | (exact Nat.le_trans (by assumption) (by decide)) | lia | omega), by (first | decide | assumption | (exact Nat.le_trans (by assumption) (by decide)) | lia | omega), by (first | decide | assumption | (exact Nat.le_trans (by assumption) (by decide)) | lia | omega), V.len⟩
theorem get_app {H L : St} {a : Nat} {o : MO} (h : H[a]? = some o) : (H ++ L)[a]? = some o := by rw [List.getElem?_append_left (List.getElem?_eq_some_iff.mp h).1]; exact h
theorem RS.app (V : RS s todo ta la sa ga fa H0 H) (L : St) : RS s todo ta la sa ga fa H0 (H ++ L) := by
  obtain ⟨LA, q1, q2, q3⟩ := V.lists
  exact ⟨get_app V.ones, get_app V.stays, get_app V.goes, get_app V.forced, ⟨LA, get_app q1, q2, fun p hp => ⟨get_app (q3 p hp).1, (q3 p hp).2⟩⟩, fun a ha => by rw [List.getElem?_append_left (by have := V.len; (first | decide | assumption | (exact Nat.le_trans (by assumption) (by decide)) | lia | omega))]; exact V.old a ha, V.b1, V.b2, V.b3, V.b4, by rw [List.length_append]; have := V.len; (first | decide | assumption | (exact Nat.le_trans (by assumption) (by decide)) | lia | omega)⟩
theorem set_self {H : St} {a : Nat} {o o' : MO} (h : H[a]? = some o) : (H.set a o')[a]? = some o' := List.getElem?_set_self (List.getElem?_eq_some_iff.mp h).1
theorem set_keep {H : St} {a b : Nat} {o' : MO} {r : Option MO} (h : H[b]? = r) (hne : a ≠ b) : (H.set a o')[b]? = r := by rw [List.getElem?_set_ne hne]; exact h

structure Five (ta la sa ga fa : Nat) (H0 : St) : Prop where
  nd : [ta, la, sa, ga, fa].Nodup
  hi : ∀ a ∈ [ta, la, sa, ga, fa], H0.length ≤ a

theorem RS.setS (V : RS s (x :: todo) ta la sa ga fa H0 H) (Z : Five ta la sa ga fa H0) : RS { s with stays := s.stays ++ [x] } todo ta la sa ga fa H0 (H.set sa (il (s.stays ++ [x]))) := by
  have h1 := V.b1; have h2 := V.b2; have h3 := V.b3; have h4 := V.b4
  rw [List.length_cons] at h1 h2 h3 h4
  have nd := Z.nd
  simp only [List.nodup_cons, List.mem_cons, List.not_mem_nil, or_false, not_or, not_false_eq_true, List.nodup_nil, and_true] at nd
  obtain ⟨⟨d1, d2, d3, d4⟩, ⟨d5, d6, d7⟩, ⟨d8, d9⟩, d10⟩ := nd
  obtain ⟨LA, q1, q2, q3⟩ := V.lists
  refine ⟨set_keep V.ones (by first | assumption | exact Ne.symm (by assumption) | lia), set_self V.stays, set_keep V.goes (by first | assumption | exact Ne.symm (by assumption) | lia), set_keep V.forced (by first | assumption | exact Ne.symm (by assumption) | lia), ⟨LA, set_keep q1 (by first | assumption | exact Ne.symm (by assumption) | lia), q2, fun p hp => ⟨set_keep (q3 p hp).1 (fun e => (q3 p hp).2.1 (by rw [← e]; simp)), (q3 p hp).2⟩⟩, fun a ha => set_keep (V.old a ha) (by have := Z.hi sa (by simp); (first | decide | assumption | (exact Nat.le_trans (by assumption) (by decide)) | lia | omega)), by simp; (first | decide | assumption | (exact Nat.le_trans (by assumption) (by decide)) | lia | omega), by dsimp only; (first | decide | assumption | (exact Nat.le_trans (by assumption) (by decide)) | lia | omega), by dsimp only; (first | decide | assumption | (exact Nat.le_trans (by assumption) (by decide)) | lia | omega), by dsimp only; (first | decide | assumption | (exact Nat.le_trans (by assumption) (by decide)) | lia | omega), by rw [List.length_set]; exact V.len⟩
theorem RS.setG (V : RS s (x :: todo) ta la sa ga fa H0 H) (Z : Five ta la sa ga fa H0) (p : Int × Int) : RS { s with goes := s.goes ++ [p] } todo ta la sa ga fa H0 (H.set ga (.list ((s.goes ++ [p]).map pr))) := by
  have h1 := V.b1; have h2 := V.b2; have h3 := V.b3; have h4 := V.b4
  rw [List.length_cons] at h1 h2 h3 h4
  have nd := Z.nd
  simp only [List.nodup_cons, List.mem_cons, List.not_mem_nil, or_false, not_or, not_false_eq_true, List.nodup_nil, and_true] at nd
  obtain ⟨⟨d1, d2, d3, d4⟩, ⟨d5, d6, d7⟩, ⟨d8, d9⟩, d10⟩ := nd
  obtain ⟨LA, q1, q2, q3⟩ := V.lists
  refine ⟨set_keep V.ones (by first | assumption | exact Ne.symm (by assumption) | lia), set_keep V.stays (by first | assumption | exact Ne.symm (by assumption) | lia), set_self V.goes, set_keep V.forced (by first | assumption | exact Ne.symm (by assumption) | lia), ⟨LA, set_keep q1 (by first | assumption | exact Ne.symm (by assumption) | lia), q2, fun p hp => ⟨set_keep (q3 p hp).1 (fun e => (q3 p hp).2.1 (by rw [← e]; simp)), (q3 p hp).2⟩⟩, fun a ha => set_keep (V.old a ha) (by have := Z.hi ga (by simp); (first | decide | assumption | (exact Nat.le_trans (by assumption) (by decide)) | lia | omega)), by dsimp only; (first | decide | assumption | (exact Nat.le_trans (by assumption) (by decide)) | lia | omega), by simp; (first | decide | assumption | (exact Nat.le_trans (by assumption) (by decide)) | lia | omega), by dsimp only; (first | decide | assumption | (exact Nat.le_trans (by assumption) (by decide)) | lia | omega), by dsimp only; (first | decide | assumption | (exact Nat.le_trans (by assumption) (by decide)) | lia | omega), by rw [List.length_set]; exact V.len⟩
theorem RS.setF (V : RS s todo ta la sa ga fa H0 H) (Z : Five ta la sa ga fa H0) (p : Int × Int) (h3' : s.forced.length + 1 + todo.length ≤ 1000) (h4' : s.ones.length + 1 + todo.length ≤ 1000) : RS { s with forced := s.forced ++ [p], ones := s.ones ++ [p.1] } todo ta la sa ga fa H0 ((H.set fa (.list ((s.forced ++ [p]).map pr))).set ta (il (s.ones ++ [p.1]))) := by
  have h1 := V.b1; have h2 := V.b2; have h3 := V.b3; have h4 := V.b4
  have nd := Z.nd
  simp only [List.nodup_cons, List.mem_cons, List.not_mem_nil, or_false, not_or, not_false_eq_true, List.nodup_nil, and_true] at nd
  obtain ⟨⟨d1, d2, d3, d4⟩, ⟨d5, d6, d7⟩, ⟨d8, d9⟩, d10⟩ := nd
  obtain ⟨LA, q1, q2, q3⟩ := V.lists
  refine ⟨set_self (set_keep V.ones (by first | assumption | exact Ne.symm (by assumption) | lia)), set_keep (set_keep V.stays (by first | assumption | exact Ne.symm (by assumption) | lia)) (by first | assumption | exact Ne.symm (by assumption) | lia), set_keep (set_keep V.goes (by first | assumption | exact Ne.symm (by assumption) | lia)) (by first | assumption | exact Ne.symm (by assumption) | lia), set_keep (set_self V.forced) (by first | assumption | exact Ne.symm (by assumption) | lia), ⟨LA, set_keep (set_keep q1 (by first | assumption | exact Ne.symm (by assumption) | lia)) (by first | assumption | exact Ne.symm (by assumption) | lia), q2, fun p hp => ⟨set_keep (set_keep (q3 p hp).1 (fun e => (q3 p hp).2.1 (by rw [← e]; simp))) (fun e => (q3 p hp).2.1 (by rw [← e]; simp)), (q3 p hp).2⟩⟩,
    fun a ha => set_keep (set_keep (V.old a ha) (by have := Z.hi fa (by simp); (first | decide | assumption | (exact Nat.le_trans (by assumption) (by decide)) | lia | omega))) (by have := Z.hi ta (by simp); (first | decide | assumption | (exact Nat.le_trans (by assumption) (by decide)) | lia | omega)), by dsimp only; (first | decide | assumption | (exact Nat.le_trans (by assumption) (by decide)) | lia | omega), by dsimp only; (first | decide | assumption | (exact Nat.le_trans (by assumption) (by decide)) | lia | omega), by simp; (first | decide | assumption | (exact Nat.le_trans (by assumption) (by decide)) | lia | omega), by simp; (first | decide | assumption | (exact Nat.le_trans (by assumption) (by decide)) | lia | omega), by rw [List.length_set, List.length_set]; exact V.len⟩
theorem RS.setL (V : RS s todo ta la sa ga fa H0 H) (Z : Five ta la sa ga fa H0) {j b : Nat} {c : List Int} {l : List MV} (hla : H[la]? = some (.list l)) (hb : H[b]? = some (il c)) (hb2 : b ∉ [ta, la, sa, ga, fa]) (hb3 : H0.length ≤ b) : RS { s with lists := s.lists.set j (some c) } todo ta la sa ga fa H0 (H.set la (.list (l.set j (.ref b)))) := by
  have nd := Z.nd
  simp only [List.nodup_cons, List.mem_cons, List.not_mem_nil, or_false, not_or, not_false_eq_true, List.nodup_nil, and_true] at nd
  obtain ⟨⟨d1, d2, d3, d4⟩, ⟨d5, d6, d7⟩, ⟨d8, d9⟩, d10⟩ := nd
  obtain ⟨LA, q1, q2, q3⟩ := V.lists
  rw [hla] at q1
  cases q1
  refine ⟨set_keep V.ones (by first | assumption | exact Ne.symm (by assumption) | lia), set_keep V.stays (by first | assumption | exact Ne.symm (by assumption) | lia), set_keep V.goes (by first | assumption | exact Ne.symm (by assumption) | lia), set_keep V.forced (by first | assumption | exact Ne.symm (by assumption) | lia), ⟨LA.set j (some (b, c)), ?_, ?_, fun p hp => ?_⟩, fun a ha => set_keep (V.old a ha) (by have := Z.hi la (by simp); (first | decide | assumption | (exact Nat.le_trans (by assumption) (by decide)) | lia | omega)), V.b1, V.b2, V.b3, V.b4, by rw [List.length_set]; exact V.len⟩
  · rw [set_self hla, List.map_set]; rfl
  · rw [List.map_set, q2]; rfl
  · rcases List.mem_or_eq_of_mem_set hp with h | h
    · exact ⟨set_keep (q3 p h).1 (fun e => (q3 p h).2.1 (by rw [← e]; simp)), (q3 p h).2⟩
    · cases h
      exact ⟨set_keep hb (fun e => hb2 (by have e' : la = b := e; rw [← e']; simp)), hb2, hb3⟩

theorem RS.note (V : RS s todo ta la sa ga fa H0 H) (d : Int) : RS { s with told := d } todo ta la sa ga fa H0 H := ⟨V.ones, V.stays, V.goes, V.forced, V.lists, V.old, V.b1, V.b2, V.b3, V.b4, V.len⟩

theorem intsOf_ints : ∀ {l : List Int}, intsOf (l.map .int) = some l
  | [] => rfl
  | i :: l => by simp only [List.map_cons, intsOf, intsOf_ints]; rfl
theorem isIn_ints {H : St} {a : Nat} {l : List Int} {i : Int} (h : H[a]? = some (il l)) : isIn (.int i) (.ref a) H = some (decide (i ∈ l)) := by
  simp only [isIn, h, intsOf_ints, Option.map_some]
  congr 1
  simp
theorem cmp_in {H : St} {a : Nat} {l : List Int} {i : Int} (h : H[a]? = some (il l)) : Mine.cmp .In (.int i) (.ref a) H = some (decide (i ∈ l)) := isIn_ints h
theorem cmp_notin {H : St} {a : Nat} {l : List Int} {i : Int} (h : H[a]? = some (il l)) : Mine.cmp .NotIn (.int i) (.ref a) H = some (decide (i ∉ l)) := by
  show (isIn _ _ _).map not = _
  rw [isIn_ints h]
  simp
end
end Mine
namespace Mine
section
variable {n : Nat} {gone : Int} {t : T} {s : LS} {todo : List Int} {x : Int} {ta la sa ga fa r : Nat} {H0 H : St}

noncomputable abbrev rlo (r : Nat) (gone : Int) (ta la : Nat) (td : Int) (sa ga fa : Nat) (u8 u9 u10 u11 : Option MV) : Lo := [some (.ref r), some (.int gone), some (.ref ta), some (.ref la), some (.int td), some (.ref sa), some (.ref ga), some (.ref fa), u8, u9, u10, u11]

theorem ev_list0 {lo : Lo} {H : St} : D.list [] lo H = some (.ref H.length, H ++ [.list []]) := rfl
theorem ev_list2 {f g : DE} {lo : Lo} {H H1 H2 : St} {u v : MV} (hf : f lo H = some (u, H1)) (hg : g lo H1 = some (v, H2)) : D.list [f, g] lo H = some (.ref H2.length, H2 ++ [.list [u, v]]) := by
  unfold D.list; simp only [D.args, hf, hg, bnd_some]; rfl
theorem ev_addL {H : St} {a b : Nat} {l k : List MV} (ha : H[a]? = some (.list l)) (hb : H[b]? = some (.list k)) (hs : l.length + k.length ≤ 1000000) : o.add (.ref a) (.ref b) H = some (.ref H.length, H ++ [.list (l ++ k)]) := by
  unfold o.add; dsimp only; rw [ha, hb]; exact if_pos (small_of hs)
theorem seq_skip {a : DS} {lo : Lo} {H : St} : D.seq a D.skip lo H = a lo H := by
  unfold D.seq D.skip
  rcases a lo H with _ | ⟨_ | _ | _ | _, lo', H'⟩ <;> rfl
noncomputable def onI (p : Int → Bool) : MV → Bool
  | .int i => p i
  | _ => false
noncomputable def mapI (f : Int → Int) : MV → MV
  | .int i => .int (f i)
  | v => v
theorem filter_onI {l : List Int} (p : Int → Bool) : (l.map MV.int).filter (onI p) = (l.filter p).map .int := by
  rw [List.filter_map]; rfl
theorem map_mapI {l : List Int} (f : Int → Int) : (l.map MV.int).map (mapI f) = (l.map f).map .int := by
  rw [List.map_map, List.map_map]; rfl
theorem get_end {H : St} {o : MO} : (H ++ [o])[H.length]? = some o := by simp

theorem read_told (V : RS s (x :: todo) ta la sa ga fa H0 H) (Z : Five ta la sa ga fa H0) (htold : s.told ≠ -1) (u9 u10 u11 : Option MV) :
    Turn (b1_law_read (rlo r gone ta la s.told sa ga fa (some (.int x)) u9 u10 u11) H)
      (fun lo' H' => ∃ u8 u9 u10 u11, lo' = rlo r gone ta la (lstep gone s x).told sa ga fa u8 u9 u10 u11 ∧ RS (lstep gone s x) todo ta la sa ga fa H0 H') (fun _ _ => False) (fun _ _ _ => False) := by
  have hstep : lstep gone s x = { s with stays := s.stays ++ [x] } := by unfold lstep; rw [if_pos htold]
  have hb := V.b1
  rw [List.length_cons] at hb
  have s1 := ev_append (f := D.loc 5) (g := D.loc 8) (lo := rlo r gone ta la s.told sa ga fa (some (.int x)) u9 u10 u11) (H := H) rfl rfl ⟨_, V.stays⟩ V.stays (by rw [List.length_map]; (first | decide | assumption | (exact Nat.le_trans (by assumption) (by decide)) | lia | omega))
  rw [ints_append] at s1
  have hc : D.cmpT .NotEq (D.loc 4) (D.neg (D.const (.int 1))) (rlo r gone ta la s.told sa ga fa (some (.int x)) u9 u10 u11) H = some (true, H) := ev_cmpT (y := .int (-1)) rfl rfl (by show some (s.told != -1) = some true; rw [bne_iff_ne.mpr htold])
  unfold b1_law_read
  rw [seq_next ((ev_ifT hc).trans ((seq_next s1).trans rfl)), hstep]
  exact ⟨_, _, _, _, rfl, V.setS Z⟩

theorem read_turn (V : RS s (x :: todo) ta la sa ga fa H0 H) (Z : Five ta la sa ga fa H0) (F : Fit n gone t s (x :: todo)) (htold : s.told = -1) (hn1 : n ≤ 50) (hCl : t.C.length < 1000) (u9 u10 u11 : Option MV) :
    Turn (b1_law_read (rlo r gone ta la s.told sa ga fa (some (.int x)) u9 u10 u11) H)
      (fun lo' H' => ∃ u8 u9 u10 u11, lo' = rlo r gone ta la (lstep gone s x).told sa ga fa u8 u9 u10 u11 ∧ RS (lstep gone s x) todo ta la sa ga fa H0 H') (fun _ _ => False) (fun _ _ _ => False) := by
  obtain ⟨LA, q1, q2, q3⟩ := V.lists
  obtain ⟨w1, w2, -⟩ := F.wat x (.head _)
  have hLAl : LA.length = s.lists.length := by rw [← q2, List.length_map]
  have hx : x.toNat < LA.length := by rw [hLAl, F.len]; exact w2
  have fresh : ∀ {H' : St}, H.length ≤ H'.length → H'.length ∉ [ta, la, sa, ga, fa] := fun {H'} hle hm => by
    have l1 := (List.getElem?_eq_some_iff.mp V.ones).1
    have l2 := (List.getElem?_eq_some_iff.mp q1).1
    have l3 := (List.getElem?_eq_some_iff.mp V.stays).1
    have l4 := (List.getElem?_eq_some_iff.mp V.goes).1
    have l5 := (List.getElem?_eq_some_iff.mp V.forced).1
    simp at hm
    (first | decide | assumption | (exact Nat.le_trans (by assumption) (by decide)) | lia | omega)
  have hlen0 := V.len
  have hc : ∀ v8, D.cmpT .NotEq (D.loc 4) (D.neg (D.const (.int 1))) (rlo r gone ta la s.told sa ga fa v8 u9 u10 u11) H = some (false, H) := fun v8 => ev_cmpT (y := .int (-1)) rfl rfl (by show some (s.told != -1) = some false; rw [htold]; rfl)
  unfold b1_law_read
  have hlx : ∀ (lo : Lo) H' , (∀ H, D.loc 3 lo H = some (.ref la, H)) → (∀ H, D.loc 8 lo H = some (.int x, H)) → H'[la]? = some (.list (LA.map refOf)) → ∀ o, LA[x.toNat]? = some o → D.sub (D.loc 3) (D.loc 8) lo H' = some (refOf o, H') := fun lo H' k3 k8 h o ho => by
    have hlim : LA.length < 2 ^ 62 := by rw [hLAl, F.len]; (first | decide | assumption | (exact Nat.le_trans (by assumption) (by decide)) | lia | omega)
    exact ev_sub (k3 H') (k8 H') (getI_list h w1 (by rw [List.getElem?_map, ho]; rfl) (by rw [List.length_map]; exact hlim))
  rcases F.item with ⟨i1, i2⟩ | ⟨a, b, rest, a1, c0, i1, i2, hab⟩
  · have hstep : lstep gone s x = s := by unfold lstep; rw [if_neg (by simp [htold]), i1]
    have ho : LA[x.toNat]? = some none := by
      have : (LA.map (·.map (·.2)))[x.toNat]? = some none := by rw [q2]; exact i1
      rw [List.getElem?_map] at this
      obtain ⟨o, h1, h2⟩ := Option.map_eq_some_iff.mp this
      cases o with
      | none => exact h1
      | some p => cases h2
    have e1 := hlx (rlo r gone ta la s.told sa ga fa (some (.int x)) u9 u10 u11) H (fun _ => rfl) (fun _ => rfl) q1 none ho
    have hc2 : D.cmpT .IsNot (D.sub (D.loc 3) (D.loc 8)) (D.const .none) (rlo r gone ta la s.told sa ga fa (some (.int x)) u9 u10 u11) H = some (false, H) := ev_cmpT e1 rfl rfl
    rw [seq_next (lo' := rlo r gone ta la s.told sa ga fa (some (.int x)) u9 u10 u11) (H' := H) (by rw [ev_ifF (hc _), seq_next (lo' := rlo r gone ta la s.told sa ga fa (some (.int x)) u9 u10 u11) (H' := H) (by rw [ev_ifF hc2]; rfl)]; rfl), hstep]
    exact ⟨_, _, _, _, rfl, V.less⟩
  · obtain ⟨b0, ho⟩ : ∃ b0, LA[x.toNat]? = some (some (b0, a :: b :: rest)) := by
      have : (LA.map (·.map (·.2)))[x.toNat]? = some (some (a :: b :: rest)) := by rw [q2]; exact i1
      rw [List.getElem?_map] at this
      obtain ⟨o, h1, h2⟩ := Option.map_eq_some_iff.mp this
      cases o with
      | none => cases h2
      | some p => obtain ⟨b0, c⟩ := p; cases h2; exact ⟨b0, h1⟩
    obtain ⟨hp, hp2, hp3⟩ := q3 _ (List.mem_of_getElem? ho)
    obtain ⟨g1, g2, g3, g4⟩ := F.good _ _ i1
    have hrl : rest.length ≤ 8 := by simp at g2; (first | decide | assumption | (exact Nat.le_trans (by assumption) (by decide)) | lia | omega)
    have hob : s.ones.length ≤ 1000 := by have := V.b4; (first | decide | assumption | (exact Nat.le_trans (by assumption) (by decide)) | lia | omega)
    rw [lstep_clause htold i1]
    have hoth0 : (if b = gone then a else b) = (if (b == gone) = true then a else b) := by by_cases h : b = gone <;> simp [h]
    generalize hoth : (if b = gone then a else b) = oth
    -- other
    have it : ∀ (k : Nat) (y : Int), (a :: b :: rest)[k]? = some y → ∀ v9 v10 v11, D.sub (D.sub (D.loc 3) (D.loc 8)) (D.const (.int (k : Int))) (rlo r gone ta la s.told sa ga fa (some (.int x)) v9 v10 v11) H = some (.int y, H) := fun k y hy v9 v10 v11 =>
      ev_item (hlx _ H (fun _ => rfl) (fun _ => rfl) q1 _ ho) rfl hp (by (first | decide | assumption | (exact Nat.le_trans (by assumption) (by decide)) | lia | omega)) (by simpa using hy) (by simp; (first | decide | assumption | (exact Nat.le_trans (by assumption) (by decide)) | lia | omega))
    have it1 : D.sub (D.sub (D.loc 3) (D.loc 8)) (D.const (.int 1)) (rlo r gone ta la s.told sa ga fa (some (.int x)) u9 u10 u11) H = some (.int b, H) := it 1 b rfl u9 u10 u11
    have it0 : D.sub (D.sub (D.loc 3) (D.loc 8)) (D.const (.int 0)) (rlo r gone ta la s.told sa ga fa (some (.int x)) u9 u10 u11) H = some (.int a, H) := it 0 a rfl u9 u10 u11
    have e0 : D.ite (D.cmpT .Eq (D.sub (D.sub (D.loc 3) (D.loc 8)) (D.const (.int 1))) (D.loc 1)) (D.sub (D.sub (D.loc 3) (D.loc 8)) (D.const (.int 0))) (D.sub (D.sub (D.loc 3) (D.loc 8)) (D.const (.int 1))) (rlo r gone ta la s.told sa ga fa (some (.int x)) u9 u10 u11) H = some (.int oth, H) := by
      rw [ev_ite (ev_cmpT (g := D.loc 1) it1 rfl (rfl : Mine.cmp .Eq (.int b) (.int gone) H = some (b == gone)))]
      rw [← hoth, hoth0]
      by_cases h : (b == gone) = true
      · rw [if_pos h, if_pos h]; exact it0
      · rw [if_neg h, if_neg h]; exact it1
    -- rest
    have e1 := ev_slice1 (f := D.sub (D.loc 3) (D.loc 8)) (g := D.const (.int 2)) (lo := rlo r gone ta la s.told sa ga fa (some (.int x)) (some (.int oth)) u10 u11) (i := 2) (hlx _ H (fun _ => rfl) (fun _ => rfl) q1 _ ho) rfl hp (by simp) (by simp; (first | decide | assumption | (exact Nat.le_trans (by assumption) (by decide)) | lia | omega))
    have e1' : D.slice (D.sub (D.loc 3) (D.loc 8)) (some (D.const (.int 2))) none none (rlo r gone ta la s.told sa ga fa (some (.int x)) (some (.int oth)) u10 u11) H = some (.ref H.length, H ++ [il rest]) := e1
    have V1 := V.app [il rest]
    have hr1 : (H ++ [il rest])[H.length]? = some (il rest) := get_end
    have hlen1 : H.length ≤ (H ++ [il rest]).length := by simp
    generalize hH1 : H ++ [il rest] = H1 at V1 hr1 hlen1 e1'
    -- open ones
    have e2 : ∃ opens, D.ite (D.cmpT .In (D.loc 9) (D.loc 2)) (D.list []) (D.comp 12 1 (D.loc 10) (D.tname 12) (D.cmpT .NotIn (D.neg (D.loc 12)) (D.loc 2)) (D.loc 12)) (rlo r gone ta la s.told sa ga fa (some (.int x)) (some (.int oth)) (some (.ref H.length)) u11) H1 = some (.ref H1.length, H1 ++ [il opens]) ∧
        opens = if oth ∈ s.ones then [] else rest.filter fun l => decide (-l ∉ s.ones) := by
      refine ⟨_, ?_, rfl⟩
      rw [ev_ite (ev_cmpT (f := D.loc 9) (g := D.loc 2) (x := .int oth) (y := .ref ta) rfl rfl (cmp_in V1.ones))]
      by_cases h : oth ∈ s.ones
      · simp only [h, decide_true, if_true]; rfl
      · simp only [h, decide_false, Bool.false_eq_true, if_false]
        have := ev_comp (f := D.loc 10) (t := D.cmpT .NotIn (D.neg (D.loc 12)) (D.loc 2)) (e := D.loc 12) (lo := rlo r gone ta la s.told sa ga fa (some (.int x)) (some (.int oth)) (some (.ref H.length)) u11) (H := H1) (q := 12) (onI fun i => decide (-i ∉ s.ones)) (fun v => v) rfl hr1 rfl (by simp; (first | decide | assumption | (exact Nat.le_trans (by assumption) (by decide)) | lia | omega))
          (fun v hv => by
            obtain ⟨l, hl, rfl⟩ := List.mem_map.mp hv
            exact ev_cmpT (f := D.neg (D.loc 12)) (g := D.loc 2) (x := .int (-l)) (y := .ref ta) (ev_neg rfl) rfl (cmp_notin V1.ones)) (fun v hv _ => rfl)
        rw [this, List.map_id', filter_onI]
    obtain ⟨opens, e2, hopens⟩ := e2
    have V2 := V1.app [il opens]
    have hr2 : (H1 ++ [il opens])[H.length]? = some (il rest) := get_app hr1
    have ho2 : (H1 ++ [il opens])[H1.length]? = some (il opens) := get_end
    have hlen2 : H.length ≤ (H1 ++ [il opens]).length := by simp; (first | decide | assumption | (exact Nat.le_trans (by assumption) (by decide)) | lia | omega)
    generalize hH2 : H1 ++ [il opens] = H2 at V2 hr2 ho2 hlen2 e2
    have V3 := V2.app [MO.list []]
    have hr3 : (H2 ++ [MO.list []])[H.length]? = some (il rest) := get_app hr2
    have ho3 : (H2 ++ [MO.list []])[H1.length]? = some (il opens) := get_app ho2
    have hn3 : (H2 ++ [MO.list []])[H2.length]? = some (.list []) := get_end
    have hlen3 : H.length ≤ (H2 ++ [MO.list []]).length := by simp; (first | decide | assumption | (exact Nat.le_trans (by assumption) (by decide)) | lia | omega)
    let L : Lo := rlo r gone ta la s.told sa ga fa (some (.int x)) (some (.int oth)) (some (.ref H.length)) (some (.ref H1.length))
    have e3 : D.cmpT .NotEq (D.loc 11) (D.list []) L H2 = some (!decide (opens = []), H2 ++ [MO.list []]) :=
      ev_cmpT (f := D.loc 11) (g := D.list []) (x := .ref H1.length) (y := .ref H2.length) rfl ev_list0 (by show (eqD _ _ _).map not = _; rw [eqD_empty ho3 hn3]; rfl)
    generalize hH3 : H2 ++ [MO.list []] = H3 at V3 hr3 ho3 hn3 hlen3 e3
    have hcl : D.cmpT .IsNot (D.sub (D.loc 3) (D.loc 8)) (D.const .none) (rlo r gone ta la s.told sa ga fa (some (.int x)) u9 u10 u11) H = some (true, H) := ev_cmpT (hlx _ H (fun _ => rfl) (fun _ => rfl) q1 _ ho) rfl rfl
    have hcls3 : H3[la]? = some (.list (LA.map refOf)) := by
      rw [← hH3, ← hH2, ← hH1]; exact get_app (get_app (get_app q1))
    generalize hQ : (fun (lo' : Lo) (H' : St) => ∃ u8 u9 u10 u11, lo' = rlo r gone ta la (lturn gone s x oth rest).told sa ga fa u8 u9 u10 u11 ∧ RS (lturn gone s x oth rest) todo ta la sa ga fa H0 H') = Q
    rw [seq_skip, ev_ifF (hc _), seq_skip, ev_ifT hcl]
    rw [seq_next (ev_setname (i := 9) e0 (by simp))]
    show Turn (D.seq _ _ (rlo r gone ta la s.told sa ga fa (some (.int x)) (some (.int oth)) u10 u11) H) _ _ _
    rw [seq_next (ev_setname (i := 10) e1' (by simp))]
    show Turn (D.seq _ _ (rlo r gone ta la s.told sa ga fa (some (.int x)) (some (.int oth)) (some (.ref H.length)) u11) H1) _ _ _
    rw [seq_next (ev_setname (i := 11) e2 (by simp))]
    show Turn (D.seq _ _ L H2) _ _ _
    have hi : x.toNat < (LA.map refOf).length := by rw [List.length_map]; exact hx
    have hmm : (LA.map refOf).length < 2 ^ 62 := by rw [List.length_map, hLAl, F.len]; (first | decide | assumption | (exact Nat.le_trans (by assumption) (by decide)) | lia | omega)
    cases hop : opens with
    | nil =>
      rw [hop] at e3
      rw [seq_next (lo' := L) (H' := H3) (by rw [ev_ifF e3]; rfl)]
      have hnone : (if oth ∈ s.ones then none else fstOpen (fun l => decide (-l ∉ s.ones)) gone rest) = none := by
        by_cases h : oth ∈ s.ones
        · rw [if_pos h]
        · rw [if_neg h]
          rw [if_neg h, hop] at hopens
          have := opens_head (p := fun l => decide (-l ∉ s.ones)) (g := gone) (rest := rest) (by simp at g3; exact g3.2.2)
          rw [← hopens] at this
          exact this
      have e4 : D.bin o.add (D.list [(D.loc 9), (D.loc 1)]) (D.loc 10) L H3 = some (.ref (H3 ++ [MO.list [.int oth, .int gone]]).length, (H3 ++ [MO.list [.int oth, .int gone]]) ++ [il (oth :: gone :: rest)]) :=
        (ev_bin (ev_list2 (f := D.loc 9) (g := D.loc 1) (u := .int oth) (v := .int gone) rfl rfl) (rfl : D.loc 10 L _ = some (.ref H.length, _))).trans (ev_addL get_end (get_app hr3) (by simp; (first | decide | assumption | (exact Nat.le_trans (by assumption) (by decide)) | lia | omega)))
      have V5 := (V3.app [MO.list [.int oth, .int gone]]).app [il (oth :: gone :: rest)]
      have hla5 : ((H3 ++ [MO.list [.int oth, .int gone]]) ++ [il (oth :: gone :: rest)])[la]? = some (.list (LA.map refOf)) := get_app (get_app hcls3)
      have hb5 : ((H3 ++ [MO.list [.int oth, .int gone]]) ++ [il (oth :: gone :: rest)])[(H3 ++ [MO.list [.int oth, .int gone]]).length]? = some (il (oth :: gone :: rest)) := get_end
      have hl4 : H.length ≤ (H3 ++ [MO.list [.int oth, .int gone]]).length := by simp; (first | decide | assumption | (exact Nat.le_trans (by assumption) (by decide)) | lia | omega)
      have V6 := V5.setL Z (j := x.toNat) hla5 hb5 (fresh hl4) (by (first | decide | assumption | (exact Nat.le_trans (by assumption) (by decide)) | lia | omega))
      have s5 := ev_setsub (fa := D.loc 3) (fi := D.loc 8) e4 rfl rfl hla5 w1 hi hmm
      rw [seq_next s5]
      generalize ((H3 ++ [MO.list [.int oth, .int gone]]) ++ [il (oth :: gone :: rest)]).set la (.list ((LA.map refOf).set x.toNat (.ref (H3 ++ [MO.list [.int oth, .int gone]]).length))) = H6 at V6 ⊢
      have hb1 := V.b1
      have hb3 := V.b3
      have hb4 := V.b4
      rw [List.length_cons] at hb1 hb3 hb4
      have s6 := ev_append (f := D.loc 5) (g := D.loc 8) (lo := L) (H := H6) rfl rfl ⟨_, V6.stays⟩ V6.stays (by rw [List.length_map]; show s.stays.length ≤ _; (first | decide | assumption | (exact Nat.le_trans (by assumption) (by decide)) | lia | omega))
      rw [ints_append] at s6
      rw [seq_next s6]
      have V7 := V6.setS Z
      change RS { told := s.told, lists := s.lists.set x.toNat (some (oth :: gone :: rest)), stays := s.stays ++ [x], goes := s.goes, forced := s.forced, ones := s.ones } todo ta la sa ga fa H0 (H6.set sa (il (s.stays ++ [x]))) at V7
      change Turn (D.seq _ _ _ (H6.set sa (il (s.stays ++ [x])))) _ _ _
      generalize H6.set sa (il (s.stays ++ [x])) = H7 at V7 ⊢
      have hlt : lturn gone s x oth rest = if -oth ∈ s.ones then { s with lists := s.lists.set x.toNat (some (oth :: gone :: rest)), stays := s.stays ++ [x], told := x }
          else if oth ∈ s.ones then { s with lists := s.lists.set x.toNat (some (oth :: gone :: rest)), stays := s.stays ++ [x] }
          else { s with lists := s.lists.set x.toNat (some (oth :: gone :: rest)), stays := s.stays ++ [x], forced := s.forced ++ [(oth, x)], ones := s.ones ++ [oth] } := by
        unfold lturn; rw [hnone]
      rw [hlt] at hQ
      have hc7 := ev_cmpT (op := .In) (f := D.neg (D.loc 9)) (g := D.loc 2) (lo := L) (x := .int (-oth)) (y := .ref ta) (ev_neg rfl) rfl (cmp_in V7.ones)
      have hc8 := ev_cmpT (op := .NotIn) (f := D.loc 9) (g := D.loc 2) (lo := L) (x := .int oth) (y := .ref ta) rfl rfl (cmp_notin V7.ones)
      rw [seq_skip]
      by_cases h1 : -oth ∈ s.ones
      · rw [ev_if hc7]
        simp only [h1, decide_true, if_true]
        rw [if_pos h1] at hQ
        rw [seq_skip, ev_setname (f := D.loc 8) (v := .int x) (i := 4) rfl (Nat.le_of_ble_eq_true rfl), ← hQ]
        exact ⟨_, _, _, _, rfl, V7.note x⟩
      · rw [ev_if hc7]
        simp only [h1, decide_false, Bool.false_eq_true, if_false]
        rw [if_neg h1] at hQ
        rw [seq_skip, ev_if hc8]
        by_cases h2 : oth ∈ s.ones
        · simp only [h2, not_true_eq_false, decide_false, Bool.false_eq_true, if_false]
          rw [if_pos h2] at hQ
          rw [← hQ]
          exact ⟨_, _, _, _, rfl, V7⟩
        · simp only [h2, not_false_eq_true, decide_true, if_true]
          rw [if_neg h2] at hQ
          have nd := Z.nd
          simp at nd
          have s8 := ev_append (f := D.loc 7) (g := D.tup [(D.loc 9), (D.loc 8)]) (lo := L) (H := H7) rfl (ev_tup2 (u := .int oth) (v := .int x) rfl rfl) ⟨_, V7.forced⟩ V7.forced (by rw [List.length_map]; show s.forced.length ≤ _; (first | decide | assumption | (exact Nat.le_trans (by assumption) (by decide)) | lia | omega))
          have h8 : s.forced.map pr ++ [MV.tup [.int oth, .int x]] = (s.forced ++ [(oth, x)]).map pr := by rw [List.map_append]; rfl
          have V8 := V7.setF Z (oth, x) (by show s.forced.length + 1 + _ ≤ _; (first | decide | assumption | (exact Nat.le_trans (by assumption) (by decide)) | lia | omega)) (by show s.ones.length + 1 + _ ≤ _; (first | decide | assumption | (exact Nat.le_trans (by assumption) (by decide)) | lia | omega))
          have ho8 : (H7.set fa (.list ((s.forced ++ [(oth, x)]).map pr)))[ta]? = some (il s.ones) := set_keep V7.ones (by (first | decide | assumption | (exact Nat.le_trans (by assumption) (by decide)) | lia | omega))
          have s9 := ev_append (f := D.loc 2) (g := D.loc 9) (lo := L) (H := H7.set fa (.list ((s.forced ++ [(oth, x)]).map pr))) rfl rfl ⟨_, ho8⟩ ho8 (by rw [List.length_map]; (first | decide | assumption | (exact Nat.le_trans (by assumption) (by decide)) | lia | omega))
          rw [ints_append] at s9
          change D.expr _ _ H7 = some (.next, _, H7.set fa (.list (s.forced.map pr ++ [MV.tup [.int oth, .int x]]))) at s8
          rw [h8] at s8
          rw [seq_next s8, seq_next s9, ← hQ]
          exact ⟨_, _, _, _, rfl, V8⟩
    | cons o os =>
      rw [hop] at e3 ho3
      have hno : oth ∉ s.ones := fun h => by rw [if_pos h, hop] at hopens; cases hopens
      have hfo : fstOpen (fun l => decide (-l ∉ s.ones)) gone rest = some (o, rest.map fun l => if l = o then gone else l) := by
        rw [if_neg hno, hop] at hopens
        have := opens_head (p := fun l => decide (-l ∉ s.ones)) (g := gone) (rest := rest) (by simp at g3; exact g3.2.2)
        rw [← hopens] at this
        exact this
      have hos : (o :: os).length ≤ 8 := by
        rw [if_neg hno, hop] at hopens
        rw [hopens]
        exact Nat.le_trans (List.length_filter_le _ _) hrl
      have hga1 : ga ≠ H.length := fun e => fresh (Nat.le_refl _) (by rw [← e]; simp)
      have hga2 : ga ≠ H1.length := fun e => fresh hlen1 (by rw [← e]; simp)
      have hlt : lturn gone s x oth rest = { s with goes := s.goes ++ [(o, x)], lists := s.lists.set x.toNat (some (oth :: o :: rest.map fun l => if l = o then gone else l)) } := by
        unfold lturn; rw [if_neg hno, hfo]
      rw [hlt] at hQ
      have hb2 := V.b2
      rw [List.length_cons] at hb2
      have e4 : ∀ H', H'[H1.length]? = some (il (o :: os)) → ∀ lo : Lo, lo[11]? = some (some (.ref H1.length)) → D.sub (D.loc 11) (D.const (.int 0)) lo H' = some (.int o, H') := fun H' h lo hl => ev_item (ev_loc hl) rfl h (by (first | decide | assumption | (exact Nat.le_trans (by assumption) (by decide)) | lia | omega)) rfl (by (first | decide | assumption | (exact Nat.le_trans (by assumption) (by decide)) | lia | omega))
      have s5 := ev_append (f := D.loc 6) (g := D.tup [(D.sub (D.loc 11) (D.const (.int 0))), (D.loc 8)]) (lo := L) (H := H3) rfl (ev_tup2 (u := .int o) (v := .int x) (e4 H3 ho3 _ rfl) rfl) ⟨_, V3.goes⟩ V3.goes (by rw [List.length_map]; (first | decide | assumption | (exact Nat.le_trans (by assumption) (by decide)) | lia | omega))
      have h5 : s.goes.map pr ++ [MV.tup [.int o, .int x]] = (s.goes ++ [(o, x)]).map pr := by rw [List.map_append]; rfl
      rw [h5] at s5
      have V4 := V3.setG Z (o, x)
      have hr4 : (H3.set ga (.list ((s.goes ++ [(o, x)]).map pr)))[H.length]? = some (il rest) := set_keep hr3 hga1
      have ho4 : (H3.set ga (.list ((s.goes ++ [(o, x)]).map pr)))[H1.length]? = some (il (o :: os)) := set_keep ho3 hga2
      have hla4 : (H3.set ga (.list ((s.goes ++ [(o, x)]).map pr)))[la]? = some (.list (LA.map refOf)) := by
        have nd := Z.nd
        simp at nd
        exact set_keep hcls3 (by (first | decide | assumption | (exact Nat.le_trans (by assumption) (by decide)) | lia | omega))
      have hlen4 : H.length ≤ (H3.set ga (.list ((s.goes ++ [(o, x)]).map pr))).length := by rw [List.length_set]; exact hlen3
      generalize H3.set ga (.list ((s.goes ++ [(o, x)]).map pr)) = H4 at V4 hr4 ho4 hla4 hlen4 s5
      have hr5 : (H4 ++ [MO.list [.int oth, .int o]])[H.length]? = some (il rest) := get_app hr4
      have ho5 : (H4 ++ [MO.list [.int oth, .int o]])[H1.length]? = some (il (o :: os)) := get_app ho4
      have hc5 := ev_comp (f := D.loc 10) (t := D.yes) (e := D.ite (D.cmpT .Eq (D.loc 12) (D.sub (D.loc 11) (D.const (.int 0)))) (D.loc 1) (D.loc 12)) (lo := L) (H := H4 ++ [MO.list [.int oth, .int o]]) (q := 12) (fun _ => true) (mapI fun l => if l = o then gone else l) rfl hr5 rfl (by simp; (first | decide | assumption | (exact Nat.le_trans (by assumption) (by decide)) | lia | omega)) (fun _ _ => rfl)
        (fun v hv _ => by
          obtain ⟨l, hl, rfl⟩ := List.mem_map.mp hv
          rw [ev_ite (ev_cmpT (f := D.loc 12) (g := D.sub (D.loc 11) (D.const (.int 0))) (x := .int l) (y := .int o) rfl (e4 _ ho5 _ rfl) (rfl : Mine.cmp .Eq (.int l) (.int o) _ = some (l == o)))]
          by_cases h : l = o
          · simp only [h, beq_self_eq_true, if_true, mapI]; rfl
          · have hb : (l == o) = false := by simpa using h
            simp only [hb, h, Bool.false_eq_true, if_false, mapI]; rfl)
      rw [List.filter_eq_self.mpr (fun _ _ => rfl), map_mapI] at hc5
      have hn6 : ((H4 ++ [MO.list [.int oth, .int o]]) ++ [il (rest.map fun l => if l = o then gone else l)])[H4.length]? = some (MO.list [.int oth, .int o]) := get_app get_end
      have e6 : D.bin Mine.o.add (D.list [(D.loc 9), (D.sub (D.loc 11) (D.const (.int 0)))]) (D.comp 12 1 (D.loc 10) (D.tname 12) D.yes (D.ite (D.cmpT .Eq (D.loc 12) (D.sub (D.loc 11) (D.const (.int 0)))) (D.loc 1) (D.loc 12))) L H4 =
          some (.ref ((H4 ++ [MO.list [.int oth, .int o]]) ++ [il (rest.map fun l => if l = o then gone else l)]).length, ((H4 ++ [MO.list [.int oth, .int o]]) ++ [il (rest.map fun l => if l = o then gone else l)]) ++ [il (oth :: o :: rest.map fun l => if l = o then gone else l)]) :=
        (ev_bin (ev_list2 (f := D.loc 9) (u := .int oth) (v := .int o) rfl (e4 H4 ho4 _ rfl)) hc5).trans (ev_addL hn6 get_end (by simp; (first | decide | assumption | (exact Nat.le_trans (by assumption) (by decide)) | lia | omega)))
      have V7 := ((V4.app [MO.list [.int oth, .int o]]).app [il (rest.map fun l => if l = o then gone else l)]).app [il (oth :: o :: rest.map fun l => if l = o then gone else l)]
      generalize hH6 : (H4 ++ [MO.list [.int oth, .int o]]) ++ [il (rest.map fun l => if l = o then gone else l)] = H6 at e6 V7
      have hl6 : H.length ≤ H6.length := by rw [← hH6]; simp; (first | decide | assumption | (exact Nat.le_trans (by assumption) (by decide)) | lia | omega)
      have hla7 : (H6 ++ [il (oth :: o :: rest.map fun l => if l = o then gone else l)])[la]? = some (.list (LA.map refOf)) := by rw [← hH6]; exact get_app (get_app (get_app hla4))
      have V8 := V7.setL Z (j := x.toNat) hla7 get_end (fresh hl6) (by (first | decide | assumption | (exact Nat.le_trans (by assumption) (by decide)) | lia | omega))
      have s7 := ev_setsub (fa := D.loc 3) (fi := D.loc 8) e6 rfl rfl hla7 w1 hi hmm
      rw [seq_cont (lo' := L) (H' := (H6 ++ [il (oth :: o :: rest.map fun l => if l = o then gone else l)]).set la (.list ((LA.map refOf).set x.toNat (.ref H6.length)))) (by rw [ev_ifT e3, seq_next s5, seq_next s7]; rfl), ← hQ]
      exact ⟨_, _, _, _, rfl, V8⟩
end
end Mine
namespace Mine
section
variable {n : Nat} {gone : Int} {t : T} {wa : Nat} {nums : List Int} {H : St}

theorem lstep_tell {s : LS} {x : Int} (h : s.told ≠ -1) : lstep gone s x = { s with stays := s.stays ++ [x] } := by unfold lstep; rw [if_pos h]
theorem ev_list1 {f : DE} {lo : Lo} {H H1 : St} {a : Nat} {l : List MV} (hf : f lo H = some (.ref a, H1)) (ha : H1[a]? = some (.list l)) (hs : l.length ≤ 1000000) : D.bcall b.list [f] lo H = some (.ref H1.length, H1 ++ [.list l]) := by
  unfold D.bcall; rw [ev_args1 hf]; dsimp only [bnd]; unfold b.list; dsimp only; rw [ha]; exact if_pos (small_of hs)

theorem read_ok (R : Rep t H) (F : Fit n gone t t.init nums) (Ln : Len t) (hn : t.as.length = n + 1) (hn1 : n ≤ 50) (hW : t.W.length ≤ 1000) (hg1 : 1 ≤ gone.natAbs) (hg2 : gone.natAbs ≤ n) (hw : t.W[(plc gone).toNat]? = some (wa, nums)) (hnums : nums.length ≤ 500) (hCl : t.C.length < 1000) :
    ∃ (ta la sa ga fa : Nat) (H' : St), F_law_read [.ref t.r, .int gone] H = some (.tup [.int (nums.foldl (lstep gone) t.init).told, .ref la, .ref sa, .ref ga, .ref fa], H') ∧ RS (nums.foldl (lstep gone) t.init) [] ta la sa ga fa H H' ∧ Five ta la sa ga fa H := by
  have htr : t.tr.length ≤ 100 := Ln.tr
  -- true ones
  have e1 := ev_list1 (f := D.attr 1 8 (D.loc 0)) (lo := [some (.ref t.r), some (.int gone), none, none, none, none, none, none, none, none, none, none]) (R.attr rfl (ev_loc rfl) rfl) (R.at' .tr _ rfl) (by rw [List.length_map]; (first | decide | assumption | (exact Nat.le_trans (by assumption) (by decide)) | lia | omega))
  have R1 : Rep t (H ++ [il t.tr]) := R.app
  -- the copies
  obtain ⟨LA, H2, e2, c1, c2, c3, c4⟩ := ev_copies (f := D.attr 1 12 (D.loc 0)) (q := 12) (C := t.C) (lo := [some (.ref t.r), some (.int gone), some (.ref H.length), none, none, none, none, none, none, none, none, none]) (H := H ++ [il t.tr]) (R1.attr rfl (ev_loc rfl) rfl) (R1.at' .cl _ rfl) rfl (by (first | decide | assumption | (exact Nat.le_trans (by assumption) (by decide)) | lia | omega)) (fun p hp => by
    obtain ⟨j, hj, e⟩ := List.mem_iff_getElem.mp hp
    have hC : t.C[j]? = some (some p) := by rw [List.getElem?_eq_getElem hj, e]
    have hl : t.init.lists[j]? = some (some p.2) := by show (t.C.map _)[j]? = _; rw [List.getElem?_map, hC]; rfl
    exact ⟨(R1.at' _ _ (T.at_c hC)).trans (congrArg some (T.is_c hC)), by have := (F.good _ _ hl).2.1; (first | decide | assumption | (exact Nat.le_trans (by assumption) (by decide)) | lia | omega)⟩)
  have hla : (H2 ++ [MO.list (LA.map refOf)])[H2.length]? = some (.list (LA.map refOf)) := get_end
  have h12 : H.length + 1 ≤ H2.length := by simpa using c2
  have keep2 : ∀ i, i < H.length + 1 → (H2 ++ [MO.list (LA.map refOf)])[i]? = (H ++ [il t.tr])[i]? := fun i hi => by
    rw [List.getElem?_append_left (by (first | decide | assumption | (exact Nat.le_trans (by assumption) (by decide)) | lia | omega))]; exact c3 i (by simpa using hi)
  have hlists : ∀ p, some p ∈ LA → (H2 ++ [MO.list (LA.map refOf)])[p.1]? = some (il p.2) ∧ H.length + 1 ≤ p.1 ∧ p.1 < H2.length := fun p hp => by
    obtain ⟨d1, d2⟩ := c4 p hp
    exact ⟨get_app d2, by simpa using d1, (List.getElem?_eq_some_iff.mp d2).1⟩
  generalize hH3 : H2 ++ [MO.list (LA.map refOf)] = H3 at e2 hla keep2 hlists
  have h3 : H3.length = H2.length + 1 := by rw [← hH3]; simp
  -- the rest
  have e3 : D.assign (D.tup [(D.neg (D.const (.int 1))), (D.list []), (D.list []), (D.list [])]) (D.ttup [(D.tname 4), (D.tname 5), (D.tname 6), (D.tname 7)]) [some (.ref t.r), some (.int gone), some (.ref H.length), some (.ref H2.length), none, none, none, none, none, none, none, none] H3 =
      some (.next, rlo t.r gone H.length H2.length (-1) H3.length (H3 ++ [MO.list []]).length ((H3 ++ [MO.list []]) ++ [MO.list []]).length none none none none, ((H3 ++ [MO.list []]) ++ [MO.list []]) ++ [MO.list []]) := rfl
  have n31 : (H3 ++ [MO.list []]).length = H3.length + 1 := List.length_append
  have n32 : ((H3 ++ [MO.list []]) ++ [MO.list []]).length = H3.length + 2 := by rw [List.length_append, n31]; rfl
  rw [n31, n32] at e3
  have Z : Five H.length H2.length H3.length (H3.length + 1) (H3.length + 2) H := ⟨by simp; (first | decide | assumption | (exact Nat.le_trans (by assumption) (by decide)) | lia | omega), fun a ha => by simp at ha; (first | decide | assumption | (exact Nat.le_trans (by assumption) (by decide)) | lia | omega)⟩
  have V0 : RS t.init nums H.length H2.length H3.length (H3.length + 1) (H3.length + 2) H (((H3 ++ [MO.list []]) ++ [MO.list []]) ++ [MO.list []]) := by
    have g3 : ∀ {a : Nat} {o : MO}, H3[a]? = some o → (((H3 ++ [MO.list []]) ++ [MO.list []]) ++ [MO.list []])[a]? = some o := fun h => get_app (get_app (get_app h))
    have l1 : (((H3 ++ [MO.list []]) ++ [MO.list []]) ++ [MO.list []])[H3.length + 1]? = some (.list []) := by
      have : (H3 ++ [MO.list []]).length = H3.length + 1 := by simp
      rw [← this]; exact get_app get_end
    have l2 : (((H3 ++ [MO.list []]) ++ [MO.list []]) ++ [MO.list []])[H3.length + 2]? = some (.list []) := by
      have : ((H3 ++ [MO.list []]) ++ [MO.list []]).length = H3.length + 2 := by simp
      rw [← this]; exact get_end
    refine ⟨g3 (by rw [keep2 _ (by (first | decide | assumption | (exact Nat.le_trans (by assumption) (by decide)) | lia | omega))]; exact get_end), get_app (get_app get_end), l1, l2,
      ⟨LA, g3 hla, c1, fun p hp => ?_⟩, fun a ha => ?_, by simp [T.init]; (first | decide | assumption | (exact Nat.le_trans (by assumption) (by decide)) | lia | omega), by simp [T.init]; (first | decide | assumption | (exact Nat.le_trans (by assumption) (by decide)) | lia | omega), by simp [T.init]; (first | decide | assumption | (exact Nat.le_trans (by assumption) (by decide)) | lia | omega), by show t.tr.length + _ ≤ _; (first | decide | assumption | (exact Nat.le_trans (by assumption) (by decide)) | lia | omega), by simp; (first | decide | assumption | (exact Nat.le_trans (by assumption) (by decide)) | lia | omega)⟩
    · obtain ⟨d1, d2, d3⟩ := hlists p hp
      exact ⟨g3 d1, by simp; (first | decide | assumption | (exact Nat.le_trans (by assumption) (by decide)) | lia | omega), by (first | decide | assumption | (exact Nat.le_trans (by assumption) (by decide)) | lia | omega)⟩
    · rw [List.getElem?_append_left (by simp; (first | decide | assumption | (exact Nat.le_trans (by assumption) (by decide)) | lia | omega)), List.getElem?_append_left (by simp; (first | decide | assumption | (exact Nat.le_trans (by assumption) (by decide)) | lia | omega)), List.getElem?_append_left (by (first | decide | assumption | (exact Nat.le_trans (by assumption) (by decide)) | lia | omega)), keep2 a (by (first | decide | assumption | (exact Nat.le_trans (by assumption) (by decide)) | lia | omega)), List.getElem?_append_left ha]
  generalize hH4 : ((H3 ++ [MO.list []]) ++ [MO.list []]) ++ [MO.list []] = H4 at e3 V0
  -- the loop
  have hwa : H[wa]? = some (il nums) := (R.at' _ _ (T.at_w hw)).trans (congrArg some (T.is_w hw))
  have hwal := (List.getElem?_eq_some_iff.mp hwa).1
  have R4 : Rep t H4 := R.frame fun k a ha => V0.old a (R.lt ha)
  have ew := ev_watch (t := t) R4 (f := D.loc 0) (g := D.loc 1) (lo := rlo t.r gone H.length H2.length (-1) H3.length (H3.length + 1) (H3.length + 2) none none none none) rfl rfl (by (first | decide | assumption | (exact Nat.le_trans (by assumption) (by decide)) | lia | omega)) hw hW
  have hfor := ev_forList (g := D.tname 8) (b := b1_law_read) ew (show H4[wa]? = some (il nums) by rw [V0.old wa hwal]; exact hwa)
  have rule := forL_rule (g := D.tname 8) (b := b1_law_read) (r := wa) (l := nums.map .int)
    (fun i lo H' => ∃ u8 u9 u10 u11, lo = rlo t.r gone H.length H2.length ((nums.take i).foldl (lstep gone) t.init).told H3.length (H3.length + 1) (H3.length + 2) u8 u9 u10 u11 ∧
      RS ((nums.take i).foldl (lstep gone) t.init) (nums.drop i) H.length H2.length H3.length (H3.length + 1) (H3.length + 2) H H' ∧ (((nums.take i).foldl (lstep gone) t.init).told = -1 → Fit n gone t ((nums.take i).foldl (lstep gone) t.init) (nums.drop i)))
    (Q := fun lo H' => ∃ u8 u9 u10 u11, lo = rlo t.r gone H.length H2.length (nums.foldl (lstep gone) t.init).told H3.length (H3.length + 1) (H3.length + 2) u8 u9 u10 u11 ∧ RS (nums.foldl (lstep gone) t.init) [] H.length H2.length H3.length (H3.length + 1) (H3.length + 2) H H')
    (R := fun _ _ _ => False)
    (fun i lo H' ⟨_, _, _, _, _, V, _⟩ => by rw [V.old wa hwal]; exact hwa)
    (fun i v lo H' hv ⟨u8, u9, u10, u11, hlo, V, hF⟩ => by
      subst hlo
      rw [List.getElem?_map] at hv
      obtain ⟨x, hx, rfl⟩ := Option.map_eq_some_iff.mp hv
      obtain ⟨hi, hxe⟩ := List.getElem?_eq_some_iff.mp hx
      have hdrop : nums.drop i = x :: nums.drop (i + 1) := by rw [List.drop_eq_getElem_cons hi, hxe]
      rw [hdrop] at V hF
      have hti : nums.take (i + 1) = nums.take i ++ [x] := by rw [List.take_add_one, hx]; rfl
      have hfold : (nums.take (i + 1)).foldl (lstep gone) t.init = lstep gone ((nums.take i).foldl (lstep gone) t.init) x := by rw [hti, List.foldl_append]; rfl
      refine ⟨rlo t.r gone H.length H2.length ((nums.take i).foldl (lstep gone) t.init).told H3.length (H3.length + 1) (H3.length + 2) (some (.int x)) u9 u10 u11, H', rfl, ?_⟩
      rw [hfold]
      generalize (nums.take i).foldl (lstep gone) t.init = s0 at V hF
      by_cases htold : s0.told = -1
      · exact (read_turn (r := t.r) V Z (hF htold) htold hn1 hCl u9 u10 u11).mono (fun lo H ⟨v8, v9, v10, v11, q1, q2⟩ => ⟨v8, v9, v10, v11, q1, q2, fun _ => (hF htold).step htold hn⟩) (fun _ _ q => q.elim) (fun _ _ _ q => q.elim)
      · exact (read_told (gone := gone) (r := t.r) V Z htold u9 u10 u11).mono (fun lo H ⟨v8, v9, v10, v11, q1, q2⟩ => ⟨v8, v9, v10, v11, q1, q2, fun h => absurd h (by rw [lstep_tell htold]; exact htold)⟩) (fun _ _ q => q.elim) (fun _ _ _ q => q.elim))
    (fun lo H' ⟨u8, u9, u10, u11, hlo, V, _⟩ => by
      rw [List.length_map, List.take_length] at hlo
      rw [List.length_map, List.take_length, List.drop_length] at V
      exact ⟨u8, u9, u10, u11, hlo, V⟩)
    (lo := rlo t.r gone H.length H2.length (-1) H3.length (H3.length + 1) (H3.length + 2) none none none none) (H := H4) ⟨none, none, none, none, rfl, V0, fun _ => F⟩
  rw [← hfor] at rule
  obtain ⟨lo, H', e5, u8, u9, u10, u11, rfl, V⟩ := rule.next
  refine ⟨_, _, _, _, _, H', fn_ret rfl (lo' := rlo t.r gone H.length H2.length (nums.foldl (lstep gone) t.init).told H3.length (H3.length + 1) (H3.length + 2) u8 u9 u10 u11) ?_, V, Z⟩
  unfold d_law_read
  show D.seq _ _ [some (.ref t.r), some (.int gone), none, none, none, none, none, none, none, none, none, none] H = _
  rw [seq_next (ev_setname e1 (by simp))]
  show D.seq _ _ [some (.ref t.r), some (.int gone), some (.ref H.length), none, none, none, none, none, none, none, none, none] _ = _
  rw [seq_next (ev_setname e2 (by simp))]
  show D.seq _ _ [some (.ref t.r), some (.int gone), some (.ref H.length), some (.ref H2.length), none, none, none, none, none, none, none, none] _ = _
  rw [seq_next e3, seq_next e5]
  rfl
end
end Mine
namespace Mine

noncomputable abbrev refW (p : Nat × List Int) : MV := .ref p.1
theorem ev_copiesW {f : DE} {lo : Lo} {H H1 : St} {a q : Nat} {C : List (Nat × List Int)} (hf : f lo H = some (.ref a, H1)) (ha : H1[a]? = some (.list (C.map refW))) (hq : lo.length = q) (hl : C.length ≤ 1000)
    (hC : ∀ p ∈ C, H1[p.1]? = some (il p.2) ∧ p.2.length ≤ 1000) :
    ∃ (LA : List (Nat × List Int)) (H2 : St), D.comp q 1 f (D.tname q) D.yes (D.bcall b.list [(D.loc q)]) lo H = some (.ref H2.length, H2 ++ [.list (LA.map refW)]) ∧
      LA.map (·.2) = C.map (·.2) ∧ LA.map (·.1) = (List.range C.length).map (H1.length + ·) ∧ H2.length = H1.length + C.length ∧ (∀ i, i < H1.length → H2[i]? = H1[i]?) ∧ (∀ p ∈ LA, H2[p.1]? = some (il p.2)) := by
  unfold D.comp D.compTo
  rw [hf]
  simp only [bnd_some, srcOf, ha]
  rw [if_pos hq]
  have lget : ∀ (u : MV) H, D.loc q (lo ++ [some u]) H = some (u, H) := fun u H => ev_loc (by rw [List.getElem?_append_right (by (first | decide | assumption | (exact Nat.le_trans (by assumption) (by decide)) | lia | omega))]; simp [hq])
  have hg : ∀ v (u : Option MV) H, D.tname q v (lo ++ [u]) H = some (lo ++ [some v], H) := fun v u H => by
    unfold D.tname
    rw [if_pos (by simp; (first | decide | assumption | (exact Nat.le_trans (by assumption) (by decide)) | lia | omega)), List.set_append_right _ _ (by (first | decide | assumption | (exact Nat.le_trans (by assumption) (by decide)) | lia | omega))]
    simp [hq]
  obtain ⟨acc, H2, e1, LA, q1, q2, q2', q3, q4, q5⟩ := cl_rule (src := srcL a) (g := D.tname q) (t := D.yes) (e := D.bcall b.list [(D.loc q)]) (l := C.map refW)
    (fun i acc lo' H' => (∃ u, lo' = lo ++ [u]) ∧ ∃ LA : List (Nat × List Int), acc = LA.map refW ∧ LA.map (·.2) = (C.take i).map (·.2) ∧ LA.map (·.1) = (List.range LA.length).map (H1.length + ·) ∧ H'.length = H1.length + LA.length ∧ (∀ j, j < H1.length → H'[j]? = H1[j]?) ∧ (∀ p ∈ LA, H'[p.1]? = some (il p.2)))
    (Q := fun acc H' => ∃ LA : List (Nat × List Int), acc = LA.map refW ∧ LA.map (·.2) = C.map (·.2) ∧ LA.map (·.1) = (List.range LA.length).map (H1.length + ·) ∧ H'.length = H1.length + LA.length ∧ (∀ j, j < H1.length → H'[j]? = H1[j]?) ∧ (∀ p ∈ LA, H'[p.1]? = some (il p.2)))
    (fun i acc lo' H' ⟨_, LA, _, _, _, _, q4, _⟩ => by
      have hlt : a < H1.length := (List.getElem?_eq_some_iff.mp ha).1
      simp only [srcL, q4 a hlt, ha])
    (fun i v acc lo' H' hv ⟨⟨u, hu⟩, LA, q1, q2, q2', q3, q4, q5⟩ => by
      subst hu
      rw [List.getElem?_map] at hv
      obtain ⟨p0, ho, rfl⟩ := Option.map_eq_some_iff.mp hv
      have hlt : i < C.length := (List.getElem?_eq_some_iff.mp ho).1
      have hLl : LA.length = i := by
        have := congrArg List.length q2
        rw [List.length_map, List.length_map, List.length_take] at this
        (first | decide | assumption | (exact Nat.le_trans (by assumption) (by decide)) | lia | omega)
      have htk : (C.take (i + 1)).map (·.2) = (C.take i).map (·.2) ++ [p0.2] := by rw [List.take_add_one, ho]; simp
      obtain ⟨h1, h2⟩ := hC p0 (List.mem_of_getElem? ho)
      have hp0 : H'[p0.1]? = some (il p0.2) := by rw [q4 _ (List.getElem?_eq_some_iff.mp h1).1]; exact h1
      refine ⟨_, H', true, H', hg _ u H', rfl, ?_⟩
      rw [if_pos rfl]
      refine ⟨.ref H'.length, H' ++ [il p0.2], ev_list1 (lget _ _) hp0 (by rw [List.length_map]; (first | decide | assumption | (exact Nat.le_trans (by assumption) (by decide)) | lia | omega)), by rw [q1, List.length_map]; (first | decide | assumption | (exact Nat.le_trans (by assumption) (by decide)) | lia | omega), ⟨_, rfl⟩, LA ++ [(H'.length, p0.2)], by rw [q1, List.map_append]; rfl, by rw [List.map_append, q2, htk]; rfl, ?_, by simp; (first | decide | assumption | (exact Nat.le_trans (by assumption) (by decide)) | lia | omega), fun j hj => ?_, fun p hp => ?_⟩
      · rw [List.map_append, q2', List.length_append, List.length_singleton, List.range_succ, List.map_append, q3]; rfl
      · rw [List.getElem?_append_left (by (first | decide | assumption | (exact Nat.le_trans (by assumption) (by decide)) | lia | omega))]; exact q4 j hj
      · rcases List.mem_append.mp hp with h | h
        · exact get_app (q5 p h)
        · rw [List.mem_singleton.mp h]; exact get_end)
    (fun acc lo' H' ⟨_, LA, q1, q2, r⟩ => ⟨LA, q1, by rw [List.length_map, List.take_length] at q2; exact q2, r⟩)
    (lo := lo ++ [none]) (H := H1) ⟨⟨none, rfl⟩, [], rfl, by simp, rfl, rfl, fun _ _ => rfl, fun p hp => by cases hp⟩
  have hLC : LA.length = C.length := by have := congrArg List.length q2; simpa using this
  refine ⟨LA, H2, ?_, q2, by rw [q2', hLC], by rw [q3, hLC], q4, q5⟩
  rw [List.length_map] at e1
  simp only [List.replicate_one, List.length_map, e1, Option.map_some, q1]
end Mine
namespace Mine
section
variable {n : Nat} {gone : Int} {t : T} {s : LS} {todo : List Int} {x : Int}

structure Noted (n : Nat) (gone : Int) (t : T) (s : LS) : Prop where
  goes : ∀ q ∈ s.goes, q.1 ≠ gone ∧ 1 ≤ q.1.natAbs ∧ q.1.natAbs ≤ n
  forced : ∀ q ∈ s.forced, 1 ≤ q.1.natAbs ∧ q.1.natAbs ≤ n
  ones : s.ones = t.tr ++ s.forced.map (·.1)

theorem Noted.step (N : Noted n gone t s) (F : Fit n gone t s (x :: todo)) (htold : s.told = -1) : Noted n gone t (lstep gone s x) := by
  rcases F.item with ⟨i1, i2⟩ | ⟨a, b, rest, a1, c0, i1, i2, hab⟩
  · have : lstep gone s x = s := by unfold lstep; rw [if_neg (by simp [htold]), i1]
    rw [this]; exact N
  · rw [lstep_clause htold i1]
    have hperm := other_perm (rest := rest) hab
    generalize (if b = gone then a else b) = oth at hperm ⊢
    obtain ⟨-, -, -, g4⟩ := F.good _ _ i1
    obtain ⟨o1, o2⟩ := g4 oth (hperm.mem_iff.mp (.head _))
    have base : Noted n gone t (if -oth ∈ s.ones then { s with lists := s.lists.set x.toNat (some (oth :: gone :: rest)), stays := s.stays ++ [x], told := x }
        else if oth ∈ s.ones then { s with lists := s.lists.set x.toNat (some (oth :: gone :: rest)), stays := s.stays ++ [x] }
        else { s with lists := s.lists.set x.toNat (some (oth :: gone :: rest)), stays := s.stays ++ [x], forced := s.forced ++ [(oth, x)], ones := s.ones ++ [oth] }) := by
      by_cases h1 : -oth ∈ s.ones
      · rw [if_pos h1]; exact ⟨N.goes, N.forced, N.ones⟩
      · rw [if_neg h1]
        by_cases h2 : oth ∈ s.ones
        · rw [if_pos h2]; exact ⟨N.goes, N.forced, N.ones⟩
        · rw [if_neg h2]
          refine ⟨N.goes, fun q hq => ?_, ?_⟩
          · rcases List.mem_append.mp hq with h | h
            · exact N.forced q h
            · rw [List.mem_singleton.mp h]; exact ⟨o1, o2⟩
          · show s.ones ++ [oth] = t.tr ++ (s.forced ++ [(oth, x)]).map (·.1)
            rw [N.ones, List.map_append, List.append_assoc]; rfl
    unfold lturn
    by_cases h2 : oth ∈ s.ones
    · rw [if_pos h2]; exact base
    · rw [if_neg h2]
      cases hfo : fstOpen (fun l => decide (-l ∉ s.ones)) gone rest with
      | none => exact base
      | some p =>
        obtain ⟨o, rest'⟩ := p
        obtain ⟨m1, m2⟩ := fstOpen_mem hfo
        refine ⟨fun q hq => ?_, N.forced, N.ones⟩
        rcases List.mem_append.mp hq with h | h
        · exact N.goes q h
        · rw [List.mem_singleton.mp h]
          refine ⟨fun e => ?_, g4 o (hperm.mem_iff.mp (.tail _ (.tail _ m1)))⟩
          have m2' : -o ∉ s.ones := by simpa using m2
          exact m2' ((show o = gone from e) ▸ F.gon)
theorem noted_all (hn : t.as.length = n + 1) : ∀ {todo : List Int} {s : LS}, Fit n gone t s todo → Noted n gone t s → Noted n gone t (todo.foldl (lstep gone) s)
  | [], _, _, N => N
  | x :: todo, s, F, N => by
    rw [List.foldl_cons]
    by_cases h : s.told = -1
    · exact noted_all hn (F.step h hn) (N.step F h)
    · rw [lstep_tell h]
      by_cases h' : ({ s with stays := s.stays ++ [x] } : LS).told = -1
      · exact absurd h' h
      · rw [lstep_told h']; exact ⟨N.goes, N.forced, N.ones⟩
theorem noted_init : Noted n gone t t.init := ⟨(fun q hq => nomatch hq), (fun q hq => nomatch hq), by simp [T.init]⟩
end
end Mine
namespace Mine

noncomputable def Agree (L lo : Lo) : Prop := lo.length = L.length ∧ ∀ j, j ≠ 14 → j ≠ 15 → j ≠ 16 → lo[j]? = L[j]?
theorem Agree.refl (L : Lo) : Agree L L := ⟨rfl, fun _ _ _ _ => rfl⟩
theorem Agree.set {L lo : Lo} (A : Agree L lo) {i : Nat} (hi : i = 14 ∨ i = 15 ∨ i = 16) (v : Option MV) : Agree L (lo.set i v) := by
  refine ⟨by rw [List.length_set]; exact A.1, fun j h1 h2 h3 => ?_⟩
  rw [List.getElem?_set_ne (by (first | decide | assumption | (exact Nat.le_trans (by assumption) (by decide)) | lia | omega))]
  exact A.2 j h1 h2 h3

noncomputable def addC (c : List (List Int)) (p : Int × Int) : List (List Int) := c.modify (plc p.1).toNat (· ++ [p.2])
theorem addC_len : ∀ {gs : List (Int × Int)} {c : List (List Int)}, (gs.foldl addC c).length = c.length
  | [], _ => rfl
  | p :: gs, c => by rw [List.foldl_cons, addC_len]; simp [addC]

structure Goes (WA : List (Nat × List Int)) (H0 H' : St) (wt : Nat) (gs : List (Int × Int)) (WB : List (Nat × List Int)) : Prop where
  at' : H'[wt]? = some (.list (WB.map refW))
  c : WB.map (·.2) = gs.foldl addC (WA.map (·.2))
  wb : ∀ p ∈ WB, H'[p.1]? = some (il p.2) ∧ p.1 ≠ wt
  old : ∀ a, a < H0.length → a ≠ wt → H'[a]? = H0[a]?
  len : H0.length ≤ H'.length
theorem goes_loop {L : Lo} {H0 : St} {wt ga h0 : Nat} {goes : List (Int × Int)} {WA : List (Nat × List Int)} (hL : L.length = 17) (h13 : L[13]? = some (some (.ref wt))) (hga : H0[ga]? = some (.list (goes.map pr))) (hgw : ga ≠ wt)
    (hwt : H0[wt]? = some (.list (WA.map refW))) (hWA : ∀ p ∈ WA, H0[p.1]? = some (il p.2) ∧ p.1 ≠ wt) (hr : ∀ q ∈ goes, q.1.natAbs ≤ 100 ∧ (plc q.1).toNat < WA.length) (hb : ∀ p ∈ WA, p.2.length + goes.length ≤ 1000) (hWl : WA.length ≤ 1000) :
    Ends (D.forL (D.ttup [(D.tname 14), (D.tname 15)]) b3_law_is_looked_right ga (goes.length + 1) 0 L H0)
      (fun lo' H' => Agree L lo' ∧ ∃ WB : List (Nat × List Int), Goes WA H0 H' wt goes WB) (fun _ _ _ => False) := by
  have rule := forL_rule (g := D.ttup [(D.tname 14), (D.tname 15)]) (b := b3_law_is_looked_right) (r := ga) (l := goes.map pr)
    (fun i lo' H' => Agree L lo' ∧ ∃ WB : List (Nat × List Int), Goes WA H0 H' wt (goes.take i) WB ∧ ∀ p ∈ WB, p.2.length + (goes.length - i) ≤ 1000)
    (Q := fun lo' H' => Agree L lo' ∧ ∃ WB : List (Nat × List Int), Goes WA H0 H' wt goes WB)
    (R := fun _ _ _ => False)
    (fun i lo' H' ⟨_, WB, GO, _⟩ => by rw [GO.old ga (List.getElem?_eq_some_iff.mp hga).1 hgw]; exact hga)
    (fun i v lo' H' hv ⟨Ag, WB, ⟨q1, q2, q3, old, hlen⟩, hbb⟩ => by
      rw [List.getElem?_map] at hv
      obtain ⟨p, hp, rfl⟩ := Option.map_eq_some_iff.mp hv
      have hi : i < goes.length := (List.getElem?_eq_some_iff.mp hp).1
      obtain ⟨r1, r2⟩ := hr p (List.mem_of_getElem? hp)
      have hl' : lo'.length = 17 := Ag.1.trans hL
      refine ⟨(lo'.set 14 (some (.int p.1))).set 15 (some (.int p.2)), H', by simp [D.ttup, D.assigns, D.tname, hl'], ?_⟩
      have Ag2 := (Ag.set (i := 14) (.inl rfl) (some (.int p.1))).set (i := 15) (.inr (.inl rfl)) (some (.int p.2))
      generalize hM : (lo'.set 14 (some (.int p.1))).set 15 (some (.int p.2)) = M at Ag2
      have l13 : ∀ H, D.loc 13 M H = some (.ref wt, H) := fun H => ev_loc (by rw [Ag2.2 13 (by (first | decide | assumption | (exact Nat.le_trans (by assumption) (by decide)) | lia | omega)) (by (first | decide | assumption | (exact Nat.le_trans (by assumption) (by decide)) | lia | omega)) (by (first | decide | assumption | (exact Nat.le_trans (by assumption) (by decide)) | lia | omega))]; exact h13)
      have l14 : ∀ H, D.loc 14 M H = some (.int p.1, H) := fun H => ev_loc (by rw [← hM, List.getElem?_set_ne (by (first | decide | assumption | (exact Nat.le_trans (by assumption) (by decide)) | lia | omega)), List.getElem?_set_self (by (first | decide | assumption | (exact Nat.le_trans (by assumption) (by decide)) | lia | omega))])
      have l15 : ∀ H, D.loc 15 M H = some (.int p.2, H) := fun H => ev_loc (by rw [← hM, List.getElem?_set_self (by simp; (first | decide | assumption | (exact Nat.le_trans (by assumption) (by decide)) | lia | omega))])
      have hWBl : WB.length = WA.length := by
        have := congrArg List.length q2
        rw [addC_len, List.length_map, List.length_map] at this
        exact this
      have hp0 : 0 ≤ plc p.1 := by unfold plc; split <;> (first | decide | assumption | (exact Nat.le_trans (by assumption) (by decide)) | lia | omega)
      have hk : (plc p.1).toNat < WB.length := by rw [hWBl]; exact r2
      obtain ⟨e1, e2⟩ := q3 _ (List.getElem_mem hk)
      have epl : ∀ H, D.call F_place_of [D.loc 14] M H = some (.int (plc p.1), H) := fun H => (ev_call1 (l14 H)).trans (place_ok (by (first | decide | assumption | (exact Nat.le_trans (by assumption) (by decide)) | lia | omega)))
      have es : D.sub (D.loc 13) (D.call F_place_of [D.loc 14]) M H' = some (.ref (WB[(plc p.1).toNat]).1, H') := ev_sub (l13 H') (epl H') (getI_list q1 hp0 (by rw [List.getElem?_map, List.getElem?_eq_getElem hk]; rfl) (by rw [List.length_map]; (first | decide | assumption | (exact Nat.le_trans (by assumption) (by decide)) | lia | omega)))
      have ea : D.bin o.add (D.sub (D.loc 13) (D.call F_place_of [(D.loc 14)])) (D.list [(D.loc 15)]) M H' = some (.ref (H' ++ [MO.list [.int p.2]]).length, (H' ++ [MO.list [.int p.2]]) ++ [il ((WB[(plc p.1).toNat]).2 ++ [p.2])]) := by
        have h1 : D.list [(D.loc 15)] M H' = some (.ref H'.length, H' ++ [MO.list [.int p.2]]) := by unfold D.list; simp only [D.args, l15, bnd_some]; rfl
        rw [ev_bin es h1, ev_addL (get_app e1) get_end (by have := hbb _ (List.getElem_mem hk); simp; (first | decide | assumption | (exact Nat.le_trans (by assumption) (by decide)) | lia | omega)), ints_append]
      have hwt2 : ((H' ++ [MO.list [.int p.2]]) ++ [il ((WB[(plc p.1).toNat]).2 ++ [p.2])])[wt]? = some (.list (WB.map refW)) := get_app (get_app q1)
      have st := ev_setsub (fa := D.loc 13) (fi := D.call F_place_of [(D.loc 14)]) ea (l13 _) (epl _) hwt2 hp0 (by rw [List.length_map]; exact hk) (by rw [List.length_map]; (first | decide | assumption | (exact Nat.le_trans (by assumption) (by decide)) | lia | omega))
      unfold b3_law_is_looked_right
      rw [seq_skip, st]
      have hwtl : wt < H'.length := (List.getElem?_eq_some_iff.mp q1).1
      have hN : (H' ++ [MO.list [.int p.2]]).length ≠ wt := by simp; (first | decide | assumption | (exact Nat.le_trans (by assumption) (by decide)) | lia | omega)
      refine ⟨Ag2, WB.set (plc p.1).toNat ((H' ++ [MO.list [.int p.2]]).length, (WB[(plc p.1).toNat]).2 ++ [p.2]), ⟨by rw [set_self hwt2, List.map_set], ?_, fun q hq => ?_, fun a h1 h2 => ?_, by simp; (first | decide | assumption | (exact Nat.le_trans (by assumption) (by decide)) | lia | omega)⟩, fun q hq => ?_⟩
      · rw [List.map_set, q2, List.take_add_one, hp, List.foldl_append]
        show _ = addC ((goes.take i).foldl addC (WA.map (·.2))) p
        rw [← q2]
        unfold addC
        refine List.ext_getElem? fun j => ?_
        rw [List.getElem?_set, List.getElem?_modify]
        by_cases h : (plc p.1).toNat = j
        · subst h
          simp [hk]
        · simp [h]
      · rcases List.mem_or_eq_of_mem_set hq with h | h
        · obtain ⟨d1, d2⟩ := q3 q h
          exact ⟨set_keep (get_app (get_app d1)) (Ne.symm d2), d2⟩
        · rw [h]
          exact ⟨set_keep get_end (Ne.symm hN), hN⟩
      · refine set_keep ?_ (Ne.symm h2)
        rw [List.getElem?_append_left (by simp; (first | decide | assumption | (exact Nat.le_trans (by assumption) (by decide)) | lia | omega)), List.getElem?_append_left (by (first | decide | assumption | (exact Nat.le_trans (by assumption) (by decide)) | lia | omega))]
        exact old a h1 h2
      · rcases List.mem_or_eq_of_mem_set hq with h | h
        · have := hbb q h; (first | decide | assumption | (exact Nat.le_trans (by assumption) (by decide)) | lia | omega)
        · have := hbb _ (List.getElem_mem hk)
          rw [h]; simp; (first | decide | assumption | (exact Nat.le_trans (by assumption) (by decide)) | lia | omega))
    (fun lo' H' ⟨Ag, WB, GO, _⟩ => ⟨Ag, WB, GO.at', by have := GO.c; rw [List.length_map, List.take_length] at this; exact this, GO.wb, GO.old, GO.len⟩)
    (lo := L) (H := H0) ⟨Agree.refl L, WA, ⟨hwt, rfl, hWA, fun _ _ _ => rfl, Nat.le_refl _⟩, fun p hp => by simpa using hb p hp⟩
  rw [List.length_map] at rule
  exact rule
end Mine
namespace Mine

noncomputable def setLv (dep : Int) (l : List Int) (p : Int × Int) : List Int := l.set p.1.natAbs dep
noncomputable def setRs (l : List Int) (p : Int × Int) : List Int := l.set p.1.natAbs p.2
theorem setLv_len {dep : Int} : ∀ {fs : List (Int × Int)} {l : List Int}, (fs.foldl (setLv dep) l).length = l.length
  | [], _ => rfl
  | p :: fs, l => by rw [List.foldl_cons, setLv_len]; simp [setLv]
theorem setRs_len : ∀ {fs : List (Int × Int)} {l : List Int}, (fs.foldl setRs l).length = l.length
  | [], _ => rfl
  | p :: fs, l => by rw [List.foldl_cons, setRs_len]; simp [setRs]

structure Forced (lv rs : List Int) (dep : Int) (H0 H' : St) (a8 a9 : Nat) (fs : List (Int × Int)) : Prop where
  lv : H'[a8]? = some (il (fs.foldl (setLv dep) lv))
  rs : H'[a9]? = some (il (fs.foldl setRs rs))
  old : ∀ a, a ≠ a8 → a ≠ a9 → H'[a]? = H0[a]?
  len : H'.length = H0.length
theorem forced_loop {L : Lo} {H0 : St} {fa a8 a9 : Nat} {fs : List (Int × Int)} {lv rs : List Int} {dep : Int} (hL : L.length = 17) (h8 : L[8]? = some (some (.ref a8))) (h9 : L[9]? = some (some (.ref a9))) (h10 : L[10]? = some (some (.int dep)))
    (hfa : H0[fa]? = some (.list (fs.map pr))) (n1 : fa ≠ a8) (n2 : fa ≠ a9) (n3 : a8 ≠ a9) (hlv : H0[a8]? = some (il lv)) (hrs : H0[a9]? = some (il rs)) (hr : ∀ q ∈ fs, q.1.natAbs < lv.length ∧ q.1.natAbs < rs.length) (hl : lv.length ≤ 1000) (hl' : rs.length ≤ 1000) :
    Ends (D.forL (D.ttup [(D.tname 14), (D.tname 15)]) b2_law_is_looked_right fa (fs.length + 1) 0 L H0)
      (fun lo' H' => Agree L lo' ∧ Forced lv rs dep H0 H' a8 a9 fs) (fun _ _ _ => False) := by
  have rule := forL_rule (g := D.ttup [(D.tname 14), (D.tname 15)]) (b := b2_law_is_looked_right) (r := fa) (l := fs.map pr)
    (fun i lo' H' => Agree L lo' ∧ Forced lv rs dep H0 H' a8 a9 (fs.take i))
    (Q := fun lo' H' => Agree L lo' ∧ Forced lv rs dep H0 H' a8 a9 fs)
    (R := fun _ _ _ => False)
    (fun i lo' H' ⟨_, FO⟩ => by rw [FO.old fa n1 n2]; exact hfa)
    (fun i v lo' H' hv ⟨Ag, q1, q2, old, hlen⟩ => by
      rw [List.getElem?_map] at hv
      obtain ⟨p, hp, rfl⟩ := Option.map_eq_some_iff.mp hv
      obtain ⟨r1, r2⟩ := hr p (List.mem_of_getElem? hp)
      have hl' : lo'.length = 17 := Ag.1.trans hL
      refine ⟨(lo'.set 14 (some (.int p.1))).set 15 (some (.int p.2)), H', by simp [D.ttup, D.assigns, D.tname, hl'], ?_⟩
      have Ag2 := (Ag.set (i := 14) (.inl rfl) (some (.int p.1))).set (i := 15) (.inr (.inl rfl)) (some (.int p.2))
      generalize hM : (lo'.set 14 (some (.int p.1))).set 15 (some (.int p.2)) = M at Ag2
      have l8 : ∀ H, D.loc 8 M H = some (.ref a8, H) := fun H => ev_loc (by rw [Ag2.2 8 (by (first | decide | assumption | (exact Nat.le_trans (by assumption) (by decide)) | lia | omega)) (by (first | decide | assumption | (exact Nat.le_trans (by assumption) (by decide)) | lia | omega)) (by (first | decide | assumption | (exact Nat.le_trans (by assumption) (by decide)) | lia | omega))]; exact h8)
      have l9 : ∀ H, D.loc 9 M H = some (.ref a9, H) := fun H => ev_loc (by rw [Ag2.2 9 (by (first | decide | assumption | (exact Nat.le_trans (by assumption) (by decide)) | lia | omega)) (by (first | decide | assumption | (exact Nat.le_trans (by assumption) (by decide)) | lia | omega)) (by (first | decide | assumption | (exact Nat.le_trans (by assumption) (by decide)) | lia | omega))]; exact h9)
      have l10 : ∀ H, D.loc 10 M H = some (.int dep, H) := fun H => ev_loc (by rw [Ag2.2 10 (by (first | decide | assumption | (exact Nat.le_trans (by assumption) (by decide)) | lia | omega)) (by (first | decide | assumption | (exact Nat.le_trans (by assumption) (by decide)) | lia | omega)) (by (first | decide | assumption | (exact Nat.le_trans (by assumption) (by decide)) | lia | omega))]; exact h10)
      have l14 : ∀ H, D.loc 14 M H = some (.int p.1, H) := fun H => ev_loc (by rw [← hM, List.getElem?_set_ne (by (first | decide | assumption | (exact Nat.le_trans (by assumption) (by decide)) | lia | omega)), List.getElem?_set_self (by (first | decide | assumption | (exact Nat.le_trans (by assumption) (by decide)) | lia | omega))])
      have l15 : ∀ H, D.loc 15 M H = some (.int p.2, H) := fun H => ev_loc (by rw [← hM, List.getElem?_set_self (by simp; (first | decide | assumption | (exact Nat.le_trans (by assumption) (by decide)) | lia | omega))])
      have ab : ∀ H, D.bcall b.abs [D.loc 14] M H = some (.int p.1.natAbs, H) := fun H => ev_abs (l14 H)
      have k1 : p.1.natAbs < ((fs.take i).foldl (setLv dep) lv).length := by rw [setLv_len]; exact r1
      have k2 : p.1.natAbs < ((fs.take i).foldl setRs rs).length := by rw [setRs_len]; exact r2
      have j1 : ((fs.take i).foldl (setLv dep) lv).length ≤ 1000 := by rw [setLv_len]; exact hl
      have j2 : ((fs.take i).foldl setRs rs).length ≤ 1000 := by rw [setRs_len]; assumption
      have f1 : (fs.take (i + 1)).foldl (setLv dep) lv = ((fs.take i).foldl (setLv dep) lv).set p.1.natAbs dep := by rw [List.take_add_one, hp, List.foldl_append]; rfl
      have f2 : (fs.take (i + 1)).foldl setRs rs = ((fs.take i).foldl setRs rs).set p.1.natAbs p.2 := by rw [List.take_add_one, hp, List.foldl_append]; rfl
      generalize (fs.take i).foldl (setLv dep) lv = lvi at q1 k1 j1 f1
      generalize (fs.take i).foldl setRs rs = rsi at q2 k2 j2 f2
      have q2' : (H'.set a8 (.list ((lvi.map MV.int).set p.1.natAbs (.int dep))))[a9]? = some (il rsi) := set_keep q2 n3
      have st : D.assign (D.tup [(D.loc 10), (D.loc 15)]) (D.ttup [(D.tsub (D.loc 8) (D.bcall b.abs [(D.loc 14)])), (D.tsub (D.loc 9) (D.bcall b.abs [(D.loc 14)]))]) M H' = some (.next, M, (H'.set a8 (il (lvi.set p.1.natAbs dep))).set a9 (il (rsi.set p.1.natAbs p.2))) := by
        have := tupset2_ok (i := (p.1.natAbs : Int)) (j := (p.1.natAbs : Int)) (l10 H') (l15 H') l8 l9 ab ab q1 (set_keep q2 n3) (by (first | decide | assumption | (exact Nat.le_trans (by assumption) (by decide)) | lia | omega)) (by rw [List.length_map]; exact k1) (by (first | decide | assumption | (exact Nat.le_trans (by assumption) (by decide)) | lia | omega)) (by rw [List.length_map]; exact k2) (by rw [List.length_map]; exact j1) (by rw [List.length_map]; exact j2)
        rw [this, Int.toNat_natCast, map_set, map_set]
      unfold b2_law_is_looked_right
      rw [seq_skip, st]
      exact ⟨Ag2, by rw [f1]; exact set_keep (set_self q1) n3.symm, by rw [f2]; exact set_self (set_keep q2 n3), fun a h1 h2 => set_keep (set_keep (old a h1 h2) (Ne.symm h1)) (Ne.symm h2), by rw [List.length_set, List.length_set]; exact hlen⟩)
    (fun lo' H' ⟨Ag, q1, q2, old, hlen⟩ => by
      rw [List.length_map, List.take_length] at q1 q2
      exact ⟨Ag, q1, q2, old, hlen⟩)
    (lo := L) (H := H0) ⟨Agree.refl L, hlv, hrs, fun _ _ _ => rfl, rfl⟩
  rw [List.length_map] at rule
  exact rule
end Mine
namespace Mine

noncomputable def SpOk (t : T) : Prop := ∀ (i : Nat) l, t.tr[i]? = some l → t.sp[l.natAbs]? = some (i : Int)

structure Good (n : Nat) (t : T) : Prop where
  as : t.as.length = n + 1
  n1 : n ≤ 50
  len : Len t
  W : t.W.length = 2 * n + 2
  C : t.C.length ≤ 100
  val : ∀ l : Int, 1 ≤ l.natAbs → l.natAbs ≤ n → t.val l = if l ∈ t.tr then 1 else if -l ∈ t.tr then -1 else 0
  one : ∀ l ∈ t.tr, 1 ≤ l.natAbs ∧ l.natAbs ≤ n
  ndo : (t.tr.map Int.natAbs).Nodup
  sp : SpOk t
  good : ∀ (j : Nat) a c, t.C[j]? = some (some (a, c)) → 2 ≤ c.length ∧ c.length ≤ 10 ∧ (c.map Int.natAbs).Nodup ∧ ∀ l ∈ c, 1 ≤ l.natAbs ∧ l.natAbs ≤ n
  wat : ∀ l : Int, 1 ≤ l.natAbs → l.natAbs ≤ n → ∃ b ns, t.W[(plc l).toNat]? = some (b, ns) ∧ ns.Nodup ∧ ∀ x ∈ ns, 0 ≤ x ∧ x.toNat < t.C.length ∧ ∀ a1 a b rest, t.C[x.toNat]? = some (some (a1, a :: b :: rest)) → a = l ∨ b = l
  w01 : ∀ i : Nat, i < 2 → ∃ b, t.W[i]? = some (b, [])

section
variable {n : Nat} {gone : Int} {t : T} {s : LS} {todo : List Int} {x : Int}

theorem init_get {j : Nat} {o : Option (List Int)} (h : t.init.lists[j]? = some o) : ∃ p, t.C[j]? = some p ∧ o = p.map (·.2) := by
  have h' : (t.C.map fun o => o.map (·.2))[j]? = some o := h
  rw [List.getElem?_map] at h'
  obtain ⟨p, hp, e⟩ := Option.map_eq_some_iff.mp h'
  exact ⟨p, hp, e.symm⟩
theorem init_some {j : Nat} {c : List Int} (h : t.init.lists[j]? = some (some c)) : ∃ a, t.C[j]? = some (some (a, c)) := by
  obtain ⟨p, hp, e⟩ := init_get h
  cases p with
  | none => cases e
  | some p => cases e; exact ⟨p.1, hp⟩

theorem Good.fit (G : Good n t) (hg : -gone ∈ t.tr) {wa : Nat} {nums : List Int} (hw : t.W[(plc gone).toNat]? = some (wa, nums)) : Fit n gone t t.init nums := by
  obtain ⟨g1, g2⟩ := G.one _ hg
  obtain ⟨b, ns, e, nd, hx⟩ := G.wat gone (by (first | decide | assumption | (exact Nat.le_trans (by assumption) (by decide)) | lia | omega)) (by (first | decide | assumption | (exact Nat.le_trans (by assumption) (by decide)) | lia | omega))
  rw [hw] at e
  cases e
  refine ⟨by simp [T.init], fun j => ?_, fun l h1 h2 => by rw [of_init]; exact G.val l h1 h2, G.one, G.ndo, by rw [of_init]; rfl, hg, fun j c h => ?_, fun y hy => ?_, nd⟩
  · show _ ↔ (t.C.map fun o => o.map (·.2))[j]?.join = none
    rw [List.getElem?_map]
    cases t.C[j]? with
    | none => simp
    | some o => cases o <;> simp
  · obtain ⟨a, ha⟩ := init_some h
    exact G.good j a c ha
  · obtain ⟨h1, h2, h3⟩ := hx y hy
    refine ⟨h1, h2, fun a b rest h => ?_⟩
    obtain ⟨a1, ha⟩ := init_some h
    exact h3 a1 a b rest ha

theorem Good.short (G : Good n t) {l : Int} (h1 : 1 ≤ l.natAbs) (h2 : l.natAbs ≤ n) {b : Nat} {ns : List Int} (h : t.W[(plc l).toNat]? = some (b, ns)) : ns.length ≤ 100 := by
  obtain ⟨b', ns', e, nd, hx⟩ := G.wat l h1 h2
  rw [h] at e
  cases e
  have := nodup_le (n := t.C.length) (l := ns.map fun x => x.toNat + 1) (by
    rw [List.Nodup, List.pairwise_map]
    refine List.Pairwise.imp_of_mem (fun {a b} ha hb hne => ?_) nd
    have := (hx a ha).1; have := (hx b hb).1
    (first | decide | assumption | (exact Nat.le_trans (by assumption) (by decide)) | lia | omega)) (fun y hy => by
    obtain ⟨x, hx', rfl⟩ := List.mem_map.mp hy
    have := (hx x hx').2.1
    (first | decide | assumption | (exact Nat.le_trans (by assumption) (by decide)) | lia | omega))
  rw [List.length_map] at this
  have := G.C
  (first | decide | assumption | (exact Nat.le_trans (by assumption) (by decide)) | lia | omega)

theorem addWs_get {W : List (Nat × List Int)} {p : Int × Int} {i : Nat} : (addWs W p)[i]? = if (plc p.1).toNat = i then (W[i]?).map (fun q => (q.1, q.2 ++ [p.2])) else W[i]? := by
  unfold addWs
  rw [List.getElem?_modify]
  by_cases h : (plc p.1).toNat = i
  · simp [h]
  · simp [h]

theorem plc_ge {l : Int} (h : 1 ≤ l.natAbs) : 2 ≤ (plc l).toNat := by unfold plc; split <;> (first | decide | assumption | (exact Nat.le_trans (by assumption) (by decide)) | lia | omega)
theorem plc_le {n : Nat} {l : Int} (h : l.natAbs ≤ n) : (plc l).toNat ≤ 2 * n + 1 := by unfold plc; split <;> (first | decide | assumption | (exact Nat.le_trans (by assumption) (by decide)) | lia | omega)
theorem plc_of {n i : Nat} (h1 : 2 ≤ i) (h2 : i < 2 * n + 2) : ∃ l : Int, 1 ≤ l.natAbs ∧ l.natAbs ≤ n ∧ (plc l).toNat = i := by
  by_cases h : i % 2 = 0
  · exact ⟨(i / 2 : Nat), by (first | decide | assumption | (exact Nat.le_trans (by assumption) (by decide)) | lia | omega), by (first | decide | assumption | (exact Nat.le_trans (by assumption) (by decide)) | lia | omega), by unfold plc; split <;> (first | decide | assumption | (exact Nat.le_trans (by assumption) (by decide)) | lia | omega)⟩
  · exact ⟨-((i / 2 : Nat) : Int), by (first | decide | assumption | (exact Nat.le_trans (by assumption) (by decide)) | lia | omega), by (first | decide | assumption | (exact Nat.le_trans (by assumption) (by decide)) | lia | omega), by unfold plc; split <;> (first | decide | assumption | (exact Nat.le_trans (by assumption) (by decide)) | lia | omega)⟩
theorem Good.shorts (G : Good n t) {p : Nat × List Int} (h : p ∈ t.W) : p.2.length ≤ 100 := by
  obtain ⟨i, hi, e⟩ := List.mem_iff_getElem.mp h
  have e' : t.W[i]? = some p := by rw [List.getElem?_eq_getElem hi, e]
  by_cases h2 : i < 2
  · obtain ⟨b, hb⟩ := G.w01 i h2
    rw [e'] at hb; cases hb; simp
  · obtain ⟨l, h3, h4, h5⟩ := plc_of (n := n) (by (first | decide | assumption | (exact Nat.le_trans (by assumption) (by decide)) | lia | omega) : 2 ≤ i) (by rw [← G.W]; exact hi)
    exact G.short h3 h4 (b := p.1) (ns := p.2) (by rw [h5]; exact e')
theorem lstep_size {s : LS} {x : Int} : (lstep gone s x).goes.length ≤ s.goes.length + 1 := by
  unfold lstep
  dsimp only
  repeat' split
  all_goals first | exact Nat.le_succ _ | simp
theorem fold_size : ∀ {todo : List Int} {s : LS}, (todo.foldl (lstep gone) s).goes.length ≤ s.goes.length + todo.length
  | [], s => by simp
  | x :: todo, s => by
    rw [List.foldl_cons, List.length_cons]
    have h1 := fold_size (todo := todo) (s := lstep gone s x)
    have h2 := lstep_size (gone := gone) (s := s) (x := x)
    (first | decide | assumption | (exact Nat.le_trans (by assumption) (by decide)) | lia | omega)
theorem addWs_low {i : Nat} : ∀ {gs : List (Int × Int)} {W : List (Nat × List Int)}, (∀ q ∈ gs, (plc q.1).toNat ≠ i) → (gs.foldl addWs W)[i]? = W[i]?
  | [], _, _ => rfl
  | q :: gs, W, h => by
    rw [List.foldl_cons, addWs_low fun x hx => h x (.tail _ hx), addWs_get, if_neg (h q (.head _))]

structure Keep (n : Nat) (gone : Int) (t : T) (s : LS) (todo : List Int) : Prop where
  oth : ∀ l : Int, 1 ≤ l.natAbs → l.natAbs ≤ n → l ≠ gone → ∃ b ns, (s.goes.foldl addWs t.W)[(plc l).toNat]? = some (b, ns) ∧ ns.Nodup ∧ ∀ x ∈ ns, 0 ≤ x ∧ x.toNat < s.lists.length ∧ ∀ a b rest, s.lists[x.toNat]? = some (some (a :: b :: rest)) → a = l ∨ b = l
  nd : (s.stays ++ todo).Nodup
  own : ∀ x ∈ s.stays ++ todo, 0 ≤ x ∧ x.toNat < s.lists.length ∧ ∀ a b rest, s.lists[x.toNat]? = some (some (a :: b :: rest)) → a = gone ∨ b = gone

theorem Keep.note (K : Keep n gone t s (x :: todo)) (td : Int) (fs : List (Int × Int)) (os : List Int) : Keep n gone t { s with stays := s.stays ++ [x], told := td, forced := fs, ones := os } todo := by
  refine ⟨K.oth, ?_, ?_⟩
  · show ((s.stays ++ [x]) ++ todo).Nodup
    rw [List.append_assoc]; exact K.nd
  · show ∀ y ∈ (s.stays ++ [x]) ++ todo, _
    rw [List.append_assoc]; exact K.own
theorem Keep.pass (K : Keep n gone t s (x :: todo)) : Keep n gone t s todo := by
  have hs : (s.stays ++ todo).Sublist (s.stays ++ x :: todo) := List.Sublist.append_left (List.sublist_cons_self ..) _
  exact ⟨K.oth, hs.nodup K.nd, fun y hy => K.own y (hs.subset hy)⟩

theorem Keep.turn (K : Keep n gone t s (x :: todo)) {a b : Int} {rest : List Int} (hc : s.lists[x.toNat]? = some (some (a :: b :: rest))) (hab : a = gone ∨ b = gone) (c : List Int) : Keep n gone t { s with lists := s.lists.set x.toNat (some ((if b = gone then a else b) :: gone :: c)) } (x :: todo) := by
  have hlt : x.toNat < s.lists.length := (List.getElem?_eq_some_iff.mp hc).1
  have get : ∀ j : Nat, (s.lists.set x.toNat (some ((if b = gone then a else b) :: gone :: c)))[j]? = if x.toNat = j then some (some ((if b = gone then a else b) :: gone :: c)) else s.lists[j]? := fun j => by
    rw [List.getElem?_set]
    by_cases h : x.toNat = j
    · rw [if_pos h, if_pos h, if_pos (h ▸ hlt)]
    · rw [if_neg h, if_neg h]
  have key : ∀ (l y : Int), (∀ a b rest, s.lists[y.toNat]? = some (some (a :: b :: rest)) → a = l ∨ b = l) → ∀ a' b' rest', (s.lists.set x.toNat (some ((if b = gone then a else b) :: gone :: c)))[y.toNat]? = some (some (a' :: b' :: rest')) → a' = l ∨ b' = l := fun l y h a' b' rest' e => by
    rw [get] at e
    by_cases hxy : x.toNat = y.toNat
    · rw [if_pos hxy] at e
      cases e
      have := h a b rest (by rw [← hxy]; exact hc)
      by_cases hb : b = gone
      · rw [if_pos hb]
        rcases this with h | h
        · exact .inl h
        · exact .inr (hb ▸ h)
      · rw [if_neg hb]
        rcases this with h | h
        · exact .inr ((hab.resolve_right hb) ▸ h)
        · exact .inl h
    · rw [if_neg hxy] at e
      exact h a' b' rest' e
  refine ⟨fun l h1 h2 h3 => ?_, K.nd, fun y hy => ?_⟩
  · obtain ⟨b1, ns, e, nd, hx⟩ := K.oth l h1 h2 h3
    exact ⟨b1, ns, e, nd, fun y hy => ⟨(hx y hy).1, by dsimp only; rw [List.length_set]; exact (hx y hy).2.1, key l y (hx y hy).2.2⟩⟩
  · obtain ⟨h1, h2, h3⟩ := K.own y hy
    exact ⟨h1, by dsimp only; rw [List.length_set]; exact h2, key gone y h3⟩

theorem Keep.move (K : Keep n gone t s (x :: todo)) {oth o : Int} {rest rest' : List Int} (hc : s.lists[x.toNat]? = some (some (oth :: gone :: rest))) (hW : t.W.length = 2 * n + 2) (ho : o ≠ gone) (hoo : o ≠ oth) (o1 : 1 ≤ o.natAbs) (o2 : o.natAbs ≤ n) :
    Keep n gone t { s with goes := s.goes ++ [(o, x)], lists := s.lists.set x.toNat (some (oth :: o :: rest')) } todo := by
  have hlt : x.toNat < s.lists.length := (List.getElem?_eq_some_iff.mp hc).1
  have get : ∀ j : Nat, (s.lists.set x.toNat (some (oth :: o :: rest')))[j]? = if x.toNat = j then some (some (oth :: o :: rest')) else s.lists[j]? := fun j => by
    rw [List.getElem?_set]
    by_cases h : x.toNat = j
    · rw [if_pos h, if_pos h, if_pos (h ▸ hlt)]
    · rw [if_neg h, if_neg h]
  have hx0 := (K.own x (List.mem_append_right _ (.head _))).1
  have hs : (s.stays ++ todo).Sublist (s.stays ++ x :: todo) := List.Sublist.append_left (List.sublist_cons_self ..) _
  have hnot : x ∉ s.stays ++ todo := fun h => by
    have := K.nd
    rw [List.nodup_append] at this
    rcases List.mem_append.mp h with h | h
    · exact this.2.2 x h x (.head _) rfl
    · exact (List.nodup_cons.mp this.2.1).1 h
  refine ⟨fun l h1 h2 h3 => ?_, hs.nodup K.nd, fun y hy => ?_⟩
  · obtain ⟨b1, ns, e, nd, hx⟩ := K.oth l h1 h2 h3
    dsimp only
    rw [List.foldl_append]
    show ∃ b ns, (addWs (s.goes.foldl addWs t.W) (o, x))[(plc l).toNat]? = some (b, ns) ∧ _
    rw [addWs_get]
    by_cases hlo : l = o
    · subst hlo
      rw [if_pos rfl, e]
      refine ⟨b1, ns ++ [x], rfl, ?_, fun y hy => ?_⟩
      · rw [List.nodup_append]
        refine ⟨nd, by simp, fun y hy z hz e => ?_⟩
        rw [List.mem_singleton.mp hz] at e
        subst e
        rcases (hx y hy).2.2 _ _ _ hc with h | h
        · exact hoo h.symm
        · exact ho h.symm
      · rw [List.length_set]
        rcases List.mem_append.mp hy with h | h
        · obtain ⟨k1, k2, k3⟩ := hx y h
          refine ⟨k1, k2, fun a b r' e' => ?_⟩
          rw [get] at e'
          by_cases hxy : x.toNat = y.toNat
          · rw [if_pos hxy] at e'; cases e'; exact .inr rfl
          · rw [if_neg hxy] at e'; exact k3 a b r' e'
        · rw [List.mem_singleton.mp h]
          refine ⟨hx0, hlt, fun a b r' e' => ?_⟩
          rw [get, if_pos rfl] at e'; cases e'; exact .inr rfl
    · have hne : ¬ (plc o).toNat = (plc l).toNat := fun h => hlo (plc_nat h o1 h1).symm
      rw [if_neg hne, e]
      refine ⟨b1, ns, rfl, nd, fun y hy => ?_⟩
      rw [List.length_set]
      obtain ⟨k1, k2, k3⟩ := hx y hy
      refine ⟨k1, k2, fun a b r' e' => ?_⟩
      rw [get] at e'
      by_cases hxy : x.toNat = y.toNat
      · rw [if_pos hxy] at e'; cases e'
        rcases k3 _ _ _ (hxy ▸ hc) with h | h
        · exact .inl h
        · exact absurd h.symm h3
      · rw [if_neg hxy] at e'; exact k3 a b r' e'
  · obtain ⟨k1, k2, k3⟩ := K.own y (hs.subset hy)
    refine ⟨k1, by dsimp only; rw [List.length_set]; exact k2, fun a b r' e' => ?_⟩
    dsimp only at e'
    rw [get, if_neg (fun h => hnot (by rw [show x = y by (first | decide | assumption | (exact Nat.le_trans (by assumption) (by decide)) | lia | omega)]; exact hy))] at e'
    exact k3 a b r' e'

theorem Keep.step (K : Keep n gone t s (x :: todo)) (F : Fit n gone t s (x :: todo)) (htold : s.told = -1) (hW : t.W.length = 2 * n + 2) : Keep n gone t (lstep gone s x) todo := by
  rcases F.item with ⟨i1, i2⟩ | ⟨a, b, rest, a1, c0, i1, i2, hab⟩
  · have : lstep gone s x = s := by unfold lstep; rw [if_neg (by simp [htold]), i1]
    rw [this]; exact K.pass
  · rw [lstep_clause htold i1]
    have hperm := other_perm (rest := rest) hab
    have hlt : x.toNat < s.lists.length := (List.getElem?_eq_some_iff.mp i1).1
    obtain ⟨-, -, g3, g4⟩ := F.good _ _ i1
    have K1 := K.turn i1 hab rest
    generalize hoth : (if b = gone then a else b) = oth at hperm K1 ⊢
    have base : Keep n gone t (if -oth ∈ s.ones then { s with lists := s.lists.set x.toNat (some (oth :: gone :: rest)), stays := s.stays ++ [x], told := x }
        else if oth ∈ s.ones then { s with lists := s.lists.set x.toNat (some (oth :: gone :: rest)), stays := s.stays ++ [x] }
        else { s with lists := s.lists.set x.toNat (some (oth :: gone :: rest)), stays := s.stays ++ [x], forced := s.forced ++ [(oth, x)], ones := s.ones ++ [oth] }) todo := by
      by_cases h1 : -oth ∈ s.ones
      · rw [if_pos h1]; exact K1.note x s.forced s.ones
      · rw [if_neg h1]
        by_cases h2 : oth ∈ s.ones
        · rw [if_pos h2]; exact K1.note s.told s.forced s.ones
        · rw [if_neg h2]; exact K1.note s.told (s.forced ++ [(oth, x)]) (s.ones ++ [oth])
    unfold lturn
    by_cases h2 : oth ∈ s.ones
    · rw [if_pos h2]; exact base
    · rw [if_neg h2]
      cases hfo : fstOpen (fun l => decide (-l ∉ s.ones)) gone rest with
      | none => exact base
      | some p =>
        obtain ⟨o, rest'⟩ := p
        obtain ⟨m1, m2⟩ := fstOpen_mem hfo
        have m2' : -o ∉ s.ones := by simpa using m2
        have ndp : ((oth :: gone :: rest).map Int.natAbs).Nodup := (hperm.map _).nodup_iff.mpr g3
        simp only [List.map_cons, List.nodup_cons] at ndp
        have hoo : o ≠ oth := fun e => ndp.1 (by rw [← e]; exact .tail _ (List.mem_map_of_mem m1))
        have hin := g4 o (hperm.mem_iff.mp (.tail _ (.tail _ m1)))
        have K2 := K1.move (o := o) (oth := oth) (rest := rest) (rest' := rest') (List.getElem?_set_self hlt) hW (fun e => m2' (e ▸ F.gon)) hoo hin.1 hin.2
        dsimp only at K2 ⊢
        rw [List.set_set] at K2
        exact K2

theorem Keep.told (K : Keep n gone t s (x :: todo)) : Keep n gone t { s with stays := s.stays ++ [x] } todo := K.note s.told s.forced s.ones
theorem keep_all (hn : t.as.length = n + 1) (hW : t.W.length = 2 * n + 2) : ∀ {todo : List Int} {s : LS}, (s.told = -1 → Fit n gone t s todo) → Keep n gone t s todo → Keep n gone t (todo.foldl (lstep gone) s) []
  | [], _, _, K => K
  | x :: todo, s, F, K => by
    rw [List.foldl_cons]
    by_cases h : s.told = -1
    · exact keep_all hn hW (fun _ => (F h).step h hn) (K.step (F h) h hW)
    · rw [lstep_tell h]
      exact keep_all hn hW (fun h' => absurd h' h) K.told
theorem Good.keep (G : Good n t) (hg : -gone ∈ t.tr) {wa : Nat} {nums : List Int} (hw : t.W[(plc gone).toNat]? = some (wa, nums)) : Keep n gone t t.init nums := by
  have F := G.fit hg hw
  have hl : t.init.lists.length = t.C.length := by simp [T.init]
  refine ⟨fun l h1 h2 h3 => ?_, F.nd, fun y hy => ?_⟩
  · obtain ⟨b, ns, e, nd, hx⟩ := G.wat l h1 h2
    refine ⟨b, ns, e, nd, fun y hy => ?_⟩
    obtain ⟨k1, k2, k3⟩ := hx y hy
    refine ⟨k1, by rw [hl]; exact k2, fun a b rest h => ?_⟩
    obtain ⟨a1, ha⟩ := init_some h
    exact k3 a1 a b rest ha
  · have := F.wat y hy
    exact ⟨this.1, by rw [hl]; exact this.2.1, this.2.2⟩

-- the forced ones
theorem enqs_lv : ∀ {fs : List (Int × Int)} {t : T}, (t.enqs fs).lv = fs.foldl (setLv t.st.length) t.lv
  | [], t => rfl
  | p :: fs, t => by
    show ((t.enq p.1 p.2).enqs fs).lv = _
    rw [enqs_lv]; rfl
theorem enqs_rs : ∀ {fs : List (Int × Int)} {t : T}, (t.enqs fs).rs = fs.foldl setRs t.rs
  | [], t => rfl
  | p :: fs, t => by
    show ((t.enq p.1 p.2).enqs fs).rs = _
    rw [enqs_rs]; rfl
theorem SpOk.enq {t : T} (S : SpOk t) {o num : Int} (hb : o.natAbs < t.sp.length) (hn : o.natAbs ∉ t.tr.map Int.natAbs) : SpOk (t.enq o num) := by
  intro i l h
  have h' : (t.tr ++ [o])[i]? = some l := h
  show (t.sp.set o.natAbs t.tr.length)[l.natAbs]? = _
  by_cases hi : i < t.tr.length
  · rw [List.getElem?_append_left hi] at h'
    rw [List.getElem?_set_ne (fun e => hn (by rw [e]; exact List.mem_map_of_mem (List.mem_of_getElem? h')))]
    exact S i l h'
  · rw [List.getElem?_append_right (by (first | decide | assumption | (exact Nat.le_trans (by assumption) (by decide)) | lia | omega))] at h'
    have : i - t.tr.length = 0 := by
      have := (List.getElem?_eq_some_iff.mp h').1
      simp at this; (first | decide | assumption | (exact Nat.le_trans (by assumption) (by decide)) | lia | omega)
    rw [this] at h'
    simp at h'
    subst h'
    rw [List.getElem?_set_self hb, show i = t.tr.length by (first | decide | assumption | (exact Nat.le_trans (by assumption) (by decide)) | lia | omega)]
theorem SpOk.enqs : ∀ {fs : List (Int × Int)} {t : T}, SpOk t → (∀ q ∈ fs, q.1.natAbs < t.sp.length) → ((t.tr ++ fs.map (·.1)).map Int.natAbs).Nodup → SpOk (t.enqs fs)
  | [], t, S, _, _ => S
  | p :: fs, t, S, hb, nd => by
    show SpOk ((t.enq p.1 p.2).enqs fs)
    have e : t.tr ++ (p :: fs).map (·.1) = (t.tr ++ [p.1]) ++ fs.map (·.1) := by simp
    rw [e] at nd
    refine SpOk.enqs (S.enq (hb p (.head _)) ?_) (fun q hq => by simp only [T.enq, List.length_set]; exact hb q (.tail _ hq)) nd
    rw [List.map_append, List.nodup_append, List.map_append, List.nodup_append] at nd
    exact fun hm => nd.1.2.2 _ hm _ (by simp) rfl

theorem Good.next (G : Good n t) (hg : -gone ∈ t.tr) {wa : Nat} {nums : List Int} (hw : t.W[(plc gone).toNat]? = some (wa, nums)) (K : Nat) (hs : nums.foldl (lstep gone) t.init = s) (F : Fit n gone t s []) : Good n ((t.of s).newW (plc gone).toNat K s.stays) := by
  have F0 := G.fit hg hw
  have N : Noted n gone t s := by rw [← hs]; exact noted_all G.as F0 noted_init
  have Kp : Keep n gone t s [] := by rw [← hs]; exact keep_all G.as G.W (fun _ => F0) (G.keep hg hw)
  obtain ⟨g1, g2⟩ := G.one _ hg
  have htr : ((t.of s).newW (plc gone).toNat K s.stays).tr = s.ones := F.tr
  have Ln := F.lenT G.len G.as
  have hCl : (t.of s).C.length = t.C.length := of_Clen F.len
  have hCg : ∀ (j : Nat) a c, (t.of s).C[j]? = some (some (a, c)) → s.lists[j]? = some (some c) := fun j a c h => by
    simp only [T.of, cOf, List.getElem?_zipWith] at h
    have hsame := F.same j
    cases h1 : t.C[j]? with
    | none => rw [h1] at h; simp at h
    | some o =>
      cases h2 : s.lists[j]? with
      | none => rw [h1, h2] at h; simp at h
      | some l =>
        rw [h1, h2] at h hsame
        cases o with
        | none => simp at h
        | some p =>
          cases l with
          | none => simp at hsame
          | some l => simp at h; rw [h.2]
  have hplt : (plc gone).toNat < t.W.length := (List.getElem?_eq_some_iff.mp hw).1
  refine ⟨of_as.trans G.as, G.n1, ⟨Ln.lv, Ln.rs, Ln.sp, Ln.as, Ln.tr, Ln.st⟩, ?_, by show (t.of s).C.length ≤ 100; rw [hCl]; exact G.C, fun l h1 h2 => ?_, fun l hl => F.one l (htr ▸ hl), by rw [htr]; exact F.ndo, ?_, fun j a c h => F.good j c (hCg j a c h), fun l h1 h2 => ?_, fun i hi => ?_⟩
  · show ((t.of s).W.set _ _).length = _
    rw [List.length_set]; exact of_W.trans G.W
  · rw [htr]; exact F.val l h1 h2
  · have : SpOk (t.enqs s.forced) := G.sp.enqs (fun q hq => by have := (N.forced q hq).2; rw [G.len.sp, G.as]; (first | decide | assumption | (exact Nat.le_trans (by assumption) (by decide)) | lia | omega)) (by rw [← N.ones]; exact F.ndo)
    exact this
  · show ∃ b ns, ((t.of s).W.set (plc gone).toNat (K, s.stays))[(plc l).toNat]? = some (b, ns) ∧ ns.Nodup ∧ ∀ x ∈ ns, 0 ≤ x ∧ x.toNat < (t.of s).C.length ∧ ∀ a1 a b rest, (t.of s).C[x.toNat]? = some (some (a1, a :: b :: rest)) → a = l ∨ b = l
    rw [List.getElem?_set, hCl, ← F.len]
    by_cases hl : l = gone
    · subst hl
      rw [if_pos rfl, if_pos (by rw [of_W]; exact hplt)]
      refine ⟨K, s.stays, rfl, by have := Kp.nd; rwa [List.append_nil] at this, fun x hx => ?_⟩
      obtain ⟨k1, k2, k3⟩ := Kp.own x (by rw [List.append_nil]; exact hx)
      exact ⟨k1, k2, fun a1 a b rest h => k3 a b rest (hCg _ _ _ h)⟩
    · rw [if_neg (fun h => hl (plc_nat h (by (first | decide | assumption | (exact Nat.le_trans (by assumption) (by decide)) | lia | omega)) h1).symm)]
      obtain ⟨b1, ns, e, nd, hx⟩ := Kp.oth l h1 h2 hl
      exact ⟨b1, ns, e, nd, fun x hx' => ⟨(hx x hx').1, (hx x hx').2.1, fun a1 a b rest h => (hx x hx').2.2 a b rest (hCg _ _ _ h)⟩⟩
  · show ∃ b, ((t.of s).W.set (plc gone).toNat (K, s.stays))[i]? = some (b, [])
    have := plc_ge (l := gone) (by (first | decide | assumption | (exact Nat.le_trans (by assumption) (by decide)) | lia | omega))
    rw [List.getElem?_set_ne (by (first | decide | assumption | (exact Nat.le_trans (by assumption) (by decide)) | lia | omega))]
    show ∃ b, (s.goes.foldl addWs t.W)[i]? = some (b, [])
    rw [addWs_low fun q hq => by have := plc_ge (N.goes q hq).2.1; (first | decide | assumption | (exact Nat.le_trans (by assumption) (by decide)) | lia | omega)]
    exact G.w01 i hi
end
end Mine
namespace Mine

theorem rds_refW {k : Nat} {H : St} {LA : List (Nat × List Int)} (h : ∀ p ∈ LA, H[p.1]? = some (il p.2)) : rdsW (rd (k + 2) H) (LA.map refW) = some ((LA.map (·.2)).map dInts) := by
  rw [List.map_map]; exact rdsW_map fun p hp => rd_il (h p hp)
theorem rd_refW {a : Nat} {H : St} {LA : List (Nat × List Int)} (ha : H[a]? = some (.list (LA.map refW))) (h : ∀ p ∈ LA, H[p.1]? = some (il p.2)) : rd 8 H (.ref a) = some (.list ((LA.map (·.2)).map dInts)) := by
  have e := rds_refW (k := 5) h
  unfold rd
  simp only [ha, e]; rfl
theorem W_shaped {l : List (List Int)} : shaped (.list (l.map dInts)) = true := by
  obtain ⟨h1, h2⟩ := all_shaped (k := 1) (xs := l.map dInts) fun x hx => by
    obtain ⟨o, _, rfl⟩ := List.mem_map.mp hx
    exact ints_shaped o
  refine shaped_of (k := 2) ⟨?_, ?_⟩ (by (first | decide | assumption | (exact Nat.le_trans (by assumption) (by decide)) | lia | omega))
  · simp only [PyData.canLay0]; exact h1
  · simp only [PyData.depth]; (first | decide | assumption | (exact Nat.le_trans (by assumption) (by decide)) | lia | omega)
theorem il_shaped {l : List Int} : shaped (dInts l) = true := shaped_of (ints_shaped l) (by (first | decide | assumption | (exact Nat.le_trans (by assumption) (by decide)) | lia | omega))
theorem cmp_ne {H : St} {a b : Nat} {d : PyData} (ha : rd 8 H (.ref a) = some d) (hb : rd 8 H (.ref b) = some d) (hs : shaped d = true) : Mine.cmp .NotEq (.ref a) (.ref b) H = some false := by
  show (eqD H _ _).map not = _
  rw [eqD_same ha hb hs]; rfl
theorem ev_orF {f g : Lo → St → Option (Bool × St)} {lo : Lo} {H H1 : St} (h : f lo H = some (false, H1)) : D.orT f g lo H = g lo H1 := by unfold D.orT; rw [h]; rfl

theorem ev_swap3 {f g h : DE} {lo : Lo} {H H1 H2 H3 : St} {x y z : MV} {i j k : Nat} (hf : f lo H = some (x, H1)) (hg : g lo H1 = some (y, H2)) (hh : h lo H2 = some (z, H3)) (hi : i < lo.length) (hj : j < lo.length) (hk : k < lo.length) :
    D.swap (D.tup [f, g, h]) [i, j, k] lo H = some (.next, ((lo.set k (some z)).set j (some y)).set i (some x), H3) := by
  unfold D.swap D.tup
  simp only [D.args, hf, hg, hh, bnd_some]
  rw [if_pos (by simp [small])]
  simp [D.assigns, D.tname, hi, hj, hk]

theorem ev_comp2 {f : DE} {e : DE} {lo : Lo} {H H1 : St} {a q : Nat} {l : List (Int × Int)} (fn : Int × Int → MV) (hf : f lo H = some (.ref a, H1)) (ha : H1[a]? = some (.list (l.map pr))) (hq : lo.length = q) (hl : l.length ≤ 1000000)
    (he : ∀ p ∈ l, e (lo ++ [some (.int p.1), some (.int p.2)]) H1 = some (fn p, H1)) :
    D.comp q 2 f (D.ttup [D.tname q, D.tname (q + 1)]) D.yes e lo H = some (.ref H1.length, H1 ++ [.list (l.map fn)]) := by
  unfold D.comp D.compTo
  rw [hf]
  simp only [bnd_some, srcOf, ha]
  rw [if_pos hq]
  have hg : ∀ (p : Int × Int) (u v : Option MV), D.ttup [D.tname q, D.tname (q + 1)] (pr p) (lo ++ [u, v]) H1 = some (lo ++ [some (.int p.1), some (.int p.2)], H1) := fun p u v => by
    simp only [D.ttup, pr, List.length_cons, List.length_nil, if_true, D.assigns, D.tname]
    rw [if_pos (by simp; (first | decide | assumption | (exact Nat.le_trans (by assumption) (by decide)) | lia | omega))]
    simp only [bnd_some]
    rw [if_pos (by simp; (first | decide | assumption | (exact Nat.le_trans (by assumption) (by decide)) | lia | omega))]
    rw [List.set_append_right _ _ (by (first | decide | assumption | (exact Nat.le_trans (by assumption) (by decide)) | lia | omega)), List.set_append_right _ _ (by (first | decide | assumption | (exact Nat.le_trans (by assumption) (by decide)) | lia | omega))]
    simp [hq, D.assigns]
  obtain ⟨acc, H2, e1, e2, e3⟩ := cl_rule (src := srcL a) (g := D.ttup [D.tname q, D.tname (q + 1)]) (t := D.yes) (e := e) (l := l.map pr)
    (fun i acc lo' H' => H' = H1 ∧ (∃ u v, lo' = lo ++ [u, v]) ∧ acc = (l.take i).map fn)
    (Q := fun acc H' => H' = H1 ∧ acc = l.map fn)
    (fun i acc lo' H' ⟨h, _, _⟩ => by rw [h]; simp only [srcL, ha])
    (fun i v acc lo' H' hv ⟨h1, ⟨u, w, h2⟩, h3⟩ => by
      subst h1; subst h2
      rw [List.getElem?_map] at hv
      obtain ⟨p, hp, rfl⟩ := Option.map_eq_some_iff.mp hv
      have hi := (List.getElem?_eq_some_iff.mp hp).1
      refine ⟨_, H', true, H', hg p u w, rfl, ?_⟩
      rw [if_pos rfl]
      refine ⟨fn p, H', he p (List.mem_of_getElem? hp), ?_, rfl, ⟨_, _, rfl⟩, ?_⟩
      · rw [h3, List.length_map, List.length_take]; (first | decide | assumption | (exact Nat.le_trans (by assumption) (by decide)) | lia | omega)
      · rw [h3, List.take_add_one, hp, List.map_append]; rfl)
    (fun acc lo' H' ⟨h1, _, h3⟩ => ⟨h1, by rw [h3, List.length_map, List.take_of_length_le (Nat.le_refl _)]⟩) (lo := lo ++ [none, none]) (H := H1) ⟨rfl, ⟨_, _, rfl⟩, by simp⟩
  have hr : (List.replicate 2 none : Lo) = [none, none] := rfl
  rw [hr, e1, e2, e3]; rfl

noncomputable abbrev enumI (l : List Int) : List MV := l.mapIdx fun i x => MV.tup [.int i, .int x]
theorem ev_forE {f : DE} {g : DT} {b : DS} {lo : Lo} {H H1 : St} {r : Nat} {l : List Int} (hf : f lo H = some (.ref r, H1)) (hr : H1[r]? = some (il l)) : D.forE f g b lo H = D.forS (srcE r) g b ((enumI l).length + 1) 0 lo H1 := by
  unfold D.forE; rw [hf]; simp [hr]
theorem srcE_get {H : St} {r : Nat} {l : List Int} {i : Nat} (hr : H[r]? = some (il l)) : srcE r H i = some (enumI l)[i]? := by
  simp only [srcE, hr, enumI, List.getElem?_mapIdx, List.getElem?_map, Option.map_map]
  rfl

theorem goes_addC {p K : Nat} {st : List Int} : ∀ {gs : List (Int × Int)} {W : List (Nat × List Int)}, (∀ q ∈ gs, (plc q.1).toNat ≠ p) → ((gs.foldl addWs W).set p (K, st)).map (·.2) = gs.foldl addC ((W.map (·.2)).set p st)
  | [], W, _ => by simp [List.map_set]
  | q :: gs, W, h => by
    rw [List.foldl_cons, List.foldl_cons, goes_addC fun x hx => h x (.tail _ hx)]
    congr 1
    refine List.ext_getElem? fun i => ?_
    have hq := h q (.head _)
    simp only [addC, List.getElem?_set, List.getElem?_modify, List.getElem?_map, addWs_get, List.length_map]
    by_cases h1 : p = i
    · subst h1
      have : (addWs W q).length = W.length := by simp [addWs]
      simp [hq, this]
    · simp only [h1, if_false]
      by_cases h2 : (plc q.1).toNat = i
      · simp only [h2, if_true]
        cases W[i]? <;> simp
      · simp only [h2, if_false]
        cases W[i]? <;> simp

theorem count_vals {n : Nat} {tr : List Int} (one : ∀ l ∈ tr, 1 ≤ l.natAbs ∧ l.natAbs ≤ n) (nd : (tr.map Int.natAbs).Nodup) (val : Int → Int) (hv : ∀ l : Int, 1 ≤ l.natAbs → l.natAbs ≤ n → val l = if l ∈ tr then 1 else if -l ∈ tr then -1 else 0) :
    ((List.range n).filter fun i : Nat => decide (val ((i : Int) + 1) ≠ 0)).length = tr.length := by
  have h : List.Perm (((List.range n).filter fun i : Nat => decide (val ((i : Int) + 1) ≠ 0)).map (· + 1)) (tr.map Int.natAbs) := by
    rw [List.perm_ext_iff_of_nodup]
    · intro a
      constructor
      · intro ha
        obtain ⟨i, hi, rfl⟩ := List.mem_map.mp ha
        obtain ⟨h1, h2⟩ := List.mem_filter.mp hi
        rw [List.mem_range] at h1
        rw [hv _ (by (first | decide | assumption | (exact Nat.le_trans (by assumption) (by decide)) | lia | omega)) (by (first | decide | assumption | (exact Nat.le_trans (by assumption) (by decide)) | lia | omega))] at h2
        by_cases c1 : (i : Int) + 1 ∈ tr
        · exact List.mem_map.mpr ⟨_, c1, by (first | decide | assumption | (exact Nat.le_trans (by assumption) (by decide)) | lia | omega)⟩
        · by_cases c2 : -((i : Int) + 1) ∈ tr
          · exact List.mem_map.mpr ⟨_, c2, by (first | decide | assumption | (exact Nat.le_trans (by assumption) (by decide)) | lia | omega)⟩
          · simp [c1, c2] at h2
      · intro ha
        obtain ⟨l, hl, rfl⟩ := List.mem_map.mp ha
        obtain ⟨h1, h2⟩ := one l hl
        refine List.mem_map.mpr ⟨l.natAbs - 1, List.mem_filter.mpr ⟨List.mem_range.mpr (by (first | decide | assumption | (exact Nat.le_trans (by assumption) (by decide)) | lia | omega)), ?_⟩, by (first | decide | assumption | (exact Nat.le_trans (by assumption) (by decide)) | lia | omega)⟩
        rw [hv _ (by (first | decide | assumption | (exact Nat.le_trans (by assumption) (by decide)) | lia | omega)) (by (first | decide | assumption | (exact Nat.le_trans (by assumption) (by decide)) | lia | omega))]
        have : ((l.natAbs - 1 : Nat) : Int) + 1 = l ∨ -(((l.natAbs - 1 : Nat) : Int) + 1) = l := by (first | decide | assumption | (exact Nat.le_trans (by assumption) (by decide)) | lia | omega)
        rcases this with e | e
        · simp [e, hl]
        · by_cases c : ((l.natAbs - 1 : Nat) : Int) + 1 ∈ tr
          · simp [c]
          · simp [c, e, hl]
    · refine List.Pairwise.map _ (fun a b h => by (first | decide | assumption | (exact Nat.le_trans (by assumption) (by decide)) | lia | omega)) (List.Pairwise.filter _ List.nodup_range)
    · exact nd
  have := h.length_eq
  simpa using this
end Mine
namespace Mine

noncomputable abbrev qlo (r : Nat) (gone told : Int) (la sa ga fa : Nat) (us : List (Option MV)) : Lo := some (.ref r) :: some (.int gone) :: some (.int told) :: some (.ref la) :: some (.ref sa) :: some (.ref ga) :: some (.ref fa) :: us

theorem T.at_lt {t : T} {H : St} (R : Rep t H) {a : Nat} (h : H.length ≤ a) : ∀ k, t.at k ≠ some a := fun k e => by have := R.lt e; (first | decide | assumption | (exact Nat.le_trans (by assumption) (by decide)) | lia | omega)

structure Looked (n : Nat) (t t' : T) (H H' : St) : Prop where
  rep : Rep t' H'
  good : Good n t'
  r : t'.r = t.r
  tr : t.tr <+: t'.tr
  len : H.length ≤ H'.length
  out : ∀ a, (∀ k, t.at k ≠ some a) → a < H.length → H'[a]? = H[a]?
  at' : ∀ k a, t'.at k = some a → (∃ k', t.at k' = some a) ∨ H.length ≤ a

theorem newW_at {t : T} {p K : Nat} {ns : List Int} {k : Kd} {a : Nat} (h : (t.newW p K ns).at k = some a) : t.at k = some a ∨ a = K := by
  cases k <;> try exact .inl h
  rename_i i
  have h' : Option.map (·.1) ((t.W.set p (K, ns))[i]?) = some a := h
  rw [List.getElem?_set] at h'
  split at h'
  · split at h'
    · right; simpa using h'.symm
    · cases h'
  · exact .inl h'

theorem look_turn {n : Nat} {t : T} {H : St} (R : Rep t H) (G : Good n t) {lo : Lo} {i : Nat} {l : Int} (h0 : lo[0]? = some (some (.ref t.r))) (h14 : lo[14]? = some (some (.int l))) (h16 : lo[16]? = some (some (.int i))) (hl : t.tr[i]? = some l) :
    b1_law_is_looked_right lo H = some (.next, lo, H) := by
  have hm := List.mem_of_getElem? hl
  obtain ⟨o1, o2⟩ := G.one l hm
  have has := G.as
  have hn := G.n1
  have hsp := G.len.sp
  have l0 : D.loc 0 lo H = some (.ref t.r, H) := ev_loc h0
  have l14 : D.loc 14 lo H = some (.int l, H) := ev_loc h14
  have l16 : D.loc 16 lo H = some (.int i, H) := ev_loc h16
  have e1 : D.sub (D.attr 1 4 (D.loc 0)) (D.bcall b.abs [(D.loc 14)]) lo H = some (.int i, H) :=
    ev_item (R.attr rfl l0 rfl) (ev_abs l14) (R.at' .sp _ rfl) (by (first | decide | assumption | (exact Nat.le_trans (by assumption) (by decide)) | lia | omega)) (by rw [Int.toNat_natCast]; exact G.sp i l hl) (by rw [hsp]; (first | decide | assumption | (exact Nat.le_trans (by assumption) (by decide)) | lia | omega))
  have v1 : t.val l = 1 := by rw [G.val l o1 o2, if_pos hm]
  have v2 : t.val (-l) = -1 := by
    rw [G.val (-l) (by (first | decide | assumption | (exact Nat.le_trans (by assumption) (by decide)) | lia | omega)) (by (first | decide | assumption | (exact Nat.le_trans (by assumption) (by decide)) | lia | omega)), Int.neg_neg, if_pos hm, if_neg (fun h => neg_not G.ndo (by (first | decide | assumption | (exact Nat.le_trans (by assumption) (by decide)) | lia | omega)) hm h)]
  have e2 := ev_value R l0 l14 (by (first | decide | assumption | (exact Nat.le_trans (by assumption) (by decide)) | lia | omega)) (by (first | decide | assumption | (exact Nat.le_trans (by assumption) (by decide)) | lia | omega))
  have e3 := ev_value R l0 (ev_neg l14) (by (first | decide | assumption | (exact Nat.le_trans (by assumption) (by decide)) | lia | omega)) (by (first | decide | assumption | (exact Nat.le_trans (by assumption) (by decide)) | lia | omega))
  rw [v1] at e2
  rw [v2] at e3
  have c1 := ev_cmpT (op := .NotEq) e1 l16 (show Mine.cmp .NotEq (.int i) (.int i) H = some false by simp [Mine.cmp, Mine.intC])
  have c2 := ev_cmpT (op := .NotEq) e2 (show D.const (.int 1) lo H = _ from rfl) (show Mine.cmp .NotEq (.int 1) (.int 1) H = some false from rfl)
  have c3 := ev_cmpT (op := .NotEq) e3 (show D.neg (D.const (.int 1)) lo H = _ from rfl) (show Mine.cmp .NotEq (.int (-1)) (.int (-1)) H = some false from rfl)
  unfold b1_law_is_looked_right
  rw [seq_skip, ev_ifF ((ev_orF c1).trans ((ev_orF c2).trans ((ev_orF c3).trans rfl)))]
  rfl

section
variable {n : Nat} {gone : Int} {t : T} {H : St}

theorem cOf_map {C : List (Option (Nat × List Int))} {ls : List (Option (List Int))} (hl : ls.length = C.length) (h : ∀ j : Nat, (C[j]?.join = none ↔ ls[j]?.join = none)) : (cOf C ls).map (·.map (·.2)) = ls := by
  refine List.ext_getElem? fun j => ?_
  have hj := h j
  simp only [cOf, List.getElem?_map, List.getElem?_zipWith]
  by_cases hlt : j < ls.length
  · rw [List.getElem?_eq_getElem hlt, List.getElem?_eq_getElem (hl ▸ hlt)] at *
    generalize C[j] = o at *
    generalize ls[j] = l at *
    cases o <;> cases l <;> simp_all
  · rw [List.getElem?_eq_none (by (first | decide | assumption | (exact Nat.le_trans (by assumption) (by decide)) | lia | omega))]
    rw [List.getElem?_eq_none (by (first | decide | assumption | (exact Nat.le_trans (by assumption) (by decide)) | lia | omega))]
    rfl

theorem rd_cls {t : T} {H : St} (R : Rep t H) : rd 8 H (.ref (t.r + 15)) = some (.list ((t.C.map (·.map (·.2))).map dC)) := by
  have := rd_refs (R.at' .cl _ rfl) fun p hp => by
    obtain ⟨j, hj, e⟩ := List.mem_iff_getElem.mp hp
    have hC : t.C[j]? = some (some p) := by rw [List.getElem?_eq_getElem hj, e]
    exact (R.at' _ _ (T.at_c hC)).trans (congrArg some (T.is_c hC))
  rw [this, List.map_map]; rfl
theorem rep_w {t : T} {H : St} (R : Rep t H) {p : Nat × List Int} (hp : p ∈ t.W) : H[p.1]? = some (il p.2) := by
  obtain ⟨j, hj, e⟩ := List.mem_iff_getElem.mp hp
  have hC : t.W[j]? = some (p.1, p.2) := by rw [List.getElem?_eq_getElem hj, e]
  exact (R.at' _ _ (T.at_w hC)).trans (congrArg some (T.is_w hC))
theorem rd_ws {t : T} {H : St} (R : Rep t H) : rd 8 H (.ref (t.r + 8)) = some (.list ((t.W.map (·.2)).map dInts)) := rd_refW (R.at' .ws _ rfl) fun p hp => rep_w R hp

structure Copies (t : T) (H H5 : St) (WA : List (Nat × List Int)) (wt : Nat) : Prop where
  up : ∀ (a : Nat) o, H[a]? = some o → H5[a]? = some o
  f7 : H5[H.length]? = some (il t.tr)
  f8 : H5[H.length + 1]? = some (il t.lv)
  f9 : H5[H.length + 2]? = some (il t.rs)
  f12 : H5[H.length + 3]? = some (il t.st)
  f13 : H5[wt]? = some (.list (WA.map refW))
  c1 : WA.map (·.2) = t.W.map (·.2)
  wa : ∀ p ∈ WA, H5[p.1]? = some (il p.2) ∧ H.length + 4 ≤ p.1 ∧ p.1 < wt
  lo : H.length + 4 ≤ wt
  len : H5.length = wt + 1
theorem look_copies (R1 : Rep t H) (Ln : Len t) (hW : t.W.length ≤ 1000) (hsh : ∀ p ∈ t.W, p.2.length ≤ 1000) (u1 u2 u3 u4 u5 u6 : Option MV) (K : DS) : ∃ (H5 : St) (WA : List (Nat × List Int)) (wt : Nat),
    D.seq (D.swap (D.tup [(D.bcall b.list [(D.attr 1 8 (D.loc 0))]), (D.bcall b.list [(D.attr 1 2 (D.loc 0))]), (D.bcall b.list [(D.attr 1 3 (D.loc 0))])]) [7, 8, 9])
      (D.seq (D.swap (D.tup [(D.meth 1 F_Trail_depth (D.loc 0) []), (D.attr 1 10 (D.loc 0)), (D.bcall b.list [(D.attr 1 9 (D.loc 0))])]) [10, 11, 12])
      (D.seq (D.assign (D.comp 17 1 (D.attr 1 6 (D.loc 0)) (D.tname 17) D.yes (D.bcall b.list [(D.loc 17)])) (D.tname 13)) K)) [some (.ref t.r), u1, u2, u3, u4, u5, u6, none, none, none, none, none, none, none, none, none, none] H =
      K [some (.ref t.r), u1, u2, u3, u4, u5, u6, some (.ref H.length), some (.ref (H.length + 1)), some (.ref (H.length + 2)), some (.int t.st.length), some (.int t.he), some (.ref (H.length + 3)), some (.ref wt), none, none, none] H5 ∧ Copies t H H5 WA wt := by
  generalize hL : ([some (.ref t.r), u1, u2, u3, u4, u5, u6, none, none, none, none, none, none, none, none, none, none] : Lo) = L
  have hLl : L.length = 17 := by rw [← hL]; rfl
  have l0 : ∀ H, D.loc 0 L H = some (.ref t.r, H) := fun H => by rw [← hL]; rfl
  have e7 := ev_list1 (f := D.attr 1 8 (D.loc 0)) (lo := L) (R1.attr rfl (l0 H) rfl) (R1.at' .tr _ rfl) (by have := Ln.tr; rw [List.length_map]; (first | decide | assumption | (exact Nat.le_trans (by assumption) (by decide)) | lia | omega))
  have RA1 : Rep t (H ++ [il t.tr]) := R1.app
  have e8 := ev_list1 (f := D.attr 1 2 (D.loc 0)) (lo := L) (RA1.attr rfl (l0 _) rfl) (RA1.at' .lv _ rfl) (by have := Ln.lv; have := Ln.as; rw [List.length_map]; (first | decide | assumption | (exact Nat.le_trans (by assumption) (by decide)) | lia | omega))
  have RA2 : Rep t ((H ++ [il t.tr]) ++ [il t.lv]) := RA1.app
  have e9 := ev_list1 (f := D.attr 1 3 (D.loc 0)) (lo := L) (RA2.attr rfl (l0 _) rfl) (RA2.at' .rs _ rfl) (by have := Ln.rs; have := Ln.as; rw [List.length_map]; (first | decide | assumption | (exact Nat.le_trans (by assumption) (by decide)) | lia | omega))
  have RA3 : Rep t (((H ++ [il t.tr]) ++ [il t.lv]) ++ [il t.rs]) := RA2.app
  have s2 := ev_swap3 (i := 7) (j := 8) (k := 9) e7 e8 e9 (by (first | decide | assumption | (exact Nat.le_trans (by assumption) (by decide)) | lia | omega)) (by (first | decide | assumption | (exact Nat.le_trans (by assumption) (by decide)) | lia | omega)) (by (first | decide | assumption | (exact Nat.le_trans (by assumption) (by decide)) | lia | omega))
  have h7 : (((H ++ [il t.tr]) ++ [il t.lv]) ++ [il t.rs])[H.length]? = some (il t.tr) := get_app (get_app get_end)
  have h8 : (((H ++ [il t.tr]) ++ [il t.lv]) ++ [il t.rs])[(H ++ [il t.tr]).length]? = some (il t.lv) := get_app get_end
  have h9 : (((H ++ [il t.tr]) ++ [il t.lv]) ++ [il t.rs])[((H ++ [il t.tr]) ++ [il t.lv]).length]? = some (il t.rs) := get_end
  have up3 : ∀ a o, H[a]? = some o → (((H ++ [il t.tr]) ++ [il t.lv]) ++ [il t.rs])[a]? = some o := fun a o h => get_app (get_app (get_app h))
  have n8 : (H ++ [il t.tr]).length = H.length + 1 := by simp
  have n9 : ((H ++ [il t.tr]) ++ [il t.lv]).length = H.length + 2 := by simp
  have n10 : (((H ++ [il t.tr]) ++ [il t.lv]) ++ [il t.rs]).length = H.length + 3 := by simp
  rw [n8] at h8 s2
  rw [n9] at h9 s2
  rw [← hL] at s2
  change D.swap _ _ _ _ = some (.next, [some (.ref t.r), u1, u2, u3, u4, u5, u6, some (.ref H.length), some (.ref (H.length + 1)), some (.ref (H.length + 2)), none, none, none, none, none, none, none], _) at s2
  rw [hL] at s2
  rw [seq_next s2]
  clear s2 e7 e8 e9 hL hLl l0
  generalize ((H ++ [il t.tr]) ++ [il t.lv]) ++ [il t.rs] = A3 at h7 h8 h9 up3 n10 RA3 ⊢
  clear n8 n9 RA1 RA2
  generalize hL : ([some (.ref t.r), u1, u2, u3, u4, u5, u6, some (.ref H.length), some (.ref (H.length + 1)), some (.ref (H.length + 2)), none, none, none, none, none, none, none] : Lo) = L
  have hLl : L.length = 17 := by rw [← hL]; rfl
  have l0 : ∀ H, D.loc 0 L H = some (.ref t.r, H) := fun H => by rw [← hL]; rfl
  have e10 := (ev_meth0 (F := F_Trail_depth) (f := D.loc 0) (l0 A3) (RA3.at' .obj _ rfl)).trans (depth_ok RA3 (by have := Ln.st; (first | decide | assumption | (exact Nat.le_trans (by assumption) (by decide)) | lia | omega)))
  have e11 : D.attr 1 10 (D.loc 0) L A3 = some (.int t.he, A3) := RA3.attr rfl (l0 _) rfl
  have e12 := ev_list1 (f := D.attr 1 9 (D.loc 0)) (lo := L) (RA3.attr rfl (l0 _) rfl) (RA3.at' .st _ rfl) (by have := Ln.st; rw [List.length_map]; (first | decide | assumption | (exact Nat.le_trans (by assumption) (by decide)) | lia | omega))
  have s3 := ev_swap3 (i := 10) (j := 11) (k := 12) e10 e11 e12 (by (first | decide | assumption | (exact Nat.le_trans (by assumption) (by decide)) | lia | omega)) (by (first | decide | assumption | (exact Nat.le_trans (by assumption) (by decide)) | lia | omega)) (by (first | decide | assumption | (exact Nat.le_trans (by assumption) (by decide)) | lia | omega))
  rw [n10, ← hL] at s3
  change D.swap _ _ _ _ = some (.next, [some (.ref t.r), u1, u2, u3, u4, u5, u6, some (.ref H.length), some (.ref (H.length + 1)), some (.ref (H.length + 2)), some (.int t.st.length), some (.int t.he), some (.ref (H.length + 3)), none, none, none, none], _) at s3
  rw [hL] at s3
  rw [seq_next s3]
  clear s3 e10 e11 e12 hL hLl l0
  have RA4 : Rep t (A3 ++ [il t.st]) := RA3.app
  have h12 : (A3 ++ [il t.st])[H.length + 3]? = some (il t.st) := by rw [← n10]; exact get_end
  have n11 : (A3 ++ [il t.st]).length = H.length + 4 := by simp [n10]
  have up4 : ∀ a o, A3[a]? = some o → (A3 ++ [il t.st])[a]? = some o := fun a o h => get_app h
  generalize A3 ++ [il t.st] = A4 at RA4 h12 n11 up4 ⊢
  generalize hL : ([some (.ref t.r), u1, u2, u3, u4, u5, u6, some (.ref H.length), some (.ref (H.length + 1)), some (.ref (H.length + 2)), some (.int t.st.length), some (.int t.he), some (.ref (H.length + 3)), none, none, none, none] : Lo) = L
  have hLl : L.length = 17 := by rw [← hL]; rfl
  have l0 : ∀ H, D.loc 0 L H = some (.ref t.r, H) := fun H => by rw [← hL]; rfl
  obtain ⟨WA, H2, e13, c1, c2, c3, c4, c5⟩ := ev_copiesW (f := D.attr 1 6 (D.loc 0)) (C := t.W) (q := 17) (lo := L) (RA4.attr rfl (l0 _) rfl) (RA4.at' .ws _ rfl) hLl hW (fun p hp => ⟨rep_w RA4 hp, hsh p hp⟩)
  rw [seq_next (ev_setname (i := 13) e13 (by (first | decide | assumption | (exact Nat.le_trans (by assumption) (by decide)) | lia | omega))), ← hL]
  have up5 : ∀ a o, A4[a]? = some o → (H2 ++ [MO.list (WA.map refW)])[a]? = some o := fun a o h => get_app (by rw [c4 a (List.getElem?_eq_some_iff.mp h).1]; exact h)
  refine ⟨_, WA, H2.length, rfl, ⟨fun a o h => up5 a o (up4 a o (up3 a o h)), up5 _ _ (up4 _ _ h7), up5 _ _ (up4 _ _ h8), up5 _ _ (up4 _ _ h9), up5 _ _ h12, get_end, c1, fun p hp => ⟨get_app (c5 p hp), ?_, (List.getElem?_eq_some_iff.mp (c5 p hp)).1⟩, by (first | decide | assumption | (exact Nat.le_trans (by assumption) (by decide)) | lia | omega), by simp⟩⟩
  have : p.1 ∈ WA.map (·.1) := List.mem_map_of_mem hp
  rw [c2] at this
  obtain ⟨i, _, e⟩ := List.mem_map.mp this
  (first | decide | assumption | (exact Nat.le_trans (by assumption) (by decide)) | lia | omega)

theorem look_count (R10 : Rep t H) (G' : Good n t) {lo11 : Lo} (z1 : lo11.length = 17) (z2 : lo11[0]? = some (some (.ref t.r))) : ∃ H', D.ret (D.cmp .Eq (D.bcall b.len [(D.comp 17 1 (D.bcall b.range [(D.const (.int 1)), (D.bin o.add (D.meth 1 F_Trail_var_count (D.loc 0) []) (D.const (.int 1)))]) (D.tname 17) (D.cmpT .NotEq (D.meth 1 F_Trail_value (D.loc 0) [(D.loc 17)]) (D.const (.int 0))) (D.loc 17))]) (D.bcall b.len [(D.attr 1 8 (D.loc 0))])) lo11 H = some (.ret (.bool true), lo11, H') ∧
    Rep t H' ∧ (∀ a, a < H.length → H'[a]? = H[a]?) ∧ H.length ≤ H'.length := by
  have m0 : ∀ H, D.loc 0 lo11 H = some (.ref t.r, H) := fun H => ev_loc z2
  have has := G'.as
  have hn1 := G'.n1
  have htl := G'.len.tr
  have ec : D.bcall b.range [(D.const (.int 1)), (D.bin o.add (D.meth 1 F_Trail_var_count (D.loc 0) []) (D.const (.int 1)))] lo11 H = some (.rng 1 (n + 1) 1, H) := by
    refine ev_range2 (x := 1) rfl ?_
    rw [ev_bin (((ev_meth0 (F := F_Trail_var_count) (m0 H) (R10.at' .obj _ rfl)).trans (vars_ok R10 (by (first | decide | assumption | (exact Nat.le_trans (by assumption) (by decide)) | lia | omega))))) (show D.const (.int 1) lo11 H = _ from rfl)]
    simp only [o.add, has]
    congr 3; (first | decide | assumption | (exact Nat.le_trans (by assumption) (by decide)) | lia | omega)
  have ecomp := ev_compR (f := D.bcall b.range [(D.const (.int 1)), (D.bin o.add (D.meth 1 F_Trail_var_count (D.loc 0) []) (D.const (.int 1)))]) (t := D.cmpT .NotEq (D.meth 1 F_Trail_value (D.loc 0) [(D.loc 17)]) (D.const (.int 0))) (e := D.loc 17) (lo := lo11) (H := H) (q := 17)
    (onI fun i => t.val i != 0) (fun v => v) ec (by (first | decide | assumption | (exact Nat.le_trans (by assumption) (by decide)) | lia | omega)) (by (first | decide | assumption | (exact Nat.le_trans (by assumption) (by decide)) | lia | omega)) (by (first | decide | assumption | (exact Nat.le_trans (by assumption) (by decide)) | lia | omega)) (by (first | decide | assumption | (exact Nat.le_trans (by assumption) (by decide)) | lia | omega)) z1
    (fun v hv => by
      obtain ⟨i, hi, rfl⟩ := List.mem_map.mp hv
      rw [List.mem_range] at hi
      exact ev_cmpT (x := .int (t.val (1 + i))) (y := .int 0) (ev_value R10 (ev_loc (by rw [List.getElem?_append_left (by (first | decide | assumption | (exact Nat.le_trans (by assumption) (by decide)) | lia | omega))]; exact z2)) (ev_loc (by rw [List.getElem?_append_right (by (first | decide | assumption | (exact Nat.le_trans (by assumption) (by decide)) | lia | omega)), z1]; rfl)) (by (first | decide | assumption | (exact Nat.le_trans (by assumption) (by decide)) | lia | omega)) (by (first | decide | assumption | (exact Nat.le_trans (by assumption) (by decide)) | lia | omega))) rfl rfl)
    (fun v hv _ => ev_loc (by rw [List.getElem?_append_right (by (first | decide | assumption | (exact Nat.le_trans (by assumption) (by decide)) | lia | omega)), z1]; rfl))
  have hcnt : ((((List.range ((n : Int) + 1 - 1).toNat).map fun i : Nat => MV.int (1 + i)).filter (onI fun i => t.val i != 0)).map fun v => v).length = t.tr.length := by
    rw [List.length_map, List.filter_map, List.length_map, ← count_vals (n := n) G'.one G'.ndo t.val G'.val]
    rw [show ((n : Int) + 1 - 1).toNat = n by (first | decide | assumption | (exact Nat.le_trans (by assumption) (by decide)) | lia | omega)]
    congr 1
    refine List.filter_congr fun i _ => ?_
    simp only [Function.comp, onI]
    rw [Int.add_comm 1 (i : Int)]
    by_cases h : t.val ((i : Int) + 1) = 0 <;> simp [h]
  generalize ((((List.range ((n : Int) + 1 - 1).toNat).map fun i : Nat => MV.int (1 + i)).filter (onI fun i => t.val i != 0)).map fun v => v) = l at ecomp hcnt
  have R12 := R10.app (L := [MO.list l])
  have e20 := ev_len ecomp get_end (by (first | decide | assumption | (exact Nat.le_trans (by assumption) (by decide)) | lia | omega))
  have e21 := ev_len (f := D.attr 1 8 (D.loc 0)) (lo := lo11) (R12.attr rfl (m0 _) rfl) (R12.at' .tr _ rfl) (by rw [List.length_map]; (first | decide | assumption | (exact Nat.le_trans (by assumption) (by decide)) | lia | omega))
  rw [hcnt] at e20
  rw [List.length_map] at e21
  refine ⟨_, ev_ret ?_, R12, fun a h => List.getElem?_append_left h, by rw [List.length_append]; (first | decide | assumption | (exact Nat.le_trans (by assumption) (by decide)) | lia | omega)⟩
  unfold D.cmp D.ofTest
  rw [ev_cmpT e20 e21 (show Mine.cmp .Eq (.int t.tr.length) (.int t.tr.length) _ = some true by simp [Mine.cmp, Mine.intC])]
  rfl

theorem look_levels (R : Rep t H) {lo : Lo} {a8 a9 a12 : Nat} {st : List Int} {he : Int} (h0 : lo[0]? = some (some (.ref t.r))) (h8 : lo[8]? = some (some (.ref a8))) (h9 : lo[9]? = some (some (.ref a9))) (h11 : lo[11]? = some (some (.int he))) (h12 : lo[12]? = some (some (.ref a12)))
    (v8 : H[a8]? = some (il t.lv)) (v9 : H[a9]? = some (il t.rs)) (k12 : H[a12]? = some (il st)) (hst : t.st = st) (hhe : t.he = he) :
    D.orT (D.cmpT .NotEq (D.attr 1 2 (D.loc 0)) (D.loc 8)) (D.orT (D.cmpT .NotEq (D.attr 1 3 (D.loc 0)) (D.loc 9)) (D.orT (D.cmpT .NotEq (D.tup [(D.attr 1 10 (D.loc 0)), (D.attr 1 9 (D.loc 0))]) (D.tup [(D.loc 11), (D.loc 12)])) D.ff)) lo H = some (false, H) := by
  have l0 : D.loc 0 lo H = some (.ref t.r, H) := ev_loc h0
  refine (ev_orF (ev_cmpT (f := D.attr 1 2 (D.loc 0)) (g := D.loc 8) (R.attr rfl l0 rfl) (ev_loc h8) (cmp_ne (rd_il (R.at' .lv _ rfl)) (rd_il v8) il_shaped))).trans ?_
  refine (ev_orF (ev_cmpT (f := D.attr 1 3 (D.loc 0)) (g := D.loc 9) (R.attr rfl l0 rfl) (ev_loc h9) (cmp_ne (rd_il (R.at' .rs _ rfl)) (rd_il v9) il_shaped))).trans ?_
  refine (ev_orF (ev_cmpT (ev_tup2 (f := D.attr 1 10 (D.loc 0)) (g := D.attr 1 9 (D.loc 0)) (R.attr rfl l0 rfl) (R.attr rfl l0 rfl)) (ev_tup2 (ev_loc h11) (ev_loc h12)) ?_)).trans rfl
  show (eqD H _ _).map not = _
  have d1 : rd 8 H (.tup [.int t.he, .ref t.sa]) = some (.tuple [.int he, dInts st]) := by
    have e : rd 7 H (.ref t.sa) = some (dInts st) := hst ▸ rd_il (R.at' .st _ rfl)
    unfold rd
    simp only [rdsW, e, hhe]; rfl
  have d2 : rd 8 H (.tup [.int he, .ref a12]) = some (.tuple [.int he, dInts st]) := by
    have e : rd 7 H (.ref a12) = some (dInts st) := rd_il k12
    unfold rd
    simp only [rdsW, e]; rfl
  rw [eqD_same d1 d2 (shaped_of (k := 2) ⟨by simp [PyData.canLay0, PyData.canLayAll0, (ints_shaped st).1], by have := (ints_shaped st).2; simp [PyData.depth, PyData.depthAll]; (first | decide | assumption | (exact Nat.le_trans (by assumption) (by decide)) | lia | omega)⟩ (by (first | decide | assumption | (exact Nat.le_trans (by assumption) (by decide)) | lia | omega)))]; rfl

theorem look_spots (R10 : Rep t H) (G' : Good n t) {lo : Lo} (z1 : lo.length = 17) (z2 : lo[0]? = some (some (.ref t.r))) : ∃ lo11, D.forE (D.attr 1 8 (D.loc 0)) (D.ttup [(D.tname 16), (D.tname 14)]) b1_law_is_looked_right lo H = some (.next, lo11, H) ∧ lo11.length = 17 ∧ lo11[0]? = some (some (.ref t.r)) := by
  have rule := forS_rule (src := srcE t.ta) (g := D.ttup [(D.tname 16), (D.tname 14)]) (b := b1_law_is_looked_right) (l := enumI t.tr)
    (fun i lo' H' => H' = H ∧ lo'.length = 17 ∧ lo'[0]? = some (some (.ref t.r))) (Q := fun lo' H' => H' = H ∧ lo'.length = 17 ∧ lo'[0]? = some (some (.ref t.r))) (R := fun _ _ _ => False)
    (fun i lo' H' ⟨h, _, _⟩ => by rw [h]; exact srcE_get (R10.at' .tr _ rfl))
    (fun i v lo' H' hv ⟨h1, h2, h3⟩ => by
      subst h1
      rw [enumI, List.getElem?_mapIdx] at hv
      obtain ⟨l, hl, rfl⟩ := Option.map_eq_some_iff.mp hv
      refine ⟨(lo'.set 16 (some (.int i))).set 14 (some (.int l)), H', by simp [D.ttup, D.assigns, D.tname, h2], ?_⟩
      have m0 : ((lo'.set 16 (some (.int i))).set 14 (some (.int l)))[0]? = some (some (.ref t.r)) := by rw [List.getElem?_set_ne (by (first | decide | assumption | (exact Nat.le_trans (by assumption) (by decide)) | lia | omega)), List.getElem?_set_ne (by (first | decide | assumption | (exact Nat.le_trans (by assumption) (by decide)) | lia | omega))]; exact h3
      rw [look_turn R10 G' (i := i) (l := l) m0 (by rw [List.getElem?_set_self (by simp; (first | decide | assumption | (exact Nat.le_trans (by assumption) (by decide)) | lia | omega))]) (by rw [List.getElem?_set_ne (by (first | decide | assumption | (exact Nat.le_trans (by assumption) (by decide)) | lia | omega)), List.getElem?_set_self (by (first | decide | assumption | (exact Nat.le_trans (by assumption) (by decide)) | lia | omega))]) hl]
      exact ⟨rfl, by simp [h2], m0⟩)
    (fun lo' H' h => h) (lo := lo) (H := H) ⟨rfl, z1, z2⟩
  obtain ⟨lo11, H11, s11', hH11, z1', z2'⟩ := rule.next
  rw [hH11] at s11'
  exact ⟨lo11, (ev_forE (R10.attr rfl (ev_loc z2) rfl) (R10.at' .tr _ rfl)).trans s11', z1', z2'⟩

theorem looked_ok (R : Rep t H) (G : Good n t) (hg : -gone ∈ t.tr) : ∃ t' H', F_law_is_looked_right [.ref t.r, .int gone] H = some (.bool true, H') ∧ Looked n t t' H H' := by
  obtain ⟨g1, g2⟩ := G.one _ hg
  have gn : 1 ≤ gone.natAbs ∧ gone.natAbs ≤ n := ⟨by (first | decide | assumption | (exact Nat.le_trans (by assumption) (by decide)) | lia | omega), by (first | decide | assumption | (exact Nat.le_trans (by assumption) (by decide)) | lia | omega)⟩
  obtain ⟨wa, nums, hw, -, -⟩ := G.wat gone gn.1 gn.2
  have hnums := G.short gn.1 gn.2 hw
  have F0 := G.fit hg hw
  have hn := G.as
  have hn1 := G.n1
  have hWl := G.W
  have hCl := G.C
  have Ln := G.len
  have N := noted_all hn F0 noted_init
  have hgs := fold_size (gone := gone) (todo := nums) (s := t.init)
  obtain ⟨ta, la, sa, ga, fa, H1, e1, V, Z⟩ := read_ok R F0 Ln hn hn1 (by (first | decide | assumption | (exact Nat.le_trans (by assumption) (by decide)) | lia | omega)) gn.1 gn.2 hw (by (first | decide | assumption | (exact Nat.le_trans (by assumption) (by decide)) | lia | omega)) (by (first | decide | assumption | (exact Nat.le_trans (by assumption) (by decide)) | lia | omega))
  generalize hs : nums.foldl (lstep gone) t.init = s at e1 V N hgs
  have hgs : s.goes.length ≤ 100 := by have : t.init.goes.length = 0 := rfl; (first | decide | assumption | (exact Nat.le_trans (by assumption) (by decide)) | lia | omega)
  have R1 : Rep t H1 := R.frame fun k a ha => V.old a (R.lt ha)
  have s1 : D.assign (D.call F_law_read [(D.loc 0), (D.loc 1)]) (D.ttup [(D.tname 2), (D.tname 3), (D.tname 4), (D.tname 5), (D.tname 6)]) [some (.ref t.r), some (.int gone), none, none, none, none, none, none, none, none, none, none, none, none, none, none, none] H =
      some (.next, qlo t.r gone s.told la sa ga fa [none, none, none, none, none, none, none, none, none, none], H1) := by
    unfold D.assign
    rw [ev_call2 (F := F_law_read) (g := D.loc 0) (h := D.loc 1) rfl rfl, e1]
    rfl
  obtain ⟨H5, WA, wt, s4, CO⟩ := look_copies R1 Ln (by (first | decide | assumption | (exact Nat.le_trans (by assumption) (by decide)) | lia | omega)) (fun p hp => by have := G.shorts hp; (first | decide | assumption | (exact Nat.le_trans (by assumption) (by decide)) | lia | omega)) (some (.int gone)) (some (.int s.told)) (some (.ref la)) (some (.ref sa)) (some (.ref ga)) (some (.ref fa))
    (D.seq (D.ifs (D.orT (D.cmpT .NotEq (D.meth 1 F_Trail_visit (D.loc 0) [(D.loc 1)]) (D.loc 2)) (D.orT (D.cmpT .NotEq (D.attr 1 12 (D.loc 0)) (D.loc 3)) D.ff)) (D.seq (D.ret (D.const (.bool false)))
  D.skip) D.skip)
  (D.seq (D.assign (D.loc 4) (D.tsub (D.loc 13) (D.call F_place_of [(D.loc 1)])))
  (D.seq (D.for (D.loc 5) (D.ttup [(D.tname 14), (D.tname 15)]) b3_law_is_looked_right)
  (D.seq (D.ifs (D.orT (D.cmpT .NotEq (D.attr 1 6 (D.loc 0)) (D.loc 13)) (D.orT (D.cmpT .NotEq (D.attr 1 8 (D.loc 0)) (D.bin o.add (D.loc 7) (D.comp 17 2 (D.loc 6) (D.ttup [(D.tname 17), (D.tname 18)]) D.yes (D.loc 17)))) D.ff)) (D.seq (D.ret (D.const (.bool false)))
  D.skip) D.skip)
  (D.seq (D.for (D.loc 6) (D.ttup [(D.tname 14), (D.tname 15)]) b2_law_is_looked_right)
  (D.seq (D.ifs (D.orT (D.cmpT .NotEq (D.attr 1 2 (D.loc 0)) (D.loc 8)) (D.orT (D.cmpT .NotEq (D.attr 1 3 (D.loc 0)) (D.loc 9)) (D.orT (D.cmpT .NotEq (D.tup [(D.attr 1 10 (D.loc 0)), (D.attr 1 9 (D.loc 0))]) (D.tup [(D.loc 11), (D.loc 12)])) D.ff))) (D.seq (D.ret (D.const (.bool false)))
  D.skip) D.skip)
  (D.seq (D.forE (D.attr 1 8 (D.loc 0)) (D.ttup [(D.tname 16), (D.tname 14)]) b1_law_is_looked_right)
  (D.seq (D.ret (D.cmp .Eq (D.bcall b.len [(D.comp 17 1 (D.bcall b.range [(D.const (.int 1)), (D.bin o.add (D.meth 1 F_Trail_var_count (D.loc 0) []) (D.const (.int 1)))]) (D.tname 17) (D.cmpT .NotEq (D.meth 1 F_Trail_value (D.loc 0) [(D.loc 17)]) (D.const (.int 0))) (D.loc 17))]) (D.bcall b.len [(D.attr 1 8 (D.loc 0))])))
  D.skip))))))))
  have up := CO.up
  have h2l := CO.lo
  have n13 := CO.len
  generalize hL : ([some (.ref t.r), some (.int gone), some (.int s.told), some (.ref la), some (.ref sa), some (.ref ga), some (.ref fa), some (.ref H1.length), some (.ref (H1.length + 1)), some (.ref (H1.length + 2)), some (.int t.st.length), some (.int t.he), some (.ref (H1.length + 3)), some (.ref wt), none, none, none] : Lo) = L at s4
  have hLl : L.length = 17 := by rw [← hL]; rfl
  have q0 : L[0]? = some (some (.ref t.r)) := by rw [← hL]; rfl
  have g1 : L[1]? = some (some (.int gone)) := by rw [← hL]; rfl
  have g2 : L[2]? = some (some (.int s.told)) := by rw [← hL]; rfl
  have g3 : L[3]? = some (some (.ref la)) := by rw [← hL]; rfl
  have g4 : L[4]? = some (some (.ref sa)) := by rw [← hL]; rfl
  have g5 : L[5]? = some (some (.ref ga)) := by rw [← hL]; rfl
  have g6 : L[6]? = some (some (.ref fa)) := by rw [← hL]; rfl
  have g7 : L[7]? = some (some (.ref H1.length)) := by rw [← hL]; rfl
  have g8 : L[8]? = some (some (.ref (H1.length + 1))) := by rw [← hL]; rfl
  have g9L : L[9]? = some (some (.ref (H1.length + 2))) := by rw [← hL]; rfl
  have g10 : L[10]? = some (some (.int t.st.length)) := by rw [← hL]; rfl
  have g11 : L[11]? = some (some (.int t.he)) := by rw [← hL]; rfl
  have g12 : L[12]? = some (some (.ref (H1.length + 3))) := by rw [← hL]; rfl
  have g13 : L[13]? = some (some (.ref wt)) := by rw [← hL]; rfl
  clear hL
  have R5 : Rep t H5 := R1.frame fun k a ha => by rw [R1.at' k a ha]; exact up _ _ (R1.at' k a ha)
  have hH1 : H.length ≤ H1.length := V.len
  have fsa := up _ _ V.stays
  have fga := up _ _ V.goes
  have ffa := up _ _ V.forced
  obtain ⟨LA, q1, q2, q3⟩ := V.lists
  have fla := up _ _ q1
  have fLA : ∀ p, some p ∈ LA → H5[p.1]? = some (il p.2) ∧ H.length ≤ p.1 := fun p hp => ⟨up _ _ (q3 p hp).1, (q3 p hp).2.2⟩
  have lt1 : ∀ {a o}, H1[a]? = some o → a < H1.length := fun h => (List.getElem?_eq_some_iff.mp h).1
  have zsa := lt1 V.stays
  have zga := lt1 V.goes
  have zfa := lt1 V.forced
  have zla := lt1 q1
  have hi := Z.hi
  simp only [List.mem_cons, List.not_mem_nil, or_false, forall_eq_or_imp, forall_eq] at hi
  obtain ⟨yta, yla, ysa, yga, yfa⟩ := hi
  have ynd := Z.nd
  simp only [List.nodup_cons, List.mem_cons, List.not_mem_nil, or_false, not_or, not_false_eq_true, List.nodup_nil, and_true] at ynd
  -- visit
  obtain ⟨H6, e14, R6, Fs, hlt6, out6⟩ := visit_ok R5 F0 Ln hn hn1 (by (first | decide | assumption | (exact Nat.le_trans (by assumption) (by decide)) | lia | omega)) gn.1 gn.2 hw (by (first | decide | assumption | (exact Nat.le_trans (by assumption) (by decide)) | lia | omega)) (by (first | decide | assumption | (exact Nat.le_trans (by assumption) (by decide)) | lia | omega)) (fun l h1 h2 => by
    obtain ⟨b, ns, e, -, -⟩ := G.wat l h1 h2
    exact ⟨b, ns, e, by have := G.short h1 h2 e; (first | decide | assumption | (exact Nat.le_trans (by assumption) (by decide)) | lia | omega)⟩)
  rw [hs] at e14 R6 Fs
  have G' := G.next hg hw H5.length hs Fs
  have hr : ((t.of s).newW (plc gone).toNat H5.length s.stays).r = t.r := enqs_keep.2.2.2.2.1
  have hst : ((t.of s).newW (plc gone).toNat H5.length s.stays).st = t.st := enqs_keep.2.2.2.1
  have hhe : ((t.of s).newW (plc gone).toNat H5.length s.stays).he = t.he := enqs_keep.2.2.2.2.2.2.2.1
  have htr : ((t.of s).newW (plc gone).toNat H5.length s.stays).tr = t.tr ++ s.forced.map (·.1) := Fs.tr.trans N.ones
  have hlv : ((t.of s).newW (plc gone).toNat H5.length s.stays).lv = s.forced.foldl (setLv t.st.length) t.lv := enqs_lv
  have hrs : ((t.of s).newW (plc gone).toNat H5.length s.stays).rs = s.forced.foldl setRs t.rs := enqs_rs
  have hC : ((t.of s).newW (plc gone).toNat H5.length s.stays).C.map (·.map (·.2)) = s.lists := cOf_map Fs.len Fs.same
  have hWW : ((t.of s).newW (plc gone).toNat H5.length s.stays).W.map (·.2) = s.goes.foldl addC ((t.W.map (·.2)).set (plc gone).toNat s.stays) := goes_addC fun q hq h => (N.goes q hq).1 (plc_nat h (N.goes q hq).2.1 gn.1)
  have hstay : s.stays.length ≤ 100 := by
    have hlt : (plc gone).toNat < (t.of s).W.length := by rw [of_W]; exact (List.getElem?_eq_some_iff.mp hw).1
    exact G'.short gn.1 gn.2 (b := H5.length) (List.getElem?_set_self hlt)
  have tat : ∀ k a, ((t.of s).newW (plc gone).toNat H5.length s.stays).at k = some a → (∃ k', t.at k' = some a) ∨ a = H5.length := fun k a h => by
    rcases newW_at h with h | h
    · rw [of_at Fs.len] at h; exact .inl ⟨k, h⟩
    · exact .inr h
  generalize (t.of s).newW (plc gone).toNat H5.length s.stays = t' at R6 G' hr hst hhe htr hlv hrs hC hWW tat
  have tlt : ∀ k a, t'.at k = some a → a < H.length ∨ a = H5.length := fun k a h => by
    rcases tat k a h with ⟨k', h'⟩ | h'
    · exact .inl (R.lt h')
    · exact .inr h'
  have low : ∀ a o, H.length ≤ a → H5[a]? = some o → H6[a]? = some o := fun a o h1 h => by rw [out6 a (T.at_lt R h1) (List.getElem?_eq_some_iff.mp h).1]; exact h
  have i13 := low _ _ (by (first | decide | assumption | (exact Nat.le_trans (by assumption) (by decide)) | lia | omega)) CO.f13
  have ila := low _ _ yla fla
  have hcond1 : D.orT (D.cmpT .NotEq (D.meth 1 F_Trail_visit (D.loc 0) [(D.loc 1)]) (D.loc 2)) (D.orT (D.cmpT .NotEq (D.attr 1 12 (D.loc 0)) (D.loc 3)) D.ff) L H5 = some (false, H6) := by
    refine (ev_orF (ev_cmpT (f := D.meth 1 F_Trail_visit (D.loc 0) [(D.loc 1)]) (g := D.loc 2) (x := .int s.told) (y := .int s.told) ((ev_meth1 (F := F_Trail_visit) (f := D.loc 0) (g := D.loc 1) (a := t.r) (v := .int gone) (ev_loc q0) (R5.at' .obj _ rfl) (ev_loc g1)).trans e14) (ev_loc g2) (by simp [Mine.cmp, Mine.intC]))).trans ?_
    refine (ev_orF (ev_cmpT (f := D.attr 1 12 (D.loc 0)) (g := D.loc 3) (y := .ref la) (R6.attr rfl (by rw [hr]; exact ev_loc q0) rfl) (ev_loc g3) (cmp_ne (rd_cls R6) ?_ refs_shaped))).trans rfl
    rw [hC, ← q2, List.map_map]
    exact rd_refs ila fun p hp => low _ _ (fLA p hp).2 (fLA p hp).1
  -- the law's own watch lists
  have epl : ∀ H', D.call F_place_of [D.loc 1] L H' = some (.int (plc gone), H') := fun H' => (ev_call1 (ev_loc g1)).trans (place_ok (by (first | decide | assumption | (exact Nat.le_trans (by assumption) (by decide)) | lia | omega)))
  have hp0 : 0 ≤ plc gone := by unfold plc; split <;> (first | decide | assumption | (exact Nat.le_trans (by assumption) (by decide)) | lia | omega)
  have hWAl : WA.length = t.W.length := by have := congrArg List.length CO.c1; simpa using this
  have s6 := ev_setsub (f := D.loc 4) (fa := D.loc 13) (fi := D.call F_place_of [(D.loc 1)]) (v := .ref sa) (ev_loc g4) (ev_loc g13) (epl H6) i13 hp0 (by rw [List.length_map, hWAl]; exact (List.getElem?_eq_some_iff.mp hw).1) (by rw [List.length_map]; (first | decide | assumption | (exact Nat.le_trans (by assumption) (by decide)) | lia | omega))
  have hset : (WA.map refW).set (plc gone).toNat (.ref sa) = (WA.set (plc gone).toNat (sa, s.stays)).map refW := by rw [List.map_set]
  rw [hset] at s6
  have R7 : Rep t' (H6.set wt (.list ((WA.set (plc gone).toNat (sa, s.stays)).map refW))) := R6.setOut (fun k h => by have := tlt k _ h; (first | decide | assumption | (exact Nat.le_trans (by assumption) (by decide)) | lia | omega)) _
  have k13 : (H6.set wt (.list ((WA.set (plc gone).toNat (sa, s.stays)).map refW)))[wt]? = some (.list ((WA.set (plc gone).toNat (sa, s.stays)).map refW)) := set_self i13
  have keep7 : ∀ a o, H.length ≤ a → a ≠ wt → H5[a]? = some o → (H6.set wt (.list ((WA.set (plc gone).toNat (sa, s.stays)).map refW)))[a]? = some o := fun a o h1 h2 h => set_keep (low a o h1 h) (Ne.symm h2)
  have old7 : ∀ a, (∀ k, t.at k ≠ some a) → a < H.length → (H6.set wt (.list ((WA.set (plc gone).toNat (sa, s.stays)).map refW)))[a]? = H[a]? := fun a h1 h2 => by
    rw [List.getElem?_set_ne (by (first | decide | assumption | (exact Nat.le_trans (by assumption) (by decide)) | lia | omega)), out6 a h1 (by (first | decide | assumption | (exact Nat.le_trans (by assumption) (by decide)) | lia | omega))]
    rw [← V.old a h2]
    have : a < H1.length := by (first | decide | assumption | (exact Nat.le_trans (by assumption) (by decide)) | lia | omega)
    rw [List.getElem?_eq_getElem this]
    exact up a _ (List.getElem?_eq_getElem this)
  have len7 : H6.length = (H6.set wt (.list ((WA.set (plc gone).toNat (sa, s.stays)).map refW))).length := by simp
  generalize H6.set wt (.list ((WA.set (plc gone).toNat (sa, s.stays)).map refW)) = H7 at s6 R7 k13 keep7 old7 len7
  have loop1 := goes_loop (H0 := H7) (wt := wt) (ga := ga) (h0 := 0) (goes := s.goes) (WA := WA.set (plc gone).toNat (sa, s.stays)) (L := L) hLl g13 (keep7 _ _ yga (by (first | decide | assumption | (exact Nat.le_trans (by assumption) (by decide)) | lia | omega)) fga) (by (first | decide | assumption | (exact Nat.le_trans (by assumption) (by decide)) | lia | omega)) k13
    (fun p hp => by
      rcases List.mem_or_eq_of_mem_set hp with h | h
      · obtain ⟨w1, w2, w3⟩ := CO.wa p h
        exact ⟨keep7 _ _ (by (first | decide | assumption | (exact Nat.le_trans (by assumption) (by decide)) | lia | omega)) (by (first | decide | assumption | (exact Nat.le_trans (by assumption) (by decide)) | lia | omega)) w1, by (first | decide | assumption | (exact Nat.le_trans (by assumption) (by decide)) | lia | omega)⟩
      · rw [h]; exact ⟨keep7 _ _ ysa (by (first | decide | assumption | (exact Nat.le_trans (by assumption) (by decide)) | lia | omega)) fsa, by show sa ≠ _; (first | decide | assumption | (exact Nat.le_trans (by assumption) (by decide)) | lia | omega)⟩)
    (fun q hq => ⟨by have := (N.goes q hq).2.2; (first | decide | assumption | (exact Nat.le_trans (by assumption) (by decide)) | lia | omega), by rw [List.length_set, hWAl, hWl]; have := plc_le (N.goes q hq).2.2; (first | decide | assumption | (exact Nat.le_trans (by assumption) (by decide)) | lia | omega)⟩)
    (fun p hp => by
      rcases List.mem_or_eq_of_mem_set hp with h | h
      · have : p.2 ∈ WA.map (·.2) := List.mem_map_of_mem h
        rw [CO.c1] at this
        obtain ⟨p', hp', e⟩ := List.mem_map.mp this
        have := G.shorts hp'
        rw [← e]; (first | decide | assumption | (exact Nat.le_trans (by assumption) (by decide)) | lia | omega)
      · rw [h]; show s.stays.length + _ ≤ _; (first | decide | assumption | (exact Nat.le_trans (by assumption) (by decide)) | lia | omega))
    (by rw [List.length_set]; (first | decide | assumption | (exact Nat.le_trans (by assumption) (by decide)) | lia | omega))
  obtain ⟨lo8, H8, s7', Ag, WB, GO⟩ := loop1.next
  have old8 := GO.old
  have len8 := GO.len
  have s7 : D.for (D.loc 5) (D.ttup [(D.tname 14), (D.tname 15)]) b3_law_is_looked_right L H7 = some (.next, lo8, H8) := by
    rw [ev_forList (r := ga) (ev_loc g5) (keep7 _ _ yga (by (first | decide | assumption | (exact Nat.le_trans (by assumption) (by decide)) | lia | omega)) fga), List.length_map]
    exact s7'
  have agl : ∀ {lo : Lo}, Agree L lo → ∀ (j : Nat) v, j < 14 → L[j]? = some (some v) → ∀ H, D.loc j lo H = some (v, H) := fun A j v hj h H => ev_loc (by rw [A.2 j (by (first | decide | assumption | (exact Nat.le_trans (by assumption) (by decide)) | lia | omega)) (by (first | decide | assumption | (exact Nat.le_trans (by assumption) (by decide)) | lia | omega)) (by (first | decide | assumption | (exact Nat.le_trans (by assumption) (by decide)) | lia | omega))]; exact h)
  have R8 : Rep t' H8 := R7.frame fun k a ha => old8 a (R7.lt ha) (fun e => by have := tlt k a ha; (first | decide | assumption | (exact Nat.le_trans (by assumption) (by decide)) | lia | omega))
  have keep8 : ∀ a o, H.length ≤ a → a ≠ wt → H5[a]? = some o → H8[a]? = some o := fun a o h1 h2 h => by
    have := keep7 a o h1 h2 h
    rw [old8 a (List.getElem?_eq_some_iff.mp this).1 h2]; exact this
  have hWB : WB.map (·.2) = t'.W.map (·.2) := by rw [GO.c, hWW, List.map_set, CO.c1]
  -- watches, trail
  have e17 : D.comp 17 2 (D.loc 6) (D.ttup [(D.tname 17), (D.tname 18)]) D.yes (D.loc 17) lo8 H8 = some (.ref H8.length, H8 ++ [.list (s.forced.map fun p => .int p.1)]) :=
    ev_comp2 (q := 17) (fun p => .int p.1) (agl Ag 6 (.ref fa) (by (first | decide | assumption | (exact Nat.le_trans (by assumption) (by decide)) | lia | omega)) g6 H8) (keep8 _ _ yfa (by (first | decide | assumption | (exact Nat.le_trans (by assumption) (by decide)) | lia | omega)) ffa) (Ag.1.trans hLl) (by have := V.b3; simp at this; (first | decide | assumption | (exact Nat.le_trans (by assumption) (by decide)) | lia | omega)) (fun p hp => ev_loc (by rw [List.getElem?_append_right (by rw [Ag.1, hLl]; exact Nat.le_refl _), Ag.1, hLl]; rfl))
  have hmm : (s.forced.map fun p => MV.int p.1) = (s.forced.map (·.1)).map .int := by rw [List.map_map]; rfl
  rw [hmm] at e17
  have k7 := get_app (L := [il (s.forced.map (·.1))]) (keep8 _ _ (by (first | decide | assumption | (exact Nat.le_trans (by assumption) (by decide)) | lia | omega)) (by (first | decide | assumption | (exact Nat.le_trans (by assumption) (by decide)) | lia | omega)) CO.f7)
  have e18 : D.bin o.add (D.loc 7) (D.comp 17 2 (D.loc 6) (D.ttup [(D.tname 17), (D.tname 18)]) D.yes (D.loc 17)) lo8 H8 = some (.ref (H8.length + 1), (H8 ++ [il (s.forced.map (·.1))]) ++ [il t'.tr]) := by
    rw [ev_bin (agl Ag 7 (.ref H1.length) (by (first | decide | assumption | (exact Nat.le_trans (by assumption) (by decide)) | lia | omega)) g7 H8) e17, ev_addL k7 get_end (by have := V.b3; have := Ln.tr; simp at *; (first | decide | assumption | (exact Nat.le_trans (by assumption) (by decide)) | lia | omega)), htr, ← List.map_append]
    simp
  have R9 : Rep t' ((H8 ++ [il (s.forced.map (·.1))]) ++ [il t'.tr]) := R8.app.app
  have g9 : ((H8 ++ [il (s.forced.map (·.1))]) ++ [il t'.tr])[H8.length + 1]? = some (il t'.tr) := by
    have : (H8 ++ [il (s.forced.map (·.1))]).length = H8.length + 1 := by simp
    rw [← this]; exact get_end
  have hcond2 : D.orT (D.cmpT .NotEq (D.attr 1 6 (D.loc 0)) (D.loc 13)) (D.orT (D.cmpT .NotEq (D.attr 1 8 (D.loc 0)) (D.bin o.add (D.loc 7) (D.comp 17 2 (D.loc 6) (D.ttup [(D.tname 17), (D.tname 18)]) D.yes (D.loc 17)))) D.ff) lo8 H8 = some (false, (H8 ++ [il (s.forced.map (·.1))]) ++ [il t'.tr]) := by
    refine (ev_orF (ev_cmpT (f := D.attr 1 6 (D.loc 0)) (g := D.loc 13) (R8.attr rfl (by rw [hr]; exact agl Ag 0 (.ref t.r) (by (first | decide | assumption | (exact Nat.le_trans (by assumption) (by decide)) | lia | omega)) q0 H8) rfl) (agl Ag 13 (.ref wt) (by (first | decide | assumption | (exact Nat.le_trans (by assumption) (by decide)) | lia | omega)) g13 H8) (cmp_ne (rd_ws R8) ?_ W_shaped))).trans ?_
    · rw [← hWB]; exact rd_refW GO.at' fun p hp => (GO.wb p hp).1
    · exact (ev_orF (ev_cmpT (f := D.attr 1 8 (D.loc 0)) (R8.attr rfl (by rw [hr]; exact agl Ag 0 (.ref t.r) (by (first | decide | assumption | (exact Nat.le_trans (by assumption) (by decide)) | lia | omega)) q0 H8) rfl) e18 (cmp_ne (rd_il (R9.at' .tr _ rfl)) (rd_il g9) il_shaped))).trans rfl
  have keep9 : ∀ a o, H.length ≤ a → a ≠ wt → H5[a]? = some o → ((H8 ++ [il (s.forced.map (·.1))]) ++ [il t'.tr])[a]? = some o := fun a o h1 h2 h => get_app (get_app (keep8 a o h1 h2 h))
  have old9 : ∀ a, (∀ k, t.at k ≠ some a) → a < H.length → ((H8 ++ [il (s.forced.map (·.1))]) ++ [il t'.tr])[a]? = H[a]? := fun a h1 h2 => by
    rw [List.getElem?_append_left (by simp; (first | decide | assumption | (exact Nat.le_trans (by assumption) (by decide)) | lia | omega)), List.getElem?_append_left (by (first | decide | assumption | (exact Nat.le_trans (by assumption) (by decide)) | lia | omega)), old8 a (by (first | decide | assumption | (exact Nat.le_trans (by assumption) (by decide)) | lia | omega)) (by (first | decide | assumption | (exact Nat.le_trans (by assumption) (by decide)) | lia | omega)), old7 a h1 h2]
  have len9 : H8.length ≤ ((H8 ++ [il (s.forced.map (·.1))]) ++ [il t'.tr]).length := by simp
  generalize (H8 ++ [il (s.forced.map (·.1))]) ++ [il t'.tr] = H9 at hcond2 R9 keep9 old9 len9
  -- levels and reasons
  have loop2 := forced_loop (L := lo8) (H0 := H9) (fa := fa) (a8 := H1.length + 1) (a9 := H1.length + 2) (fs := s.forced) (lv := t.lv) (rs := t.rs) (dep := t.st.length) (Ag.1.trans hLl)
    (by rw [Ag.2 8 (by (first | decide | assumption | (exact Nat.le_trans (by assumption) (by decide)) | lia | omega)) (by (first | decide | assumption | (exact Nat.le_trans (by assumption) (by decide)) | lia | omega)) (by (first | decide | assumption | (exact Nat.le_trans (by assumption) (by decide)) | lia | omega))]; exact g8) (by rw [Ag.2 9 (by (first | decide | assumption | (exact Nat.le_trans (by assumption) (by decide)) | lia | omega)) (by (first | decide | assumption | (exact Nat.le_trans (by assumption) (by decide)) | lia | omega)) (by (first | decide | assumption | (exact Nat.le_trans (by assumption) (by decide)) | lia | omega))]; exact g9L) (by rw [Ag.2 10 (by (first | decide | assumption | (exact Nat.le_trans (by assumption) (by decide)) | lia | omega)) (by (first | decide | assumption | (exact Nat.le_trans (by assumption) (by decide)) | lia | omega)) (by (first | decide | assumption | (exact Nat.le_trans (by assumption) (by decide)) | lia | omega))]; exact g10)
    (keep9 _ _ yfa (by (first | decide | assumption | (exact Nat.le_trans (by assumption) (by decide)) | lia | omega)) ffa) (by (first | decide | assumption | (exact Nat.le_trans (by assumption) (by decide)) | lia | omega)) (by (first | decide | assumption | (exact Nat.le_trans (by assumption) (by decide)) | lia | omega)) (by (first | decide | assumption | (exact Nat.le_trans (by assumption) (by decide)) | lia | omega)) (keep9 _ _ (by (first | decide | assumption | (exact Nat.le_trans (by assumption) (by decide)) | lia | omega)) (by (first | decide | assumption | (exact Nat.le_trans (by assumption) (by decide)) | lia | omega)) CO.f8) (keep9 _ _ (by (first | decide | assumption | (exact Nat.le_trans (by assumption) (by decide)) | lia | omega)) (by (first | decide | assumption | (exact Nat.le_trans (by assumption) (by decide)) | lia | omega)) CO.f9)
    (fun q hq => by have := (N.forced q hq).2; rw [Ln.lv, Ln.rs]; (first | decide | assumption | (exact Nat.le_trans (by assumption) (by decide)) | lia | omega)) (by rw [Ln.lv]; (first | decide | assumption | (exact Nat.le_trans (by assumption) (by decide)) | lia | omega)) (by rw [Ln.rs]; (first | decide | assumption | (exact Nat.le_trans (by assumption) (by decide)) | lia | omega))
  obtain ⟨lo10, H10, s9', Ag2, FO⟩ := loop2.next
  have v8 := FO.lv
  have v9 := FO.rs
  have old10 := FO.old
  have len10 := FO.len
  have s9 : D.for (D.loc 6) (D.ttup [(D.tname 14), (D.tname 15)]) b2_law_is_looked_right lo8 H9 = some (.next, lo10, H10) := by
    rw [ev_forList (r := fa) (agl Ag 6 (.ref fa) (by (first | decide | assumption | (exact Nat.le_trans (by assumption) (by decide)) | lia | omega)) g6 H9) (keep9 _ _ yfa (by (first | decide | assumption | (exact Nat.le_trans (by assumption) (by decide)) | lia | omega)) ffa), List.length_map]
    exact s9'
  have Ag3 : Agree L lo10 := ⟨Ag2.1.trans Ag.1, fun j h1 h2 h3 => (Ag2.2 j h1 h2 h3).trans (Ag.2 j h1 h2 h3)⟩
  have R10 : Rep t' H10 := R9.frame fun k a ha => old10 a (fun e => by have := tlt k a ha; (first | decide | assumption | (exact Nat.le_trans (by assumption) (by decide)) | lia | omega)) (fun e => by have := tlt k a ha; (first | decide | assumption | (exact Nat.le_trans (by assumption) (by decide)) | lia | omega))
  have k12 : H10[H1.length + 3]? = some (il t.st) := by rw [old10 _ (by (first | decide | assumption | (exact Nat.le_trans (by assumption) (by decide)) | lia | omega)) (by (first | decide | assumption | (exact Nat.le_trans (by assumption) (by decide)) | lia | omega))]; exact keep9 _ _ (by (first | decide | assumption | (exact Nat.le_trans (by assumption) (by decide)) | lia | omega)) (by (first | decide | assumption | (exact Nat.le_trans (by assumption) (by decide)) | lia | omega)) CO.f12
  rw [← hlv] at v8
  rw [← hrs] at v9
  have hcond3 := look_levels R10 (lo := lo10) (by rw [hr, Ag3.2 0 (by (first | decide | assumption | (exact Nat.le_trans (by assumption) (by decide)) | lia | omega)) (by (first | decide | assumption | (exact Nat.le_trans (by assumption) (by decide)) | lia | omega)) (by (first | decide | assumption | (exact Nat.le_trans (by assumption) (by decide)) | lia | omega))]; exact q0) (by rw [Ag3.2 8 (by (first | decide | assumption | (exact Nat.le_trans (by assumption) (by decide)) | lia | omega)) (by (first | decide | assumption | (exact Nat.le_trans (by assumption) (by decide)) | lia | omega)) (by (first | decide | assumption | (exact Nat.le_trans (by assumption) (by decide)) | lia | omega))]; exact g8) (by rw [Ag3.2 9 (by (first | decide | assumption | (exact Nat.le_trans (by assumption) (by decide)) | lia | omega)) (by (first | decide | assumption | (exact Nat.le_trans (by assumption) (by decide)) | lia | omega)) (by (first | decide | assumption | (exact Nat.le_trans (by assumption) (by decide)) | lia | omega))]; exact g9L) (by rw [Ag3.2 11 (by (first | decide | assumption | (exact Nat.le_trans (by assumption) (by decide)) | lia | omega)) (by (first | decide | assumption | (exact Nat.le_trans (by assumption) (by decide)) | lia | omega)) (by (first | decide | assumption | (exact Nat.le_trans (by assumption) (by decide)) | lia | omega))]; exact g11) (by rw [Ag3.2 12 (by (first | decide | assumption | (exact Nat.le_trans (by assumption) (by decide)) | lia | omega)) (by (first | decide | assumption | (exact Nat.le_trans (by assumption) (by decide)) | lia | omega)) (by (first | decide | assumption | (exact Nat.le_trans (by assumption) (by decide)) | lia | omega))]; exact g12) v8 v9 k12 hst hhe
  obtain ⟨lo11, s11, z1, z2⟩ := look_spots R10 G' (Ag3.1.trans hLl) (by rw [hr, Ag3.2 0 (by (first | decide | assumption | (exact Nat.le_trans (by assumption) (by decide)) | lia | omega)) (by (first | decide | assumption | (exact Nat.le_trans (by assumption) (by decide)) | lia | omega)) (by (first | decide | assumption | (exact Nat.le_trans (by assumption) (by decide)) | lia | omega))]; exact q0)
  obtain ⟨H12, s12, R12, old12, len12⟩ := look_count R10 G' z1 z2
  refine ⟨t', H12, fn_ret rfl (lo' := lo11) ?_, R12, G', hr, ⟨_, htr.symm⟩, by (first | decide | assumption | (exact Nat.le_trans (by assumption) (by decide)) | lia | omega), fun a h1 h2 => ?_, fun k a h => ?_⟩
  · unfold d_law_is_looked_right
    show D.seq _ _ [some (.ref t.r), some (.int gone), none, none, none, none, none, none, none, none, none, none, none, none, none, none, none] H = _
    rw [seq_next s1, s4, seq_next ((ev_ifF hcond1).trans rfl), seq_next s6, seq_next s7, seq_next ((ev_ifF hcond2).trans rfl), seq_next s9, seq_next ((ev_ifF hcond3).trans rfl), seq_next s11, seq_ret s12]
  · rw [old12 a (by (first | decide | assumption | (exact Nat.le_trans (by assumption) (by decide)) | lia | omega)), old10 a (by (first | decide | assumption | (exact Nat.le_trans (by assumption) (by decide)) | lia | omega)) (by (first | decide | assumption | (exact Nat.le_trans (by assumption) (by decide)) | lia | omega)), old9 a h1 h2]
  · rcases tat k a h with h' | h'
    · exact .inl h'
    · right; (first | decide | assumption | (exact Nat.le_trans (by assumption) (by decide)) | lia | omega)
end
end Mine
namespace Mine

noncomputable def reps (n : Nat) (x : Int) : MO := il (List.replicate n x)
noncomputable def born (n : Nat) : St := [.obj 1 [.none, .ref 4, .ref 5, .ref 6, .ref 7, .ref 8, .ref 11, .ref 12, .ref 16, .ref 17, .int 0, .int 0, .ref 18, .ref 19, .ref 20, .ref 21, .int 0],
  reps (n + 1) 0, reps (n + 1) 0, reps (n + 1) (-1), reps (n + 1) 0, reps (n + 1) (-1), .list [], .list [], .list ([9, 10] ++ (List.range (2 * n)).map (22 + ·) |>.map MV.ref),
  .obj 0 [.int 1000000000000, .int 1024, .ref 13, .ref 14, .ref 15], reps (n + 1) 0, il ((List.range n).map fun i : Nat => (i : Int) + 1), il (-1 :: (List.range n).map fun i : Nat => (i : Int)),
  .list [], .list [], .list [], .list [], .list [], .list []] ++ List.replicate (2 * n) (.list [])

theorem made (o0 o1 o2 : MO) : M_Trail [.none] [o0, o1, o2] = some (.ref 3, [o0, o1, o2] ++ born 0) := by kernel_rfl
theorem grown4 (o0 o1 o2 : MO) (u3 u4 : Option MV) : D.forV (D.tname 2) b3_law_core (rangeItems 0 4 1) [some (.ref 2), some (.ref 3), none, u3, u4] ([o0, o1, o2] ++ born 0) = some (.next, [some (.ref 2), some (.ref 3), some (.int 3), u3, u4], [o0, o1, o2] ++ born 4) := by kernel_rfl
theorem grown5 (o0 o1 o2 : MO) (u3 u4 : Option MV) : D.forV (D.tname 2) b3_law_core (rangeItems 0 5 1) [some (.ref 2), some (.ref 3), none, u3, u4] ([o0, o1, o2] ++ born 0) = some (.next, [some (.ref 2), some (.ref 3), some (.int 4), u3, u4], [o0, o1, o2] ++ born 5) := by kernel_rfl
theorem grown6 (o0 o1 o2 : MO) (u3 u4 : Option MV) : D.forV (D.tname 2) b3_law_core (rangeItems 0 6 1) [some (.ref 2), some (.ref 3), none, u3, u4] ([o0, o1, o2] ++ born 0) = some (.next, [some (.ref 2), some (.ref 3), some (.int 5), u3, u4], [o0, o1, o2] ++ born 6) := by kernel_rfl
end Mine
namespace Mine

structure Reel (cells : List Int) (sp : Nat) (H : St) : Prop where
  held : H[1]? = some (il cells)
  reel : H[2]? = some (.obj 2 [.ref 1, .int sp])
  pos : ∀ c ∈ cells, 0 ≤ c
  len : cells.length ≤ 60

theorem next_ok {cells : List Int} {sp : Nat} {H : St} (L : Reel cells sp H) (hs : sp ≤ 100000) {m : Int} (hm : 0 < m) :
    ∃ x, F_law_next [.ref 2, .int m] H = some (.int x, H.set 2 (.obj 2 [.ref 1, .int ((sp + 1 : Nat) : Int)])) ∧ 0 ≤ x ∧ x < m ∧ Reel cells (sp + 1) (H.set 2 (.obj 2 [.ref 1, .int ((sp + 1 : Nat) : Int)])) := by
  have L' : Reel cells (sp + 1) (H.set 2 (.obj 2 [.ref 1, .int ((sp + 1 : Nat) : Int)])) := ⟨set_keep L.held (by (first | lia | omega)), set_self L.reel, L.pos, L.len⟩
  generalize hH1 : H.set 2 (.obj 2 [.ref 1, .int ((sp + 1 : Nat) : Int)]) = H1 at L'
  have hmz : (m == 0) = false := by simp; (first | lia | omega)
  have key : ∀ v : Int, 0 ≤ v.fmod m ∧ v.fmod m < m := fun v => ⟨Int.fmod_nonneg_of_pos v hm, Int.fmod_lt_of_pos v hm⟩
  have run : ∀ v : Int, D.ite (D.cmpT .Lt (D.loc 2) (D.bcall b.len [(D.key 2 0 (D.loc 0))])) (D.sub (D.key 2 0 (D.loc 0)) (D.loc 2)) (D.bin o.add (D.bin o.add (D.bin o.mul (D.bin o.mul (D.const (.int 3)) (D.loc 2)) (D.loc 2)) (D.bin o.mul (D.const (.int 8)) (D.loc 2))) (D.const (.int 2))) [some (.ref 2), some (.int m), some (.int sp)] H1 = some (.int v, H1) →
      F_law_next [.ref 2, .int m] H = some (.int (v.fmod m), H1) := fun v h => by
    refine fn_ret (lo' := [some (.ref 2), some (.int m), some (.int sp)]) rfl ?_
    unfold d_law_next
    have e1 : D.key 2 1 (D.loc 0) [some (.ref 2), some (.int m), none] H = some (.int sp, H) := by simp [D.key, D.loc, getK, L.reel]
    show D.seq _ _ [some (.ref 2), some (.int m), none] H = _
    rw [seq_next (ev_setname e1 (by simp))]
    have e2 : D.assign (D.bin o.add (D.loc 2) (D.const (.int 1))) (D.tkey 2 1 (D.loc 0)) [some (.ref 2), some (.int m), some (.int sp)] H = some (.next, [some (.ref 2), some (.int m), some (.int sp)], H1) := by
      unfold D.assign D.tkey
      have hr := L.reel
      rw [← hH1]
      simp [D.bin, D.loc, D.const, o.add, setK, hr]
    show D.seq _ _ [some (.ref 2), some (.int m), some (.int sp)] H = _
    rw [seq_next e2, seq_skip]
    refine ev_ret ?_
    rw [ev_bin h (show D.loc 1 [some (.ref 2), some (.int m), some (.int sp)] H1 = some (.int m, H1) from rfl)]
    simp [o.mod, hmz]
  have hk : D.key 2 0 (D.loc 0) [some (.ref 2), some (.int m), some (.int sp)] H1 = some (.ref 1, H1) := by simp [D.key, D.loc, getK, L'.reel]
  have hlen := ev_len hk L'.held (by rw [List.length_map]; have := L.len; (first | lia | omega))
  rw [List.length_map] at hlen
  have hc := ev_cmpT (op := .Lt) (f := D.loc 2) (g := D.bcall b.len [(D.key 2 0 (D.loc 0))]) (x := .int sp) (y := .int cells.length) rfl hlen rfl
  have : ∃ v : Int, D.ite (D.cmpT .Lt (D.loc 2) (D.bcall b.len [(D.key 2 0 (D.loc 0))])) (D.sub (D.key 2 0 (D.loc 0)) (D.loc 2)) (D.bin o.add (D.bin o.add (D.bin o.mul (D.bin o.mul (D.const (.int 3)) (D.loc 2)) (D.loc 2)) (D.bin o.mul (D.const (.int 8)) (D.loc 2))) (D.const (.int 2))) [some (.ref 2), some (.int m), some (.int sp)] H1 = some (.int v, H1) := by
    rw [ev_ite hc]
    by_cases h : (sp : Int) < cells.length
    · have h' : sp < cells.length := by (first | lia | omega)
      refine ⟨cells[sp], ?_⟩
      simp only [h, decide_true, if_true]
      exact ev_item hk rfl L'.held (by (first | lia | omega)) (by rw [Int.toNat_natCast]; exact List.getElem?_eq_getElem h') (by have := L.len; (first | lia | omega))
    · refine ⟨3 * sp * sp + 8 * sp + 2, ?_⟩
      simp only [h, decide_false, Bool.false_eq_true, if_false]
      have l2 : D.loc 2 [some (.ref 2), some (.int m), some (.int sp)] H1 = some (.int sp, H1) := rfl
      exact ev_add (ev_add (ev_mul (ev_mul (x := 3) rfl l2 (smallI_of (by (first | lia | omega)) (by (first | lia | omega)))) l2 (smallI_of (by (first | lia | omega)) (by (first | lia | omega)))) (ev_mul (x := 8) rfl l2 (smallI_of (by (first | lia | omega)) (by (first | lia | omega))))) rfl
  obtain ⟨v, hv⟩ := this
  exact ⟨v.fmod m, run v hv, (key v).1, (key v).2, L'⟩

noncomputable def tz (n : Nat) : T := { r := 3, as := List.replicate (n + 1) 0, lv := List.replicate (n + 1) 0, rs := List.replicate (n + 1) (-1), sp := List.replicate (n + 1) 0, ph := List.replicate (n + 1) (-1), ta := 16, tr := [], sa := 17, st := [], he := 0, to := 0, W := ([9, 10] ++ (List.range (2 * n)).map (22 + ·)).map fun a => (a, []), C := [], x1 := [], x2 := [], x3 := [] }
theorem tz_w {n i a : Nat} {l : List Int} (h : (tz n).W[i]? = some (a, l)) : l = [] ∧ ((i = 0 ∧ a = 9) ∨ (i = 1 ∧ a = 10) ∨ (2 ≤ i ∧ i < 2 * n + 2 ∧ a = i + 20)) := by
  have h' : (([9, 10] ++ (List.range (2 * n)).map (22 + ·)).map fun a => (a, ([] : List Int)))[i]? = some (a, l) := h
  rw [List.getElem?_map] at h'
  obtain ⟨b, hb, e⟩ := Option.map_eq_some_iff.mp h'
  cases e
  refine ⟨rfl, ?_⟩
  match i, hb with
  | 0, hb => cases hb; exact .inl ⟨rfl, rfl⟩
  | 1, hb => cases hb; exact .inr (.inl ⟨rfl, rfl⟩)
  | i + 2, hb =>
    have hb' : ((List.range (2 * n)).map (22 + ·))[i]? = some a := hb
    rw [List.getElem?_map] at hb'
    obtain ⟨c, hc, e⟩ := Option.map_eq_some_iff.mp hb'
    have hi := (List.getElem?_eq_some_iff.mp hc).1
    rw [List.getElem?_eq_getElem hi] at hc
    simp at hc hi
    exact .inr (.inr ⟨by (first | lia | omega), by (first | lia | omega), by (first | lia | omega)⟩)

noncomputable def kd : Nat → Kd
  | 3 => .obj | 4 => .as | 5 => .lv | 6 => .rs | 7 => .sp | 8 => .ph | 9 => .w 0 | 10 => .w 1 | 11 => .ws | 16 => .tr | 17 => .st | 18 => .cl | 19 => .x1 | 20 => .x2 | 21 => .x3
  | a => .w (a - 20)
theorem tz_kd {n a : Nat} : ∀ {k : Kd}, (tz n).at k = some a → kd a = k := by
  intro k h
  cases k <;> try (cases h; rfl)
  · rename_i i
    obtain ⟨⟨b, l⟩, hb, e⟩ := Option.map_eq_some_iff.mp (show ((tz n).W[i]?).map (·.1) = some a from h)
    cases e
    obtain ⟨-, ⟨rfl, h2⟩ | ⟨rfl, h2⟩ | ⟨h1, h2, h3⟩⟩ := tz_w hb
    · subst h2; rfl
    · subst h2; rfl
    · subst h3
      obtain ⟨j, rfl⟩ : ∃ j, i = j + 2 := ⟨i - 2, by (first | lia | omega)⟩
      rfl
  · rename_i j
    have h' : ((([] : List (Option (Nat × List Int)))[j]?.join).map (·.1)) = some a := h
    simp at h'
theorem tz_rep {n : Nat} (o0 o1 o2 : MO) : Rep (tz n) ([o0, o1, o2] ++ born n) := by
  refine ⟨fun k a h => ?_, fun k k' a h1 h2 => (tz_kd h1).symm.trans (tz_kd h2)⟩
  cases k <;> try (cases h; rfl)
  · cases h
    show some _ = some (MO.list (((([9, 10] ++ (List.range (2 * n)).map (22 + ·)).map fun a => (a, ([] : List Int))).map fun p : Nat × List Int => MV.ref p.1)))
    rw [List.map_map]; rfl
  · rename_i i
    obtain ⟨⟨b, l⟩, hb, e⟩ := Option.map_eq_some_iff.mp (show ((tz n).W[i]?).map (·.1) = some a from h)
    cases e
    rw [T.is_w hb]
    obtain ⟨rfl, ⟨rfl, h2⟩ | ⟨rfl, h2⟩ | ⟨h1, h2, h3⟩⟩ := tz_w hb
    · subst h2; rfl
    · subst h2; rfl
    · subst h3
      obtain ⟨j, rfl⟩ : ∃ j, i = j + 2 := ⟨i - 2, by (first | lia | omega)⟩
      show (List.replicate (2 * n) (MO.list []))[j]? = _
      rw [List.getElem?_replicate, if_pos (by (first | lia | omega))]; rfl
  · rename_i j
    have h' : ((([] : List (Option (Nat × List Int)))[j]?.join).map (·.1)) = some a := h
    simp at h'

theorem tz_good {n : Nat} (hn : n ≤ 50) : Good n (tz n) := by
  have hv : ∀ l : Int, (tz n).val l = 0 := fun l => by
    have : (List.replicate (n + 1) (0 : Int)).getD l.natAbs 0 = 0 := by
      rw [List.getD_eq_getElem?_getD, List.getElem?_replicate]; split <;> rfl
    unfold T.val tz
    simp only [this]; split <;> rfl
  have hl : ∀ l : Int, ∃ b ns, 1 ≤ l.natAbs → l.natAbs ≤ n → (tz n).W[(plc l).toNat]? = some (b, ns) := fun l => by
    by_cases h : (plc l).toNat < (tz n).W.length
    · exact ⟨_, _, fun _ _ => List.getElem?_eq_getElem h⟩
    · exact ⟨0, [], fun h1 h2 => absurd (by have := plc_le h2; simp [tz]; (first | lia | omega)) h⟩
  refine ⟨by simp [tz], hn, ⟨by simp [tz], by simp [tz], by simp [tz], by simp [tz]; (first | lia | omega), by simp [tz], by simp [tz]⟩, by simp [tz], by simp [tz], fun l _ _ => by rw [hv]; rfl, fun l h => (nomatch h), List.nodup_nil, fun i l h => by simp [tz] at h, fun j a c h => by simp [tz] at h, fun l h1 h2 => ?_, fun i hi => ?_⟩
  · obtain ⟨b, ns, h⟩ := hl l
    obtain ⟨rfl, -⟩ := tz_w (h h1 h2)
    exact ⟨b, [], h h1 h2, List.nodup_nil, fun x hx => nomatch hx⟩
  · match i, hi with
    | 0, _ => exact ⟨9, rfl⟩
    | 1, _ => exact ⟨10, rfl⟩

theorem Good.enq {n : Nat} {t : T} (G : Good n t) {o num : Int} (h1 : 1 ≤ o.natAbs) (h2 : o.natAbs ≤ n) (h3 : o.natAbs ∉ t.tr.map Int.natAbs) : Good n (t.enq o num) := by
  have has := G.as
  have nd : ((t.tr ++ [o]).map Int.natAbs).Nodup := by
    rw [List.map_append, List.nodup_append]
    refine ⟨G.ndo, by simp, fun a ha b hb e => ?_⟩
    simp at hb
    subst hb; subst e
    exact h3 ha
  have one : ∀ l ∈ t.tr ++ [o], 1 ≤ l.natAbs ∧ l.natAbs ≤ n := fun l hl => by
    rcases List.mem_append.mp hl with q | q
    · exact G.one l q
    · rw [List.mem_singleton.mp q]; exact ⟨h1, h2⟩
  have hlen : (t.tr ++ [o]).length ≤ n := by
    have := nodup_le (n := n) nd fun x hx => by
      obtain ⟨l, hl, rfl⟩ := List.mem_map.mp hx
      exact one l hl
    rwa [List.length_map] at this
  refine ⟨by simp [T.enq, has], G.n1, ⟨by simp [T.enq, G.len.lv], by simp [T.enq, G.len.rs], by simp [T.enq, G.len.sp], by simp [T.enq, G.len.as], ?_, G.len.st⟩, G.W, G.C, fun l a1 a2 => ?_, one, nd, G.sp.enq (by rw [G.len.sp]; (first | lia | omega)) h3, G.good, G.wat, G.w01⟩
  · have := G.n1
    show (t.tr ++ [o]).length ≤ 100
    (first | lia | omega)
  · rw [val_enq h1 (by (first | lia | omega)) a1]
    show _ = if l ∈ t.tr ++ [o] then 1 else if -l ∈ t.tr ++ [o] then -1 else 0
    have n1 : o ∉ t.tr := fun h => h3 (List.mem_map_of_mem h)
    have n2 : -o ∉ t.tr := fun h => h3 (by have := List.mem_map_of_mem (f := Int.natAbs) h; simpa using this)
    by_cases e1 : l = o
    · rw [if_pos e1, if_pos (List.mem_append_right _ (by rw [e1]; exact .head _))]
    · by_cases e2 : l = -o
      · rw [if_neg e1, if_pos e2, if_neg (fun hm => ?_), if_pos (List.mem_append_right _ (by rw [e2, Int.neg_neg]; exact .head _))]
        rcases List.mem_append.mp hm with q | q
        · exact n2 (e2 ▸ q)
        · exact e1 (List.mem_singleton.mp q)
      · rw [if_neg e1, if_neg e2, G.val l a1 a2]
        have m1 : l ∈ t.tr ++ [o] ↔ l ∈ t.tr := ⟨fun hm => (List.mem_append.mp hm).resolve_right fun q => e1 (List.mem_singleton.mp q), List.mem_append_left _⟩
        have m2 : -l ∈ t.tr ++ [o] ↔ -l ∈ t.tr := ⟨fun hm => (List.mem_append.mp hm).resolve_right fun q => e2 (by have := List.mem_singleton.mp q; (first | lia | omega)), List.mem_append_left _⟩
        simp only [m1, m2]
end Mine
namespace Mine

structure Ph (n : Nat) (cells : List Int) (t : T) (sp : Nat) (H : St) : Prop where
  rep : Rep t H
  good : Good n t
  reel : Reel cells sp H
  f1 : ∀ k, t.at k ≠ some 1
  f2 : ∀ k, t.at k ≠ some 2

section
variable {n : Nat} {cells : List Int} {t t' : T} {sp : Nat} {H H' : St}

theorem Ph.long (P : Ph n cells t sp H) : 3 ≤ H.length := (List.getElem?_eq_some_iff.mp P.reel.reel).1
theorem Reel.keep (L : Reel cells sp H) (h1 : H'[1]? = H[1]?) (h2 : H'[2]? = H[2]?) : Reel cells sp H' := ⟨h1.trans L.held, h2.trans L.reel, L.pos, L.len⟩
theorem Ph.app (P : Ph n cells t sp H) (L : St) : Ph n cells t sp (H ++ L) := by
  have := P.long
  exact ⟨P.rep.app, P.good, P.reel.keep (List.getElem?_append_left (by (first | decide | assumption | (exact Nat.le_trans (by assumption) (by decide)) | lia | omega))) (List.getElem?_append_left (by (first | decide | assumption | (exact Nat.le_trans (by assumption) (by decide)) | lia | omega))), P.f1, P.f2⟩
theorem Ph.setOut (P : Ph n cells t sp H) {a : Nat} (h : ∀ k, t.at k ≠ some a) (h1 : a ≠ 1) (h2 : a ≠ 2) (o : MO) : Ph n cells t sp (H.set a o) :=
  ⟨P.rep.setOut h o, P.good, P.reel.keep (List.getElem?_set_ne h1) (List.getElem?_set_ne h2), P.f1, P.f2⟩
theorem Ph.step (P : Ph n cells t sp H) (R' : Rep t' H') (G' : Good n t') (O : Out t H H') (hat : ∀ k a, t'.at k = some a → (∃ k', t.at k' = some a) ∨ H.length ≤ a) : Ph n cells t' sp H' := by
  have := P.long
  refine ⟨R', G', P.reel.keep (O.2 1 P.f1 (by (first | decide | assumption | (exact Nat.le_trans (by assumption) (by decide)) | lia | omega))) (O.2 2 P.f2 (by (first | decide | assumption | (exact Nat.le_trans (by assumption) (by decide)) | lia | omega))), fun k h => ?_, fun k h => ?_⟩
  · rcases hat k 1 h with ⟨k', h'⟩ | h'
    · exact P.f1 k' h'
    · (first | decide | assumption | (exact Nat.le_trans (by assumption) (by decide)) | lia | omega)
  · rcases hat k 2 h with ⟨k', h'⟩ | h'
    · exact P.f2 k' h'
    · (first | decide | assumption | (exact Nat.le_trans (by assumption) (by decide)) | lia | omega)
theorem Ph.next (P : Ph n cells t sp H) (hs : sp ≤ 100000) {m : Int} (hm : 0 < m) {g : DE} {lo : Lo} (h0 : lo[0]? = some (some (.ref 2))) (hg : g lo H = some (.int m, H)) :
    ∃ x H', D.call F_law_next [D.loc 0, g] lo H = some (.int x, H') ∧ 0 ≤ x ∧ x < m ∧ Ph n cells t (sp + 1) H' ∧ H'.length = H.length ∧ ∀ a, a ≠ 2 → H'[a]? = H[a]? := by
  obtain ⟨x, e, h1, h2, L'⟩ := next_ok P.reel hs hm
  exact ⟨x, _, (ev_call2 (ev_loc h0) hg).trans e, h1, h2, ⟨P.rep.setOut P.f2 _, P.good, L', P.f1, P.f2⟩, by simp, fun a ha => List.getElem?_set_ne (Ne.symm ha)⟩

theorem level_ok (R : Rep t H) (Ln : Len t) (hs : t.st.length < 100) : ∃ H', F_Trail_new_level [.ref t.r] H = some (.none, H') ∧ Rep { t with st := t.st ++ [(t.tr.length : Int)] } H' ∧ Out t H H' ∧ H'.length = H.length := by
  have e0 := ev_len (f := D.attr 1 8 (D.loc 0)) (lo := [some (.ref t.r)]) (H := H) (R.attr rfl rfl rfl) (R.at' .tr _ rfl) (by have := Ln.tr; rw [List.length_map]; (first | decide | assumption | (exact Nat.le_trans (by assumption) (by decide)) | lia | omega))
  rw [List.length_map] at e0
  have s1 := ev_append (lo := [some (.ref t.r)]) (f := D.attr 1 9 (D.loc 0)) (R.attr rfl rfl rfl) e0 ⟨_, R.at' .st _ rfl⟩ (R.at' .st _ rfl) (by rw [List.length_map]; (first | decide | assumption | (exact Nat.le_trans (by assumption) (by decide)) | lia | omega))
  rw [ints_append] at s1
  have R1 : Rep { t with st := t.st ++ [(t.tr.length : Int)] } (H.set t.sa (il (t.st ++ [(t.tr.length : Int)]))) := R.set_st _
  refine ⟨_, fn_next (lo' := [some (.ref t.r)]) rfl ?_, R1, (Out.refl t H).set (k := .st) rfl _, by simp⟩
  unfold d_Trail_new_level
  show D.seq _ _ [some (.ref t.r)] H = _
  rw [seq_next s1]
  have hc : D.cmpT .IsNot (D.attr 1 0 (D.loc 0)) (D.const .none) [some (.ref t.r)] (H.set t.sa (il (t.st ++ [(t.tr.length : Int)]))) = some (false, _) := ev_cmpT (R1.attr rfl rfl rfl) rfl rfl
  rw [seq_skip, ev_ifF hc]; rfl
theorem Good.level (G : Good n t) (hs : t.st.length < 100) (x : Int) : Good n { t with st := t.st ++ [x] } :=
  ⟨G.as, G.n1, ⟨G.len.lv, G.len.rs, G.len.sp, G.len.as, G.len.tr, by simp; (first | decide | assumption | (exact Nat.le_trans (by assumption) (by decide)) | lia | omega)⟩, G.W, G.C, G.val, G.one, G.ndo, G.sp, G.good, G.wat, G.w01⟩

noncomputable def frees (n : Nat) (t : T) : List Int := ((List.range n).map fun i : Nat => (1 + (i : Int))).filter fun v => t.val v == 0
theorem frees_mem (G : Good n t) {v : Int} (h : v ∈ frees n t) : 1 ≤ v.natAbs ∧ v.natAbs ≤ n ∧ v.natAbs ∉ t.tr.map Int.natAbs := by
  obtain ⟨h1, h2⟩ := List.mem_filter.mp h
  obtain ⟨i, hi, rfl⟩ := List.mem_map.mp h1
  rw [List.mem_range] at hi
  refine ⟨by (first | decide | assumption | (exact Nat.le_trans (by assumption) (by decide)) | lia | omega), by (first | decide | assumption | (exact Nat.le_trans (by assumption) (by decide)) | lia | omega), fun hm => ?_⟩
  rw [G.val _ (by (first | decide | assumption | (exact Nat.le_trans (by assumption) (by decide)) | lia | omega)) (by (first | decide | assumption | (exact Nat.le_trans (by assumption) (by decide)) | lia | omega))] at h2
  obtain ⟨l, hl, e⟩ := List.mem_map.mp hm
  have : l = 1 + (i : Int) ∨ l = -(1 + (i : Int)) := by (first | decide | assumption | (exact Nat.le_trans (by assumption) (by decide)) | lia | omega)
  rcases this with rfl | rfl
  · simp [hl] at h2
  · by_cases c : 1 + (i : Int) ∈ t.tr
    · simp [c] at h2
    · simp [c, hl] at h2
theorem frees_pos (G : Good n t) (h : t.tr.length < n) : frees n t ≠ [] := fun e => by
  have hc := count_vals (n := n) G.one G.ndo t.val G.val
  have : (List.range n).filter (fun i : Nat => decide (t.val ((i : Int) + 1) ≠ 0)) = List.range n := by
    rw [List.filter_eq_self]
    intro i hi
    simp only [ne_eq, decide_not, Bool.not_eq_true', decide_eq_false_iff_not]
    intro hz
    have : (1 + (i : Int)) ∈ frees n t := List.mem_filter.mpr ⟨List.mem_map.mpr ⟨i, hi, rfl⟩, by rw [Int.add_comm]; simp [hz]⟩
    rw [e] at this
    cases this
  rw [this, List.length_range] at hc
  (first | decide | assumption | (exact Nat.le_trans (by assumption) (by decide)) | lia | omega)
theorem frees_len : (frees n t).length ≤ n := by
  have := List.length_filter_le (fun v => t.val v == 0) ((List.range n).map fun i : Nat => (1 + (i : Int)))
  simpa [frees] using this

theorem ev_vars (P : Rep t H) (has : t.as.length = n + 1) (hn : n ≤ 50) {f : DE} {lo : Lo} (hf : f lo H = some (.ref t.r, H)) : D.bcall b.range [(D.const (.int 1)), (D.bin o.add (D.meth 1 F_Trail_var_count f []) (D.const (.int 1)))] lo H = some (.rng 1 (n + 1) 1, H) := by
  refine ev_range2 (x := 1) rfl ?_
  rw [ev_add (((ev_meth0 (F := F_Trail_var_count) hf (P.at' .obj _ rfl)).trans (vars_ok P (by (first | decide | assumption | (exact Nat.le_trans (by assumption) (by decide)) | lia | omega))))) (show D.const (.int 1) lo H = _ from rfl), has]
  congr 3; (first | decide | assumption | (exact Nat.le_trans (by assumption) (by decide)) | lia | omega)

theorem range_ints (n : Nat) : ((List.range ((n : Int) + 1 - 1).toNat).map fun i : Nat => MV.int (1 + i)) = ((List.range n).map fun i : Nat => (1 + (i : Int))).map .int := by
  rw [List.map_map, show ((n : Int) + 1 - 1).toNat = n by (first | decide | assumption | (exact Nat.le_trans (by assumption) (by decide)) | lia | omega)]; rfl

theorem choose_ok (P : Ph n cells t sp H) (hr : t.r = 3) (hs : sp ≤ 90000) (htr : t.tr.length < n) (hst : t.st.length < 100) (u2 u3 u4 : Option MV) :
    ∃ t' H' u3', b2_law_core [some (.ref 2), some (.ref 3), u2, u3, u4] H = some (.next, [some (.ref 2), some (.ref 3), u2, u3', u4], H') ∧ Ph n cells t' (sp + 3) H' ∧ t'.r = 3 ∧ t'.C = t.C ∧ t'.tr.length = t.tr.length + 1 ∧ t'.st.length ≤ t.st.length + 1 ∧ t'.x1 = t.x1 ∧ t'.x2 = t.x2 ∧ t'.x3 = t.x3 := by
  have G := P.good
  have has := G.as
  have hn := G.n1
  have l1 : ∀ (u3 : Option MV) H, D.loc 1 [some (.ref 2), some (.ref 3), u2, u3, u4] H = some (.ref t.r, H) := fun u3 H => by rw [hr]; rfl
  -- the free ones
  have e1 := ev_compR (q := 5) (onI fun v => t.val v == 0) (mapI fun v => v) (f := D.bcall b.range [(D.const (.int 1)), (D.bin o.add (D.meth 1 F_Trail_var_count (D.loc 1) []) (D.const (.int 1)))]) (t := D.cmpT .Eq (D.meth 1 F_Trail_value (D.loc 1) [(D.loc 5)]) (D.const (.int 0))) (e := D.loc 5) (lo := [some (.ref 2), some (.ref 3), u2, u3, u4]) (H := H)
    (ev_vars P.rep has hn (l1 u3 H)) (by (first | decide | assumption | (exact Nat.le_trans (by assumption) (by decide)) | lia | omega)) (by (first | decide | assumption | (exact Nat.le_trans (by assumption) (by decide)) | lia | omega)) (by (first | decide | assumption | (exact Nat.le_trans (by assumption) (by decide)) | lia | omega)) (by (first | decide | assumption | (exact Nat.le_trans (by assumption) (by decide)) | lia | omega)) rfl
    (fun v hv => by
      obtain ⟨i, hi, rfl⟩ := List.mem_map.mp hv
      rw [List.mem_range] at hi
      exact ev_cmpT (x := .int (t.val (1 + i))) (y := .int 0) (ev_value P.rep (by rw [hr]; rfl) (l := 1 + i) rfl (by (first | decide | assumption | (exact Nat.le_trans (by assumption) (by decide)) | lia | omega)) (by (first | decide | assumption | (exact Nat.le_trans (by assumption) (by decide)) | lia | omega))) rfl rfl)
    (fun v hv _ => by obtain ⟨i, hi, rfl⟩ := List.mem_map.mp hv; rfl)
  rw [range_ints, filter_onI, map_mapI, List.map_id'] at e1
  have hfl : (frees n t).length ≤ 50 := Nat.le_trans frees_len hn
  have hfp := List.length_pos_iff.mpr (frees_pos G htr)
  have P1 := P.app [il (frees n t)]
  have g1 : (H ++ [il (frees n t)])[H.length]? = some (il (frees n t)) := get_end
  have s1 := ev_setname (i := 3) e1 (by simp)
  change D.assign _ _ _ _ = some (.next, [some (.ref 2), some (.ref 3), u2, some (.ref H.length), u4], H ++ [il (frees n t)]) at s1
  have hlen := P.long
  generalize H ++ [il (frees n t)] = H1 at P1 g1 s1
  -- a new level or not
  obtain ⟨x, H2, e2, -, -, P2, -, k2⟩ := P1.next (m := 2) (by (first | decide | assumption | (exact Nat.le_trans (by assumption) (by decide)) | lia | omega)) (by (first | decide | assumption | (exact Nat.le_trans (by assumption) (by decide)) | lia | omega)) (g := D.const (.int 2)) (lo := [some (.ref 2), some (.ref 3), u2, some (.ref H.length), u4]) rfl rfl
  have g2 : H2[H.length]? = some (il (frees n t)) := by rw [k2 _ (by (first | decide | assumption | (exact Nat.le_trans (by assumption) (by decide)) | lia | omega))]; exact g1
  have hc : D.cmpT .Eq (D.call F_law_next [(D.loc 0), (D.const (.int 2))]) (D.const (.int 1)) [some (.ref 2), some (.ref 3), u2, some (.ref H.length), u4] H1 = some (x == 1, H2) := ev_cmpT e2 rfl rfl
  have hfr : ∀ k, t.at k ≠ some H.length := T.at_lt P.rep (Nat.le_refl _)
  obtain ⟨t3, H3, e3, P3, g3, r3, c3, tr3, st3, v3, y1, y2, y3⟩ : ∃ t3 H3, D.ifs (D.cmpT .Eq (D.call F_law_next [(D.loc 0), (D.const (.int 2))]) (D.const (.int 1))) (D.seq (D.expr (D.meth 1 F_Trail_new_level (D.loc 1) [])) D.skip) D.skip [some (.ref 2), some (.ref 3), u2, some (.ref H.length), u4] H1 = some (.next, [some (.ref 2), some (.ref 3), u2, some (.ref H.length), u4], H3) ∧
      Ph n cells t3 (sp + 1) H3 ∧ H3[H.length]? = some (il (frees n t)) ∧ t3.r = 3 ∧ t3.C = t.C ∧ t3.tr = t.tr ∧ t3.st.length ≤ t.st.length + 1 ∧ (∀ k, t3.at k = t.at k) ∧ t3.x1 = t.x1 ∧ t3.x2 = t.x2 ∧ t3.x3 = t.x3 := by
    rw [ev_if hc]
    by_cases hx : x = 1
    · subst hx
      obtain ⟨H3, e3, R3, O3, len3⟩ := level_ok P2.rep P2.good.len hst
      refine ⟨_, H3, ?_, P2.step R3 (P2.good.level hst _) O3 (fun k a h => .inl ⟨k, by rw [← h]; cases k <;> rfl⟩), ?_, hr, rfl, rfl, by simp, (fun k => by cases k <;> rfl), rfl, rfl, rfl⟩
      · simp only [beq_self_eq_true, if_true]
        rw [seq_skip, ev_expr (((ev_meth0 (F := F_Trail_new_level) (l1 _ H2) (P2.rep.at' .obj _ rfl))).trans e3)]
      · rw [O3.2 _ hfr (List.getElem?_eq_some_iff.mp g2).1]; exact g2
    · have hb : (x == 1) = false := by simpa using hx
      refine ⟨t, H2, ?_, P2, g2, hr, rfl, rfl, by (first | decide | assumption | (exact Nat.le_trans (by assumption) (by decide)) | lia | omega), (fun _ => rfl), rfl, rfl, rfl⟩
      simp only [hb, Bool.false_eq_true, if_false]; rfl
  -- the choice
  have l1' : ∀ H', D.loc 1 [some (.ref 2), some (.ref 3), u2, some (.ref H.length), u4] H' = some (.ref t3.r, H') := fun H' => by rw [r3]; rfl
  have hlf := ev_len (f := D.loc 3) (lo := [some (.ref 2), some (.ref 3), u2, some (.ref H.length), u4]) (H := H3) rfl g3 (by rw [List.length_map]; (first | decide | assumption | (exact Nat.le_trans (by assumption) (by decide)) | lia | omega))
  rw [List.length_map] at hlf
  obtain ⟨y, H4, e4, hy0, hy1, P4, l4, k4⟩ := P3.next (m := (frees n t).length) (by (first | decide | assumption | (exact Nat.le_trans (by assumption) (by decide)) | lia | omega)) (by (first | decide | assumption | (exact Nat.le_trans (by assumption) (by decide)) | lia | omega)) (g := D.bcall b.len [D.loc 3]) (lo := [some (.ref 2), some (.ref 3), u2, some (.ref H.length), u4]) rfl hlf
  have g4 : H4[H.length]? = some (il (frees n t)) := by rw [k4 _ (by (first | decide | assumption | (exact Nat.le_trans (by assumption) (by decide)) | lia | omega))]; exact g3
  have hyl : y.toNat < (frees n t).length := by (first | decide | assumption | (exact Nat.le_trans (by assumption) (by decide)) | lia | omega)
  have e5 : D.sub (D.loc 3) (D.call F_law_next [(D.loc 0), (D.bcall b.len [(D.loc 3)])]) [some (.ref 2), some (.ref 3), u2, some (.ref H.length), u4] H3 = some (.int (frees n t)[y.toNat], H4) :=
    ev_sub rfl e4 (getI_list g4 hy0 (il_get (List.getElem?_eq_getElem hyl)) (by rw [List.length_map]; (first | decide | assumption | (exact Nat.le_trans (by assumption) (by decide)) | lia | omega)))
  obtain ⟨z, H5, e6, hz0, hz1, P5, l5, k5⟩ := P4.next (m := 2) (by (first | decide | assumption | (exact Nat.le_trans (by assumption) (by decide)) | lia | omega)) (by (first | decide | assumption | (exact Nat.le_trans (by assumption) (by decide)) | lia | omega)) (g := D.const (.int 2)) (lo := [some (.ref 2), some (.ref 3), u2, some (.ref H.length), u4]) rfl rfl
  obtain ⟨m1, m2, m3⟩ := frees_mem G (List.getElem_mem hyl)
  have e7 : D.bin o.mul (D.sub (D.loc 3) (D.call F_law_next [(D.loc 0), (D.bcall b.len [(D.loc 3)])])) (D.bin o.sub (D.const (.int 1)) (D.bin o.mul (D.const (.int 2)) (D.call F_law_next [(D.loc 0), (D.const (.int 2))]))) [some (.ref 2), some (.ref 3), u2, some (.ref H.length), u4] H3 = some (.int ((frees n t)[y.toNat] * (1 - 2 * z)), H5) :=
    ev_mul e5 (ev_subI (x := 1) rfl (ev_mul (x := 2) rfl e6 (smallI_of (by (first | decide | assumption | (exact Nat.le_trans (by assumption) (by decide)) | lia | omega)) (by (first | decide | assumption | (exact Nat.le_trans (by assumption) (by decide)) | lia | omega))))) (smallI_of (by (first | decide | assumption | (exact Nat.le_trans (by assumption) (by decide)) | lia | omega)) (by (first | decide | assumption | (exact Nat.le_trans (by assumption) (by decide)) | lia | omega)))
  have habs : ((frees n t)[y.toNat] * (1 - 2 * z)).natAbs = ((frees n t)[y.toNat]).natAbs := by
    have : z = 0 ∨ z = 1 := by (first | decide | assumption | (exact Nat.le_trans (by assumption) (by decide)) | lia | omega)
    rcases this with rfl | rfl
    · congr 1; (first | decide | assumption | (exact Nat.le_trans (by assumption) (by decide)) | lia | omega)
    · rw [Int.natAbs_mul]; simp
  generalize (frees n t)[y.toNat] * (1 - 2 * z) = lit at e7 habs
  generalize ((frees n t)[y.toNat]).natAbs = v at m1 m2 m3 habs
  obtain ⟨H6, e8, R6, O6, l6⟩ := enq_ok P5.rep P5.good.len (l := lit) (num := -1) (by have := P5.good.as; (first | decide | assumption | (exact Nat.le_trans (by assumption) (by decide)) | lia | omega))
  have G6 := P5.good.enq (o := lit) (num := -1) (by (first | decide | assumption | (exact Nat.le_trans (by assumption) (by decide)) | lia | omega)) (by (first | decide | assumption | (exact Nat.le_trans (by assumption) (by decide)) | lia | omega)) (by rw [tr3, habs]; exact m3)
  refine ⟨t3.enq lit (-1), H6, some (.ref H.length), ?_, P5.step R6 G6 O6 (fun k a h => .inl ⟨k, by rw [← h]; cases k <;> rfl⟩), r3, c3, by show (t3.tr ++ [lit]).length = _; simp [tr3], st3, y1, y2, y3⟩
  unfold b2_law_core
  rw [seq_next s1, seq_next e3, seq_skip]
  exact ev_expr ((ev_meth2 (F := F_Trail_enqueue) (l1' H3) (P3.rep.at' .obj _ rfl) e7 (ev_neg (i := 1) rfl)).trans e8)
end
end Mine
namespace Mine

noncomputable def Lits (n : Nat) (l : List Int) : Prop := (l.map Int.natAbs).Nodup ∧ ∀ x ∈ l, 1 ≤ x.natAbs ∧ x.natAbs ≤ n
theorem Lits.len {n : Nat} {l : List Int} (h : Lits n l) : l.length ≤ n := by
  have := nodup_le h.1 (n := n) fun x hx => by
    obtain ⟨l, hl, rfl⟩ := List.mem_map.mp hx
    exact h.2 l hl
  rwa [List.length_map] at this
theorem Lits.snoc {n : Nat} {l : List Int} (h : Lits n l) {x : Int} (h1 : 1 ≤ x.natAbs) (h2 : x.natAbs ≤ n) (h3 : x.natAbs ∉ l.map Int.natAbs) : Lits n (l ++ [x]) := by
  refine ⟨?_, fun y hy => ?_⟩
  · rw [List.map_append, List.nodup_append]
    refine ⟨h.1, by simp, fun a ha b hb e => ?_⟩
    simp at hb
    subst hb; subst e
    exact h3 ha
  · rcases List.mem_append.mp hy with q | q
    · exact h.2 y q
    · rw [List.mem_singleton.mp q]; exact ⟨h1, h2⟩
theorem mem_abs {l : List Int} {k : Nat} : ((k : Int) ∈ l.map fun x => (x.natAbs : Int)) ↔ k ∈ l.map Int.natAbs := by
  simp only [List.mem_map]
  constructor
  · rintro ⟨x, hx, e⟩; exact ⟨x, hx, by (first | decide | assumption | (exact Nat.le_trans (by assumption) (by decide)) | lia | omega)⟩
  · rintro ⟨x, hx, e⟩; exact ⟨x, hx, by (first | decide | assumption | (exact Nat.le_trans (by assumption) (by decide)) | lia | omega)⟩

theorem pick_back {α : Type} {a b : α} {r : List α} : pick (a :: b :: r) (some 1) none (some (-1)) = [b, a] := by
  unfold pick
  have : sliceBounds (some 1) none (some (-1)) (a :: b :: r).length = (1, -1, -1) := by
    simp [sliceBounds]; (first | decide | assumption | (exact Nat.le_trans (by assumption) (by decide)) | lia | omega)
  rw [this]
  rfl

section
variable {n : Nat} {cells : List Int} {t : T} {sp : Nat} {H : St}
theorem ev_abses {lo : Lo} {fa : Nat} {found : List Int} (h3 : lo[3]? = some (some (.ref fa))) (hl : lo.length = 7) (hf : H[fa]? = some (il found)) (hs : found.length ≤ 1000) : D.comp 7 1 (D.loc 3) (D.tname 7) D.yes (D.bcall b.abs [(D.loc 7)]) lo H = some (.ref H.length, H ++ [il (found.map fun l => (l.natAbs : Int))]) := by
  have := ev_comp (q := 7) (f := D.loc 3) (t := D.yes) (e := D.bcall b.abs [(D.loc 7)]) (lo := lo) (H := H) (fun _ => true) (mapI fun l => (l.natAbs : Int)) (ev_loc h3) hf hl (by rw [List.length_map]; (first | decide | assumption | (exact Nat.le_trans (by assumption) (by decide)) | lia | omega)) (fun _ _ => rfl)
    (fun v hv _ => by
      obtain ⟨i, hi, rfl⟩ := List.mem_map.mp hv
      exact ev_abs (ev_loc (by rw [List.getElem?_append_right (by (first | decide | assumption | (exact Nat.le_trans (by assumption) (by decide)) | lia | omega)), hl]; rfl)))
  rw [List.filter_eq_self.mpr (fun _ _ => rfl), map_mapI] at this
  exact this

structure Lt (n : Nat) (cells : List Int) (t : T) (sp : Nat) (H : St) (fa : Nat) (found : List Int) : Prop where
  ph : Ph n cells t sp H
  out : ∀ k, t.at k ≠ some fa
  n1 : fa ≠ 1
  n2 : fa ≠ 2
  at' : H[fa]? = some (il found)
  lits : Lits n found
variable {fa : Nat} {found : List Int}
theorem Lt.app (L : Lt n cells t sp H fa found) (K : St) : Lt n cells t sp (H ++ K) fa found := ⟨L.ph.app K, L.out, L.n1, L.n2, get_app L.at', L.lits⟩
theorem Lt.push (L : Lt n cells t sp H fa found) {x : Int} (h1 : 1 ≤ x.natAbs) (h2 : x.natAbs ≤ n) (h3 : x.natAbs ∉ found.map Int.natAbs) : Lt n cells t sp (H.set fa (il (found ++ [x]))) fa (found ++ [x]) :=
  ⟨L.ph.setOut L.out L.n1 L.n2 _, L.out, L.n1, L.n2, set_self L.at', L.lits.snoc h1 h2 h3⟩
theorem Lt.next (L : Lt n cells t sp H fa found) (hs : sp ≤ 100000) {m : Int} (hm : 0 < m) {g : DE} {lo : Lo} (h0 : lo[0]? = some (some (.ref 2))) (hg : g lo H = some (.int m, H)) :
    ∃ x H', D.call F_law_next [D.loc 0, g] lo H = some (.int x, H') ∧ 0 ≤ x ∧ x < m ∧ Lt n cells t (sp + 1) H' fa found := by
  obtain ⟨x, H', e, h1, h2, P, -, k⟩ := L.ph.next hs hm h0 hg
  exact ⟨x, H', e, h1, h2, P, L.out, L.n1, L.n2, by rw [k _ L.n2]; exact L.at', L.lits⟩

theorem lit_turn (L : Lt n cells t sp H fa found) (hs : sp ≤ 90000) (hn : 1 ≤ n) (u4 u5 u6 : Option MV) :
    ∃ found' H' u5', b2_law_lits [some (.ref 2), some (.ref t.r), some (.int n), some (.ref fa), u4, u5, u6] H = some (.next, [some (.ref 2), some (.ref t.r), some (.int n), some (.ref fa), u4, u5', u6], H') ∧ Lt n cells t (sp + 2) H' fa found' := by
  obtain ⟨x, H1, e1, hx0, hx1, L1⟩ := L.next (m := n) (by (first | decide | assumption | (exact Nat.le_trans (by assumption) (by decide)) | lia | omega)) (by (first | decide | assumption | (exact Nat.le_trans (by assumption) (by decide)) | lia | omega)) (g := D.loc 2) (lo := [some (.ref 2), some (.ref t.r), some (.int n), some (.ref fa), u4, u5, u6]) rfl rfl
  obtain ⟨y, H2, e2, hy0, hy1, L2⟩ := L1.next (m := 2) (by (first | decide | assumption | (exact Nat.le_trans (by assumption) (by decide)) | lia | omega)) (by (first | decide | assumption | (exact Nat.le_trans (by assumption) (by decide)) | lia | omega)) (g := D.const (.int 2)) (lo := [some (.ref 2), some (.ref t.r), some (.int n), some (.ref fa), u4, u5, u6]) rfl rfl
  have hn50 := L.ph.good.n1
  have e3 := ev_mul (ev_add (f := D.const (.int 1)) (x := 1) rfl e1) (ev_subI (f := D.const (.int 1)) (x := 1) rfl (ev_mul (f := D.const (.int 2)) (x := 2) rfl e2 (smallI_of (by (first | decide | assumption | (exact Nat.le_trans (by assumption) (by decide)) | lia | omega)) (by (first | decide | assumption | (exact Nat.le_trans (by assumption) (by decide)) | lia | omega))))) (smallI_of (by (first | decide | assumption | (exact Nat.le_trans (by assumption) (by decide)) | lia | omega)) (by (first | decide | assumption | (exact Nat.le_trans (by assumption) (by decide)) | lia | omega)))
  have hlit : 1 ≤ ((1 + x) * (1 - 2 * y)).natAbs ∧ ((1 + x) * (1 - 2 * y)).natAbs ≤ n := by
    have : y = 0 ∨ y = 1 := by (first | decide | assumption | (exact Nat.le_trans (by assumption) (by decide)) | lia | omega)
    rcases this with rfl | rfl
    · rw [show (1 + x) * (1 - 2 * 0) = 1 + x by (first | decide | assumption | (exact Nat.le_trans (by assumption) (by decide)) | lia | omega)]; (first | decide | assumption | (exact Nat.le_trans (by assumption) (by decide)) | lia | omega)
    · rw [Int.natAbs_mul]; simp; (first | decide | assumption | (exact Nat.le_trans (by assumption) (by decide)) | lia | omega)
  generalize (1 + x) * (1 - 2 * y) = lit at e3 hlit
  have s1 := ev_setname (i := 5) e3 (by simp)
  change D.assign _ _ _ _ = some (.next, [some (.ref 2), some (.ref t.r), some (.int n), some (.ref fa), u4, some (.int lit), u6], H2) at s1
  have hfl := L2.lits.len
  have e4 := ev_abses (lo := [some (.ref 2), some (.ref t.r), some (.int n), some (.ref fa), u4, some (.int lit), u6]) rfl rfl L2.at' (by (first | decide | assumption | (exact Nat.le_trans (by assumption) (by decide)) | lia | omega))
  have L3 := L2.app [il (found.map fun l => (l.natAbs : Int))]
  have hg : (H2 ++ [il (found.map fun l => (l.natAbs : Int))])[H2.length]? = some (il (found.map fun l => (l.natAbs : Int))) := get_end
  generalize H2 ++ [il (found.map fun l => (l.natAbs : Int))] = H3 at e4 L3 hg
  have hc := ev_cmpT (op := .NotIn) (ev_abs (f := D.loc 5) (i := lit) (H := H2) rfl) e4 (cmp_notin hg)
  unfold b2_law_lits
  rw [seq_next s1, seq_skip, ev_if hc]
  by_cases h : lit.natAbs ∈ found.map Int.natAbs
  · refine ⟨found, H3, some (.int lit), ?_, L3⟩
    simp only [mem_abs, h, not_true_eq_false, decide_false, Bool.false_eq_true, if_false]; rfl
  · refine ⟨found ++ [lit], _, some (.int lit), ?_, L3.push hlit.1 hlit.2 h⟩
    simp only [mem_abs, h, not_false_eq_true, decide_true, if_true]
    have s2 := ev_append (f := D.loc 3) (g := D.loc 5) (v := .int lit) (lo := [some (.ref 2), some (.ref t.r), some (.int n), some (.ref fa), u4, some (.int lit), u6]) (H := H3) (a := fa) rfl rfl ⟨_, L3.at'⟩ L3.at' (by rw [List.length_map]; (first | decide | assumption | (exact Nat.le_trans (by assumption) (by decide)) | lia | omega))
    rw [ints_append] at s2
    rw [seq_skip, s2]

theorem var_turn (L : Lt n cells t sp H fa found) {i : Nat} (hi : i < n) (hall : 2 ≤ found.length ∨ ∀ v, 1 ≤ v → v ≤ i → v ∈ found.map Int.natAbs) (u4 u5 : Option MV) :
    ∃ found' H', b1_law_lits [some (.ref 2), some (.ref t.r), some (.int n), some (.ref fa), u4, u5, some (.int (1 + i))] H = some (.next, [some (.ref 2), some (.ref t.r), some (.int n), some (.ref fa), u4, u5, some (.int (1 + i))], H') ∧ Lt n cells t sp H' fa found' ∧ (2 ≤ found'.length ∨ ∀ v, 1 ≤ v → v ≤ i + 1 → v ∈ found'.map Int.natAbs) := by
  have hfl := L.lits.len
  have hn50 := L.ph.good.n1
  have hlen := ev_len (f := D.loc 3) (lo := [some (.ref 2), some (.ref t.r), some (.int n), some (.ref fa), u4, u5, some (.int (1 + i))]) (H := H) (a := fa) rfl L.at' (by rw [List.length_map]; (first | decide | assumption | (exact Nat.le_trans (by assumption) (by decide)) | lia | omega))
  rw [List.length_map] at hlen
  have c1 := ev_cmpT (op := .Lt) (b := decide ((found.length : Int) < 2)) hlen (show D.const (.int 2) _ H = some (.int 2, H) from rfl) rfl
  unfold b1_law_lits
  rw [seq_skip]
  by_cases h2 : found.length < 2
  · have h2' : (decide ((found.length : Int) < 2)) = true := by simp; (first | decide | assumption | (exact Nat.le_trans (by assumption) (by decide)) | lia | omega)
    rw [h2'] at c1
    have e4 := ev_abses (lo := [some (.ref 2), some (.ref t.r), some (.int n), some (.ref fa), u4, u5, some (.int (1 + i))]) rfl rfl L.at' (by (first | decide | assumption | (exact Nat.le_trans (by assumption) (by decide)) | lia | omega))
    have L3 := L.app [il (found.map fun l => (l.natAbs : Int))]
    have hg : (H ++ [il (found.map fun l => (l.natAbs : Int))])[H.length]? = some (il (found.map fun l => (l.natAbs : Int))) := get_end
    generalize H ++ [il (found.map fun l => (l.natAbs : Int))] = H3 at e4 L3 hg
    have hc := ev_cmpT (op := .NotIn) (f := D.loc 6) (x := .int (1 + i)) (H := H) rfl e4 (cmp_notin hg)
    have hmem : ((1 + (i : Int)) ∈ found.map fun l => (l.natAbs : Int)) ↔ i + 1 ∈ found.map Int.natAbs := by
      rw [← mem_abs, show ((i + 1 : Nat) : Int) = 1 + i by (first | decide | assumption | (exact Nat.le_trans (by assumption) (by decide)) | lia | omega)]
    by_cases h : i + 1 ∈ found.map Int.natAbs
    · have hT : D.andT (D.cmpT .Lt (D.bcall b.len [(D.loc 3)]) (D.const (.int 2))) (D.andT (D.cmpT .NotIn (D.loc 6) (D.comp 7 1 (D.loc 3) (D.tname 7) D.yes (D.bcall b.abs [(D.loc 7)]))) D.tt) [some (.ref 2), some (.ref t.r), some (.int n), some (.ref fa), u4, u5, some (.int (1 + i))] H = some (false, H3) :=
        (ev_andT c1).trans (ev_andF (by rw [hc]; simp [hmem, h]))
      refine ⟨found, H3, by rw [ev_ifF hT]; rfl, L3, ?_⟩
      rcases hall with hall | hall
      · (first | decide | assumption | (exact Nat.le_trans (by assumption) (by decide)) | lia | omega)
      · exact .inr fun v h1 h2 => by
          by_cases e : v = i + 1
          · rw [e]; exact h
          · exact hall v h1 (by (first | decide | assumption | (exact Nat.le_trans (by assumption) (by decide)) | lia | omega))
    · have hT : D.andT (D.cmpT .Lt (D.bcall b.len [(D.loc 3)]) (D.const (.int 2))) (D.andT (D.cmpT .NotIn (D.loc 6) (D.comp 7 1 (D.loc 3) (D.tname 7) D.yes (D.bcall b.abs [(D.loc 7)]))) D.tt) [some (.ref 2), some (.ref t.r), some (.int n), some (.ref fa), u4, u5, some (.int (1 + i))] H = some (true, H3) :=
        (ev_andT c1).trans ((ev_andT (H1 := H3) (by rw [hc]; simp [hmem, h])).trans rfl)
      have hnat : (-(1 + (i : Int))).natAbs = i + 1 := by (first | decide | assumption | (exact Nat.le_trans (by assumption) (by decide)) | lia | omega)
      refine ⟨found ++ [-(1 + (i : Int))], _, ?_, L3.push (by (first | decide | assumption | (exact Nat.le_trans (by assumption) (by decide)) | lia | omega)) (by (first | decide | assumption | (exact Nat.le_trans (by assumption) (by decide)) | lia | omega)) (by rw [hnat]; exact h), ?_⟩
      · have s2 := ev_append (f := D.loc 3) (g := D.neg (D.loc 6)) (v := .int (-(1 + i))) (lo := [some (.ref 2), some (.ref t.r), some (.int n), some (.ref fa), u4, u5, some (.int (1 + i))]) (H := H3) (a := fa) rfl (ev_neg rfl) ⟨_, L3.at'⟩ L3.at' (by rw [List.length_map]; (first | decide | assumption | (exact Nat.le_trans (by assumption) (by decide)) | lia | omega))
        rw [ints_append] at s2
        rw [ev_ifT hT, seq_skip, s2]
      · rcases hall with hall | hall
        · (first | decide | assumption | (exact Nat.le_trans (by assumption) (by decide)) | lia | omega)
        · exact .inr fun v h1 h2 => by
            rw [List.map_append, List.mem_append]
            by_cases e : v = i + 1
            · right; simp; (first | decide | assumption | (exact Nat.le_trans (by assumption) (by decide)) | lia | omega)
            · exact .inl (hall v h1 (by (first | decide | assumption | (exact Nat.le_trans (by assumption) (by decide)) | lia | omega)))
  · have h2' : (decide ((found.length : Int) < 2)) = false := by simp; (first | decide | assumption | (exact Nat.le_trans (by assumption) (by decide)) | lia | omega)
    rw [h2'] at c1
    exact ⟨found, H, by rw [ev_ifF (ev_andF c1)]; rfl, L, .inl (by (first | decide | assumption | (exact Nat.le_trans (by assumption) (by decide)) | lia | omega))⟩
end
end Mine
namespace Mine
section
variable {n : Nat} {cells : List Int} {t : T} {sp : Nat} {H : St}

theorem lits_ok (P : Ph n cells t sp H) (hs : sp ≤ 80000) (hn : 2 ≤ n) (htr : t.tr ≠ []) :
    ∃ sp' a H' res, F_law_lits [.ref 2, .ref t.r] H = some (.ref a, H') ∧ sp' ≤ sp + 20 ∧ Ph n cells t sp' H' ∧ H'[a]? = some (il res) ∧ Lits n res ∧ 2 ≤ res.length := by
  have has := P.good.as
  have hn50 := P.good.n1
  have htl := P.good.len.tr
  have htp := List.length_pos_iff.mpr htr
  -- many
  have e1 := (ev_meth0 (F := F_Trail_var_count) (f := D.loc 1) (lo := [some (.ref 2), some (.ref t.r), none, none, none, none, none]) (H := H) rfl (P.rep.at' .obj _ rfl)).trans (vars_ok P.rep (by (first | lia | omega)))
  rw [has, show ((n + 1 : Nat) : Int) - 1 = n by (first | lia | omega)] at e1
  have s1 := ev_setname (i := 2) e1 (by simp)
  change D.assign _ _ _ _ = some (.next, [some (.ref 2), some (.ref t.r), some (.int n), none, none, none, none], H) at s1
  -- found
  obtain ⟨x, H1, e2, -, -, P1, -, -⟩ := P.next (m := 4) (by (first | lia | omega)) (by (first | lia | omega)) (g := D.const (.int 4)) (lo := [some (.ref 2), some (.ref t.r), some (.int n), none, none, none, none]) rfl rfl
  have c2 := ev_cmpT (op := .Lt) (b := decide (x < 3)) e2 (show D.const (.int 3) _ H1 = some (.int 3, H1) from rfl) rfl
  obtain ⟨fa, sp2, H2, f0, e3, L2, hsp2⟩ : ∃ fa sp2 H2 f0, D.ite (D.cmpT .Lt (D.call F_law_next [(D.loc 0), (D.const (.int 4))]) (D.const (.int 3))) (D.list [(D.neg (D.sub (D.attr 1 8 (D.loc 1)) (D.call F_law_next [(D.loc 0), (D.bcall b.len [(D.attr 1 8 (D.loc 1))])])))]) (D.list []) [some (.ref 2), some (.ref t.r), some (.int n), none, none, none, none] H = some (.ref fa, H2) ∧ Lt n cells t sp2 H2 fa f0 ∧ sp2 ≤ sp + 2 := by
    have fresh : ∀ {sp'} {H' : St}, Ph n cells t sp' H' → ∀ {l : List Int}, Lits n l → Lt n cells t sp' (H' ++ [il l]) H'.length l := fun Q l hl => ⟨Q.app _, T.at_lt Q.rep (Nat.le_refl _), by have := Q.long; (first | lia | omega), by have := Q.long; (first | lia | omega), get_end, hl⟩
    rw [ev_ite c2]
    by_cases hx : x < 3
    · have e4 := ev_len (f := D.attr 1 8 (D.loc 1)) (lo := [some (.ref 2), some (.ref t.r), some (.int n), none, none, none, none]) (H := H1) (P1.rep.attr rfl rfl rfl) (P1.rep.at' .tr _ rfl) (by rw [List.length_map]; (first | lia | omega))
      rw [List.length_map] at e4
      obtain ⟨y, H3, e5, hy0, hy1, P3, -, -⟩ := P1.next (m := t.tr.length) (by (first | lia | omega)) (by (first | lia | omega)) (g := D.bcall b.len [(D.attr 1 8 (D.loc 1))]) (lo := [some (.ref 2), some (.ref t.r), some (.int n), none, none, none, none]) rfl e4
      have hyl : y.toNat < t.tr.length := by (first | lia | omega)
      have e6 : D.sub (D.attr 1 8 (D.loc 1)) (D.call F_law_next [(D.loc 0), (D.bcall b.len [(D.attr 1 8 (D.loc 1))])]) [some (.ref 2), some (.ref t.r), some (.int n), none, none, none, none] H1 = some (.int t.tr[y.toNat], H3) :=
        ev_sub (P1.rep.attr rfl rfl rfl) e5 (getI_list (P3.rep.at' .tr _ rfl) hy0 (il_get (List.getElem?_eq_getElem hyl)) (by rw [List.length_map]; (first | lia | omega)))
      obtain ⟨m1, m2⟩ := P.good.one _ (List.getElem_mem hyl)
      generalize t.tr[y.toNat] = v at e6 m1 m2
      refine ⟨_, sp + 1 + 1, _, [-v], ?_, fresh P3 ⟨by simp, fun z hz => by rw [List.mem_singleton.mp hz]; (first | lia | omega)⟩, by (first | lia | omega)⟩
      simp only [hx, decide_true, if_true]
      unfold D.list
      simp only [D.args, ev_neg e6, bnd_some]
      rfl
    · refine ⟨_, sp + 1, _, [], ?_, fresh P1 ⟨List.nodup_nil, fun z hz => nomatch hz⟩, by (first | lia | omega)⟩
      simp only [hx, decide_false, Bool.false_eq_true, if_false]; rfl
  have s2 := ev_setname (i := 3) e3 (by simp)
  change D.assign _ _ _ _ = some (.next, [some (.ref 2), some (.ref t.r), some (.int n), some (.ref fa), none, none, none], H2) at s2
  -- drawn ones
  obtain ⟨z, H3, e4, hz0, hz1, L3⟩ := L2.next (m := 4) (by (first | lia | omega)) (by (first | lia | omega)) (g := D.const (.int 4)) (lo := [some (.ref 2), some (.ref t.r), some (.int n), some (.ref fa), none, none, none]) rfl rfl
  have hfor := ev_forR (g := D.tname 4) (b := b2_law_lits) (ev_range1 (ev_add (x := 1) (show D.const (.int 1) _ H2 = _ from rfl) e4)) (by (first | lia | omega)) (by (first | lia | omega)) (by (first | lia | omega)) (by (first | lia | omega))
  have hmb : (1 + z - 0).toNat ≤ 4 := by (first | lia | omega)
  generalize (1 + z - 0).toNat = m1 at hfor hmb
  clear hz0 hz1 e4
  have rule := forV_rule (g := D.tname 4) (b := b2_law_lits) (l := (List.range m1).map fun i : Nat => MV.int (0 + i))
    (fun i lo H' => ∃ found u4 u5, lo = [some (.ref 2), some (.ref t.r), some (.int n), some (.ref fa), u4, u5, none] ∧ Lt n cells t (sp2 + 1 + 2 * i) H' fa found)
    (Q := fun lo H' => ∃ found u4 u5, lo = [some (.ref 2), some (.ref t.r), some (.int n), some (.ref fa), u4, u5, none] ∧ Lt n cells t (sp2 + 1 + 2 * m1) H' fa found) (R := fun _ _ _ => False)
    (fun i v lo H' hv ⟨found, u4, u5, hlo, L⟩ => by
      subst hlo
      obtain ⟨hi, rfl⟩ := range_get hv
      obtain ⟨found', H'', u5', e, L'⟩ := lit_turn L (by (first | lia | omega)) (by (first | lia | omega)) (some (.int (0 + (i : Int)))) u5 none
      refine ⟨[some (.ref 2), some (.ref t.r), some (.int n), some (.ref fa), some (.int (0 + (i : Int))), u5, none], H', rfl, ?_⟩
      rw [e]
      exact ⟨found', _, _, rfl, by rw [show sp2 + 1 + 2 * (i + 1) = sp2 + 1 + 2 * i + 2 by (first | lia | omega)]; exact L'⟩)
    (fun lo H' ⟨found, u4, u5, hlo, L⟩ => ⟨found, u4, u5, hlo, by rw [List.length_map, List.length_range] at L; exact L⟩)
    (lo := [some (.ref 2), some (.ref t.r), some (.int n), some (.ref fa), none, none, none]) (H := H3) ⟨f0, none, none, rfl, L3⟩
  rw [← hfor] at rule
  obtain ⟨lo4, H4, s3, f1, u4, u5, rfl, L4⟩ := rule.next
  -- filled up
  have hfor2 := ev_forR (g := D.tname 6) (b := b1_law_lits) (ev_range2 (f := D.const (.int 1)) (g := D.bin o.add (D.loc 2) (D.const (.int 1))) (lo := [some (.ref 2), some (.ref t.r), some (.int n), some (.ref fa), u4, u5, none]) (H := H4) (x := 1) rfl (ev_add (x := (n : Int)) (y := 1) rfl rfl)) (by (first | lia | omega)) (by (first | lia | omega)) (by (first | lia | omega)) (by (first | lia | omega))
  have hnn : ((n : Int) + 1 - 1).toNat = n := by (first | lia | omega)
  rw [hnn] at hfor2
  have rule2 := forV_rule (g := D.tname 6) (b := b1_law_lits) (l := (List.range n).map fun i : Nat => MV.int (1 + i))
    (fun i lo H' => ∃ found u6, lo = [some (.ref 2), some (.ref t.r), some (.int n), some (.ref fa), u4, u5, u6] ∧ Lt n cells t (sp2 + 1 + 2 * m1) H' fa found ∧ (2 ≤ found.length ∨ ∀ v, 1 ≤ v → v ≤ i → v ∈ found.map Int.natAbs))
    (Q := fun lo H' => ∃ found u6, lo = [some (.ref 2), some (.ref t.r), some (.int n), some (.ref fa), u4, u5, u6] ∧ Lt n cells t (sp2 + 1 + 2 * m1) H' fa found ∧ 2 ≤ found.length) (R := fun _ _ _ => False)
    (fun i v lo H' hv ⟨found, u6, hlo, L, hall⟩ => by
      subst hlo
      obtain ⟨hi, rfl⟩ := range_get hv
      obtain ⟨found', H'', e, L', hall'⟩ := var_turn L (i := i) (by (first | lia | omega)) hall u4 u5
      refine ⟨[some (.ref 2), some (.ref t.r), some (.int n), some (.ref fa), u4, u5, some (.int (1 + (i : Int)))], H', rfl, ?_⟩
      rw [e]
      exact ⟨found', _, rfl, L', hall'⟩)
    (fun lo H' ⟨found, u6, hlo, L, hall⟩ => ⟨found, u6, hlo, L, by
      rcases hall with h | h
      · exact h
      · rw [List.length_map, List.length_range] at h
        have h1 := h 1 (by (first | lia | omega)) (by (first | lia | omega))
        have h2 := h 2 (by (first | lia | omega)) (by (first | lia | omega))
        match found, h1, h2 with
        | [], h1, _ => cases h1
        | [a], h1, h2 => simp at h1 h2; (first | lia | omega)
        | a :: b :: r, _, _ => simp⟩)
    (lo := [some (.ref 2), some (.ref t.r), some (.int n), some (.ref fa), u4, u5, none]) (H := H4) ⟨f1, none, rfl, L4, by
      by_cases h : 2 ≤ f1.length
      · exact .inl h
      · exact .inr fun v h1 h2 => by (first | lia | omega)⟩
  rw [← hfor2] at rule2
  obtain ⟨lo5, H5, s4, f2, u6, rfl, L5, hf2⟩ := rule2.next
  -- turned or not
  obtain ⟨y, H6, e6, -, -, L6⟩ := L5.next (m := 2) (by (first | lia | omega)) (by (first | lia | omega)) (g := D.const (.int 2)) (lo := [some (.ref 2), some (.ref t.r), some (.int n), some (.ref fa), u4, u5, u6]) rfl rfl
  have c6 := ev_cmpT (op := .Eq) (b := y == 1) e6 (show D.const (.int 1) _ H6 = some (.int 1, H6) from rfl) rfl
  have hfl := L6.lits.len
  have run : ∀ v H', D.ite (D.cmpT .Eq (D.call F_law_next [(D.loc 0), (D.const (.int 2))]) (D.const (.int 1))) (D.bin o.add (D.slice (D.loc 3) (some (D.const (.int 1))) none (some (D.neg (D.const (.int 1))))) (D.slice (D.loc 3) (some (D.const (.int 2))) none none)) (D.loc 3) [some (.ref 2), some (.ref t.r), some (.int n), some (.ref fa), u4, u5, u6] H5 = some (v, H') → F_law_lits [.ref 2, .ref t.r] H = some (v, H') := fun v H' h => by
    refine fn_ret (lo' := [some (.ref 2), some (.ref t.r), some (.int n), some (.ref fa), u4, u5, u6]) rfl ?_
    unfold d_law_lits
    show D.seq _ _ [some (.ref 2), some (.ref t.r), none, none, none, none, none] H = _
    rw [seq_next s1, seq_next s2, seq_next s3, seq_next s4, seq_skip]
    exact ev_ret h
  have hsp : sp2 + 1 + 2 * m1 + 1 ≤ sp + 20 := by (first | lia | omega)
  by_cases hy : y = 1
  · subst hy
    match f2, hf2, L6, hfl with
    | a :: b :: r, _, L6, hfl =>
      have sm : small (List.map MV.int (a :: b :: r)).length = true := by simp [small]; simp at hfl; (first | lia | omega)
      have e7 : D.slice (D.loc 3) (some (D.const (.int 1))) none (some (D.neg (D.const (.int 1)))) [some (.ref 2), some (.ref t.r), some (.int n), some (.ref fa), u4, u5, u6] H6 = some (.ref H6.length, H6 ++ [il [b, a]]) := by
        unfold D.slice
        simp only [D.loc, D.part, D.const, D.neg, bnd_some, List.getElem?_cons_succ, List.getElem?_cons_zero, itemsOf, L6.at', sm, if_true]
        rw [if_neg (by simp)]
        simp only [List.map_cons, pick_back]
        rfl
      have L7 := L6.app [il [b, a]]
      have e8 : D.slice (D.loc 3) (some (D.const (.int 2))) none none [some (.ref 2), some (.ref t.r), some (.int n), some (.ref fa), u4, u5, u6] (H6 ++ [il [b, a]]) = some (.ref (H6 ++ [il [b, a]]).length, (H6 ++ [il [b, a]]) ++ [.list ((List.map MV.int (a :: b :: r)).drop 2)]) :=
        ev_slice1 (f := D.loc 3) (g := D.const (.int 2)) (i := 2) (a := fa) rfl rfl L7.at' (by simp) (by simp at hfl ⊢; (first | lia | omega))
      have L8 := L7.app [.list ((List.map MV.int (a :: b :: r)).drop 2)]
      have e9 : D.bin o.add (D.slice (D.loc 3) (some (D.const (.int 1))) none (some (D.neg (D.const (.int 1))))) (D.slice (D.loc 3) (some (D.const (.int 2))) none none) [some (.ref 2), some (.ref t.r), some (.int n), some (.ref fa), u4, u5, u6] H6 = _ :=
        (ev_bin e7 e8).trans (ev_addL (get_app get_end) get_end (by simp at hfl ⊢; (first | lia | omega)))
      refine ⟨_, _, _, b :: a :: r, run _ _ ((ev_ite c6).trans ?_), hsp, (L8.app _).ph, get_end, ?_, by simp⟩
      · simp only [beq_self_eq_true, if_true]
        exact e9
      · have hp : List.Perm (b :: a :: r) (a :: b :: r) := List.Perm.swap _ _ _
        exact ⟨(hp.map _).nodup_iff.mpr L6.lits.1, fun x hx => L6.lits.2 x (hp.mem_iff.mp hx)⟩
  · have hb : (y == 1) = false := by simpa using hy
    refine ⟨_, fa, H6, f2, run _ _ ((ev_ite c6).trans ?_), hsp, L6.ph, L6.at', L6.lits, hf2⟩
    simp only [hb, Bool.false_eq_true, if_false]; rfl
end
end Mine
namespace Mine
section
variable {n : Nat} {cells : List Int} {t : T} {sp : Nat} {H : St}

noncomputable def T.addC (t : T) (o : Option (Nat × List Int)) : T := { t with C := t.C ++ [o] }
noncomputable def T.putC (t : T) (j : Nat) (o : Option (Nat × List Int)) : T := { t with C := t.C.set j o }

theorem Rep.addC (R : Rep t H) {K : Nat} {l : List Int} (hK : ∀ k, t.at k ≠ some K) (hl : H[K]? = some (il l)) : Rep (t.addC (some (K, l))) (H.set (t.r + 15) (.list (t.C.map refOf ++ [.ref K]))) := by
  have hcl : t.at .cl = some (t.r + 15) := rfl
  have hKr : t.r + 15 ≠ K := fun e => hK .cl (by rw [hcl, e])
  have atc : ∀ j a, (t.addC (some (K, l))).at (.c j) = some a → t.at (.c j) = some a ∨ (j = t.C.length ∧ a = K) := fun j a h => by
    have h' : (((t.C ++ [some (K, l)])[j]?).join).map (·.1) = some a := h
    by_cases hj : j < t.C.length
    · rw [List.getElem?_append_left hj] at h'; exact .inl h'
    · rw [List.getElem?_append_right (by (first | decide | assumption | (exact Nat.le_trans (by assumption) (by decide)) | lia | omega))] at h'
      have : j - t.C.length = 0 := by
        cases e : j - t.C.length with
        | zero => rfl
        | succ m => rw [e] at h'; simp at h'
      rw [this] at h'
      simp at h'
      exact .inr ⟨by (first | decide | assumption | (exact Nat.le_trans (by assumption) (by decide)) | lia | omega), h'.symm⟩
  have atk : ∀ k, (∀ i, k ≠ .c i) → (t.addC (some (K, l))).at k = t.at k := fun k h => by cases k <;> first | rfl | exact absurd rfl (h _)
  have other : ∀ k a, t.at k = some a → k ≠ .cl → (H.set (t.r + 15) (.list (t.C.map refOf ++ [.ref K])))[a]? = some (t.is k) := fun k a ha hk => by
    rw [List.getElem?_set_ne (fun e => hk (R.inj k .cl a ha (by rw [hcl, e])))]
    exact R.at' k a ha
  refine ⟨fun k a ha => ?_, fun k k' a h1 h2 => ?_⟩
  · by_cases hc : ∃ j, k = .c j
    · obtain ⟨j, rfl⟩ := hc
      rcases atc j a ha with h | ⟨rfl, rfl⟩
      · rw [other _ _ h (by simp)]
        have hj : j < t.C.length := by
          simp only [T.at] at h
          by_cases hj : j < t.C.length
          · exact hj
          · rw [List.getElem?_eq_none (by (first | decide | assumption | (exact Nat.le_trans (by assumption) (by decide)) | lia | omega))] at h; simp at h
        simp only [T.is, T.addC, List.getElem?_append_left hj]
      · rw [List.getElem?_set_ne hKr, hl]
        simp [T.is, T.addC]
    · have hk : ∀ i, k ≠ .c i := fun i e => hc ⟨i, e⟩
      rw [atk k hk] at ha
      by_cases hs : k = .cl
      · subst hs
        cases ha
        rw [List.getElem?_set_self (R.lt hcl)]
        simp [T.is, T.addC, refOf]
      · rw [other k a ha hs]
        cases k <;> first | rfl | exact absurd rfl hs | exact absurd rfl (hk _)
  · by_cases hc : ∃ j, k = .c j
    · obtain ⟨j, rfl⟩ := hc
      by_cases hc' : ∃ j, k' = .c j
      · obtain ⟨j', rfl⟩ := hc'
        rcases atc j a h1 with h | ⟨e1, e2⟩ <;> rcases atc j' a h2 with h' | ⟨e3, e4⟩
        · exact R.inj _ _ a h h'
        · exact absurd (e4 ▸ h) (hK _)
        · exact absurd (e2 ▸ h') (hK _)
        · rw [e1, e3]
      · rw [atk k' fun j e => hc' ⟨j, e⟩] at h2
        rcases atc j a h1 with h | ⟨e1, e2⟩
        · exact R.inj _ _ a h h2
        · exact absurd (e2 ▸ h2) (hK _)
    · rw [atk k fun j e => hc ⟨j, e⟩] at h1
      by_cases hc' : ∃ j, k' = .c j
      · obtain ⟨j', rfl⟩ := hc'
        rcases atc j' a h2 with h' | ⟨e3, e4⟩
        · exact R.inj _ _ a h1 h'
        · exact absurd (e4 ▸ h1) (hK _)
      · rw [atk k' fun j e => hc' ⟨j, e⟩] at h2
        exact R.inj _ _ a h1 h2
theorem addC_at {K : Nat} {l : List Int} {k : Kd} {a : Nat} (h : (t.addC (some (K, l))).at k = some a) : (∃ k', t.at k' = some a) ∨ a = K := by
  by_cases hk : ∀ j, k ≠ .c j
  · left
    refine ⟨k, ?_⟩
    cases k <;> first | exact h | exact absurd rfl (hk _)
  obtain ⟨j, rfl⟩ : ∃ j, k = .c j := Classical.byContradiction fun hn => hk fun j e => hn ⟨j, e⟩
  have h' : (((t.C ++ [some (K, l)])[j]?).join).map (·.1) = some a := h
  by_cases hj : j < t.C.length
  · rw [List.getElem?_append_left hj] at h'; exact .inl ⟨.c j, h'⟩
  · rw [List.getElem?_append_right (by (first | decide | assumption | (exact Nat.le_trans (by assumption) (by decide)) | lia | omega))] at h'
    cases e : j - t.C.length with
    | zero => rw [e] at h'; simp at h'; exact .inr h'.symm
    | succ m => rw [e] at h'; simp at h'

theorem putC_at {j : Nat} {k : Kd} {a : Nat} (h : (t.putC j none).at k = some a) : t.at k = some a ∧ k ≠ .c j := by
  cases k <;> try exact ⟨h, by simp⟩
  rename_i i
  have h' : (((t.C.set j none)[i]?).join).map (·.1) = some a := h
  rw [List.getElem?_set] at h'
  by_cases e : j = i
  · rw [if_pos e] at h'
    split at h' <;> simp at h'
  · rw [if_neg e] at h'
    exact ⟨h', fun q => e (by cases q; rfl)⟩
theorem Rep.unset (R : Rep t H) (j : Nat) : Rep (t.putC j none) (H.set (t.r + 15) (.list ((t.C.map refOf).set j .none))) := by
  have hcl : t.at .cl = some (t.r + 15) := rfl
  refine ⟨fun k a ha => ?_, fun k k' a h1 h2 => R.inj k k' a (putC_at h1).1 (putC_at h2).1⟩
  obtain ⟨h1, h2⟩ := putC_at ha
  by_cases hs : k = .cl
  · subst hs
    cases h1
    rw [List.getElem?_set_self (R.lt hcl)]
    simp only [T.is, T.putC, List.map_set]; rfl
  · rw [List.getElem?_set_ne (fun e => hs (R.inj k .cl a h1 (by rw [hcl, e]))), R.at' k a h1]
    cases k <;> try rfl
    · exact absurd rfl hs
    · rename_i i
      have e : j ≠ i := fun e => h2 (by rw [e])
      simp only [T.is, T.putC, List.getElem?_set_ne e]

theorem Good.store (G : Good n t) {l : List Int} (hl : Lits n l) (h2 : 2 ≤ l.length) (h3 : n ≤ 10) (hC : t.C.length < 100) (K : Nat) : Good n (t.addC (some (K, l))) := by
  have hlen := hl.len
  refine ⟨G.as, G.n1, ⟨G.len.lv, G.len.rs, G.len.sp, G.len.as, G.len.tr, G.len.st⟩, G.W, by simp [T.addC]; (first | decide | assumption | (exact Nat.le_trans (by assumption) (by decide)) | lia | omega), G.val, G.one, G.ndo, G.sp, fun j a c h => ?_, fun l' h1 h2' => ?_, G.w01⟩
  · have h' : (t.C ++ [some (K, l)])[j]? = some (some (a, c)) := h
    by_cases hj : j < t.C.length
    · rw [List.getElem?_append_left hj] at h'; exact G.good j a c h'
    · rw [List.getElem?_append_right (by (first | decide | assumption | (exact Nat.le_trans (by assumption) (by decide)) | lia | omega))] at h'
      cases e : j - t.C.length with
      | zero => rw [e] at h'; simp at h'; rw [← h'.2]; exact ⟨h2, by (first | decide | assumption | (exact Nat.le_trans (by assumption) (by decide)) | lia | omega), hl.1, hl.2⟩
      | succ m => rw [e] at h'; simp at h'
  · obtain ⟨b, ns, e, nd, hx⟩ := G.wat l' h1 h2'
    refine ⟨b, ns, e, nd, fun x hx' => ?_⟩
    obtain ⟨k1, k2, k3⟩ := hx x hx'
    refine ⟨k1, by simp [T.addC]; (first | decide | assumption | (exact Nat.le_trans (by assumption) (by decide)) | lia | omega), fun a1 a b rest h => k3 a1 a b rest ?_⟩
    have h' : (t.C ++ [some (K, l)])[x.toNat]? = some (some (a1, a :: b :: rest)) := h
    rw [List.getElem?_append_left k2] at h'; exact h'
theorem Good.unset (G : Good n t) (j : Nat) : Good n (t.putC j none) := by
  have key : ∀ (i : Nat) p, (t.C.set j none)[i]? = some (some p) → t.C[i]? = some (some p) := fun i p h => by
    rw [List.getElem?_set] at h
    by_cases e : j = i
    · rw [if_pos e] at h; split at h <;> simp at h
    · rw [if_neg e] at h; exact h
  refine ⟨G.as, G.n1, ⟨G.len.lv, G.len.rs, G.len.sp, G.len.as, G.len.tr, G.len.st⟩, G.W, by simp [T.putC, G.C], G.val, G.one, G.ndo, G.sp, fun i a c h => G.good i a c (key i _ h), fun l' h1 h2' => ?_, G.w01⟩
  obtain ⟨b, ns, e, nd, hx⟩ := G.wat l' h1 h2'
  exact ⟨b, ns, e, nd, fun x hx' => ⟨(hx x hx').1, by simp [T.putC, (hx x hx').2.1], fun a1 a b rest h => (hx x hx').2.2 a1 a b rest (key _ _ h)⟩⟩
theorem Good.addW (G : Good n t) {l num : Int} (h1 : 1 ≤ l.natAbs) (h2 : l.natAbs ≤ n) (hn0 : 0 ≤ num) (hn : num.toNat < t.C.length) (hcl : ∀ a1 a b rest, t.C[num.toNat]? = some (some (a1, a :: b :: rest)) → a = l ∨ b = l) (hf : ∀ b ns, t.W[(plc l).toNat]? = some (b, ns) → num ∉ ns) : Good n (t.addW (plc l).toNat num) := by
  have get : ∀ i : Nat, (t.addW (plc l).toNat num).W[i]? = if (plc l).toNat = i then (t.W[i]?).map (fun q => (q.1, q.2 ++ [num])) else t.W[i]? := fun i => addWs_get (W := t.W) (p := (l, num))
  refine ⟨G.as, G.n1, ⟨G.len.lv, G.len.rs, G.len.sp, G.len.as, G.len.tr, G.len.st⟩, by simp [T.addW, G.W], G.C, G.val, G.one, G.ndo, G.sp, G.good, fun l' h1' h2' => ?_, fun i hi => ?_⟩
  · obtain ⟨b, ns, e, nd, hx⟩ := G.wat l' h1' h2'
    rw [get]
    by_cases hl : l' = l
    · subst hl
      rw [if_pos rfl, e]
      refine ⟨b, ns ++ [num], rfl, ?_, fun x hx' => ?_⟩
      · rw [List.nodup_append]
        refine ⟨nd, by simp, fun y hy z hz e' => ?_⟩
        rw [List.mem_singleton.mp hz] at e'
        subst e'
        exact hf b ns e hy
      · rcases List.mem_append.mp hx' with h | h
        · exact hx x h
        · rw [List.mem_singleton.mp h]; exact ⟨hn0, hn, hcl⟩
    · rw [if_neg fun h => hl (plc_nat h h1 h1').symm]
      exact ⟨b, ns, e, nd, hx⟩
  · have := plc_ge h1
    rw [get, if_neg (by (first | decide | assumption | (exact Nat.le_trans (by assumption) (by decide)) | lia | omega))]
    exact G.w01 i hi

structure Ex (t : T) (H : St) (k : Nat) : Prop where
  c : t.C.length = k
  x1 : t.x1.length = k
  x2 : t.x2.length = k
  x3 : t.x3.length = k

theorem stored_ok (R : Rep t H) {k : Nat} (X : Ex t H k) (hk : k ≤ 100) {l : List Int} (hl : l.length ≤ 1000) :
    ∃ t' H', F_Trail_store [.ref t.r, .tup (l.map .int), .none, .bool false] H = some (.int k, H') ∧ t' = { t.addC (some (H.length, l)) with x1 := t.x1 ++ [.none], x2 := t.x2 ++ [.bool false], x3 := t.x3 ++ [.int 0] } ∧ Rep t' H' ∧ Out t H H' := by
  have e0 := ev_len (f := D.attr 1 12 (D.loc 0)) (lo := [some (.ref t.r), some (.tup (l.map .int)), some .none, some (.bool false), none]) (H := H) (R.attr rfl rfl rfl) (R.at' .cl _ rfl) (by rw [List.length_map, X.c]; (first | decide | assumption | (exact Nat.le_trans (by assumption) (by decide)) | lia | omega))
  rw [List.length_map, X.c] at e0
  have s0 := ev_setname (i := 4) e0 (by simp)
  change D.assign _ _ _ _ = some (.next, [some (.ref t.r), some (.tup (l.map .int)), some .none, some (.bool false), some (.int k)], H) at s0
  generalize hL : ([some (.ref t.r), some (.tup (l.map .int)), some .none, some (.bool false), some (.int k)] : Lo) = L at s0
  have l0 : ∀ H, D.loc 0 L H = some (.ref t.r, H) := fun H => by rw [← hL]; rfl
  have l1 : ∀ H, D.loc 1 L H = some (.tup (l.map .int), H) := fun H => by rw [← hL]; rfl
  have l2 : ∀ H, D.loc 2 L H = some (.none, H) := fun H => by rw [← hL]; rfl
  have l3 : ∀ H, D.loc 3 L H = some (.bool false, H) := fun H => by rw [← hL]; rfl
  have l4 : ∀ H, D.loc 4 L H = some (.int k, H) := fun H => by rw [← hL]; rfl
  have el : D.bcall b.list [D.loc 1] L H = some (.ref H.length, H ++ [il l]) := by
    unfold D.bcall; simp [D.args, l1, b.list, small, hl]; (first | decide | assumption | (exact Nat.le_trans (by assumption) (by decide)) | lia | omega)
  have R0 : Rep t (H ++ [il l]) := R.app
  have s1 := ev_append (f := D.attr 1 12 (D.loc 0)) (R.attr rfl (l0 H) rfl) el ⟨_, R.at' .cl _ rfl⟩ (R0.at' .cl _ rfl) (by rw [List.length_map, X.c]; (first | decide | assumption | (exact Nat.le_trans (by assumption) (by decide)) | lia | omega))
  have O1 : Out t H ((H ++ [il l]).set (t.r + 15) (.list (t.C.map refOf ++ [.ref H.length]))) := (Out.app t H [il l]).set (k := .cl) rfl _
  have R1 := R0.addC (T.at_lt R (Nat.le_refl _)) (get_end (H := H) (o := il l))
  generalize (H ++ [il l]).set (t.r + 15) (.list (t.C.map refOf ++ [.ref H.length])) = H1 at R1 O1 s1
  have s2 := ev_append (f := D.attr 1 13 (D.loc 0)) (g := D.loc 2) (R1.attr rfl (l0 H1) rfl) (l2 H1) ⟨_, R1.at' .x1 _ rfl⟩ (R1.at' .x1 _ rfl) (by show t.x1.length ≤ _; rw [X.x1]; (first | decide | assumption | (exact Nat.le_trans (by assumption) (by decide)) | lia | omega))
  have R2 := R1.set_x1 (t.x1 ++ [.none])
  have O2 := O1.set (k := .x1) (a := t.r + 16) rfl (.list (t.x1 ++ [.none]))
  have s2' : D.expr (D.lmeth m.append (D.attr 1 13 (D.loc 0)) [(D.loc 2)]) L H1 = some (.next, L, H1.set (t.r + 16) (.list (t.x1 ++ [.none]))) := s2
  change Rep _ (H1.set (t.r + 16) (.list (t.x1 ++ [.none]))) at R2
  generalize H1.set (t.r + 16) (.list (t.x1 ++ [.none])) = H2 at R2 O2 s2'
  have s3 := ev_append (f := D.attr 1 14 (D.loc 0)) (g := D.loc 3) (R2.attr rfl (l0 H2) rfl) (l3 H2) ⟨_, R2.at' .x2 _ rfl⟩ (R2.at' .x2 _ rfl) (by show t.x2.length ≤ _; rw [X.x2]; (first | decide | assumption | (exact Nat.le_trans (by assumption) (by decide)) | lia | omega))
  have R3 := R2.set_x2 (t.x2 ++ [.bool false])
  have O3 := O2.set (k := .x2) (a := t.r + 17) rfl (.list (t.x2 ++ [.bool false]))
  have s3' : D.expr (D.lmeth m.append (D.attr 1 14 (D.loc 0)) [(D.loc 3)]) L H2 = some (.next, L, H2.set (t.r + 17) (.list (t.x2 ++ [.bool false]))) := s3
  change Rep _ (H2.set (t.r + 17) (.list (t.x2 ++ [.bool false]))) at R3
  generalize H2.set (t.r + 17) (.list (t.x2 ++ [.bool false])) = H3 at R3 O3 s3'
  have s4 := ev_append (f := D.attr 1 15 (D.loc 0)) (g := D.const (.int 0)) (R3.attr rfl (l0 H3) rfl) rfl ⟨_, R3.at' .x3 _ rfl⟩ (R3.at' .x3 _ rfl) (by show t.x3.length ≤ _; rw [X.x3]; (first | decide | assumption | (exact Nat.le_trans (by assumption) (by decide)) | lia | omega))
  have R4 := R3.set_x3 (t.x3 ++ [.int 0])
  have O4 := O3.set (k := .x3) (a := t.r + 18) rfl (.list (t.x3 ++ [.int 0]))
  have s4' : D.expr (D.lmeth m.append (D.attr 1 15 (D.loc 0)) [(D.const (.int 0))]) L H3 = some (.next, L, H3.set (t.r + 18) (.list (t.x3 ++ [.int 0]))) := s4
  change Rep _ (H3.set (t.r + 18) (.list (t.x3 ++ [.int 0]))) at R4
  generalize H3.set (t.r + 18) (.list (t.x3 ++ [.int 0])) = H4 at R4 O4 s4'
  refine ⟨_, H4, fn_ret (lo' := L) rfl ?_, rfl, R4, O4⟩
  unfold d_Trail_store
  show D.seq _ _ [some (.ref t.r), some (.tup (l.map .int)), some .none, some (.bool false), none] H = _
  rw [seq_next s0, seq_next s1, seq_next s2', seq_next s3', seq_next s4', seq_next ((ev_ifF (ev_truth (l3 H4))).trans rfl), seq_skip]
  exact ev_ret (l4 H4)

theorem watch_ok (R : Rep t H) (hW : t.W.length ≤ 1000) (hCl : t.C.length ≤ 1000) {num K : Nat} {x y : Int} {rest : List Int} (hC : t.C[num]? = some (some (K, x :: y :: rest))) (hx : x.natAbs < 1000) (hy : y.natAbs < 1000) (hxy : (plc x).toNat ≠ (plc y).toNat) (hr : rest.length ≤ 100)
    {b1 b2 : Nat} {n1 n2 : List Int} (w1 : t.W[(plc x).toNat]? = some (b1, n1)) (w2 : t.W[(plc y).toNat]? = some (b2, n2)) (k1 : n1.length ≤ 1000) (k2 : n2.length ≤ 1000) :
    ∃ H', F_Trail_watch [.ref t.r, .int num] H = some (.none, H') ∧ Rep ((t.addW (plc x).toNat num).addW (plc y).toNat num) H' ∧ Out t H H' := by
  have e0 : D.sub (D.attr 1 12 (D.loc 0)) (D.loc 1) [some (.ref t.r), some (.int num), none] H = some (.ref K, H) := ev_sub (R.attr rfl rfl rfl) rfl (getI_list (R.at' .cl _ rfl) (by (first | decide | assumption | (exact Nat.le_trans (by assumption) (by decide)) | lia | omega)) (by rw [Int.toNat_natCast]; exact refOf_get hC) (by rw [List.length_map]; (first | decide | assumption | (exact Nat.le_trans (by assumption) (by decide)) | lia | omega)))
  have s0 := ev_setname (i := 2) e0 (by simp)
  change D.assign _ _ _ _ = some (.next, [some (.ref t.r), some (.int num), some (.ref K)], H) at s0
  generalize hL : ([some (.ref t.r), some (.int num), some (.ref K)] : Lo) = L at s0
  have l0 : ∀ H, D.loc 0 L H = some (.ref t.r, H) := fun H => by rw [← hL]; rfl
  have l1 : ∀ H, D.loc 1 L H = some (.int num, H) := fun H => by rw [← hL]; rfl
  have l2 : ∀ H, D.loc 2 L H = some (.ref K, H) := fun H => by rw [← hL]; rfl
  have hc : H[K]? = some (il (x :: y :: rest)) := (R.at' _ _ (T.at_c hC)).trans (congrArg some (T.is_c hC))
  have ex : D.sub (D.loc 2) (D.const (.int 0)) L H = some (.int x, H) := ev_item (l2 H) rfl hc (by (first | decide | assumption | (exact Nat.le_trans (by assumption) (by decide)) | lia | omega)) rfl (by simp; (first | decide | assumption | (exact Nat.le_trans (by assumption) (by decide)) | lia | omega))
  have ew := ev_watch R (l0 H) ex hx w1 hW
  have hb1 := (R.at' _ _ (T.at_w w1)).trans (congrArg some (T.is_w w1))
  have s1 := ev_append ew (l1 H) ⟨_, hb1⟩ hb1 (by rw [List.length_map]; (first | decide | assumption | (exact Nat.le_trans (by assumption) (by decide)) | lia | omega))
  rw [ints_append] at s1
  have R1 : Rep (t.addW (plc x).toNat num) (H.set b1 (il (n1 ++ [(num : Int)]))) := R.upd _ (T.at_w w1) (fun k => addW_at k) (fun k hk => addW_is k hk) (addW_is' w1)
  have O1 := (Out.refl t H).set (T.at_w w1) (il (n1 ++ [(num : Int)]))
  generalize H.set b1 (il (n1 ++ [(num : Int)])) = H1 at R1 O1 s1
  have hC1 : (t.addW (plc x).toNat num).C[num]? = some (some (K, x :: y :: rest)) := hC
  have hc1 : H1[K]? = some (il (x :: y :: rest)) := (R1.at' _ _ (T.at_c hC1)).trans (congrArg some (T.is_c hC1))
  have ey : D.sub (D.loc 2) (D.const (.int 1)) L H1 = some (.int y, H1) := ev_item (l2 H1) rfl hc1 (by (first | decide | assumption | (exact Nat.le_trans (by assumption) (by decide)) | lia | omega)) rfl (by simp; (first | decide | assumption | (exact Nat.le_trans (by assumption) (by decide)) | lia | omega))
  have w2' : (t.addW (plc x).toNat num).W[(plc y).toNat]? = some (b2, n2) := by
    rw [show (t.addW (plc x).toNat num).W = addWs t.W (x, (num : Int)) from rfl, addWs_get, if_neg hxy]; exact w2
  have ew2 := ev_watch R1 (l0 H1) ey hy w2' (by simpa [T.addW] using hW)
  have hb2 := (R1.at' _ _ (T.at_w w2')).trans (congrArg some (T.is_w w2'))
  have s2 := ev_append ew2 (l1 H1) ⟨_, hb2⟩ hb2 (by rw [List.length_map]; (first | decide | assumption | (exact Nat.le_trans (by assumption) (by decide)) | lia | omega))
  rw [ints_append] at s2
  have R2 : Rep ((t.addW (plc x).toNat num).addW (plc y).toNat num) (H1.set b2 (il (n2 ++ [(num : Int)]))) := R1.upd _ (T.at_w w2') (fun k => addW_at k) (fun k hk => addW_is k hk) (addW_is' w2')
  have O2 := O1.set (T.at_w w2) (il (n2 ++ [(num : Int)]))
  refine ⟨_, fn_next (lo' := L) rfl ?_, R2, O2⟩
  unfold d_Trail_watch
  show D.seq _ _ [some (.ref t.r), some (.int num), none] H = _
  rw [seq_next s0, seq_next s1, seq_skip, s2]
end
end Mine
namespace Mine
section
variable {n : Nat} {cells : List Int} {t : T} {sp : Nat} {H : St}

theorem ev_meth3 {c a : Nat} {F : DF} {f g h i : DE} {lo : Lo} {H H1 H2 H3 : St} {l : List MV} {v u w : MV} (hf : f lo H = some (.ref a, H)) (ha : H[a]? = some (.obj c l)) (hg : g lo H = some (v, H1)) (hh : h lo H1 = some (u, H2)) (hi : i lo H2 = some (w, H3)) : D.meth c F f [g, h, i] lo H = F [.ref a, v, u, w] H3 := by
  unfold D.meth; rw [hf]; dsimp only [bnd]; rw [if_pos (isObj_of ha), ev_args3 hg hh hi]
theorem ev_tuple {f : DE} {lo : Lo} {H H1 : St} {a : Nat} {l : List MV} (hf : f lo H = some (.ref a, H1)) (ha : H1[a]? = some (.list l)) (hs : l.length ≤ 1000000) : D.bcall b.tuple [f] lo H = some (.tup l, H1) := by
  unfold D.bcall; rw [ev_args1 hf]; dsimp only [bnd]; unfold b.tuple; dsimp only; rw [ha]; exact if_pos (small_of hs)
theorem Good.xs (G : Good n t) (a b c : List MV) : Good n { t with x1 := a, x2 := b, x3 := c } :=
  ⟨G.as, G.n1, ⟨G.len.lv, G.len.rs, G.len.sp, G.len.as, G.len.tr, G.len.st⟩, G.W, G.C, G.val, G.one, G.ndo, G.sp, G.good, G.wat, G.w01⟩
theorem Ph.nextAt (P : Ph n cells t sp H) (hs : sp ≤ 100000) {m : Int} (hm : 0 < m) {f g : DE} {lo : Lo} (h0 : f lo H = some (.ref 2, H)) (hg : g lo H = some (.int m, H)) :
    ∃ x H', D.call F_law_next [f, g] lo H = some (.int x, H') ∧ 0 ≤ x ∧ x < m ∧ Ph n cells t (sp + 1) H' ∧ H'.length = H.length ∧ ∀ a, a ≠ 2 → H'[a]? = H[a]? := by
  obtain ⟨x, e, h1, h2, L'⟩ := next_ok P.reel hs hm
  exact ⟨x, _, (ev_call2 h0 hg).trans e, h1, h2, ⟨P.rep.setOut P.f2 _, P.good, L', P.f1, P.f2⟩, by simp, fun a ha => List.getElem?_set_ne (Ne.symm ha)⟩

theorem store_turn (P : Ph n cells t sp H) (hr : t.r = 3) {k : Nat} (X : Ex t H k) (hk : k < 90) (htr : t.tr ≠ []) (hn : 2 ≤ n) (hn10 : n ≤ 10) (hs : sp ≤ 70000) (u2 u3 u4 : Option MV) :
    ∃ t' sp' H' u4', b1_law_core [some (.ref 2), some (.ref 3), u2, u3, u4] H = some (.next, [some (.ref 2), some (.ref 3), u2, u3, u4'], H') ∧ Ph n cells t' sp' H' ∧ sp' ≤ sp + 21 ∧ t'.r = 3 ∧ Ex t' H' (k + 1) ∧ t'.tr = t.tr := by
  obtain ⟨sp1, a, H1, res, e1, hsp1, P1, g1, hl, hl2⟩ := lits_ok P (by (first | lia | omega)) hn htr
  have hlen := hl.len
  have e2 : D.bcall b.tuple [(D.call F_law_lits [(D.loc 0), (D.loc 1)])] [some (.ref 2), some (.ref 3), u2, u3, u4] H = some (.tup (res.map .int), H1) := ev_tuple ((ev_call2 (F := F_law_lits) (g := D.loc 0) (h := D.loc 1) (v := .ref 2) (u := .ref t.r) rfl (by rw [hr]; rfl)).trans e1) g1 (by rw [List.length_map]; (first | lia | omega))
  obtain ⟨t1, H2, e3, ht1, R2, O2⟩ := stored_ok P1.rep (k := k) ⟨X.c, X.x1, X.x2, X.x3⟩ (by (first | lia | omega)) (l := res) (by (first | lia | omega))
  have e4 := (ev_meth3 (F := F_Trail_store) (f := D.loc 1) (a := t.r) (h := D.const .none) (i := D.const (.bool false)) (by rw [hr]; rfl) (P.rep.at' .obj _ rfl) e2 rfl rfl).trans e3
  have s1 := ev_setname (i := 4) e4 (by simp)
  change D.assign _ _ _ _ = some (.next, [some (.ref 2), some (.ref 3), u2, u3, some (.int k)], H2) at s1
  have hC : t.C.length < 100 := by rw [X.c]; (first | lia | omega)
  have G1 : Good n t1 := by rw [ht1]; exact (P1.good.store hl hl2 hn10 hC H1.length).xs _ _ _
  have hr1 : t1.r = 3 := by rw [ht1]; exact hr
  have P2 : Ph n cells t1 sp1 H2 := P1.step R2 G1 O2 (fun k a h => by
    have h' : (t.addC (some (H1.length, res))).at k = some a := by rw [ht1] at h; rw [← h]; cases k <;> rfl
    rcases addC_at h' with h | h
    · exact .inl h
    · exact .inr (by (first | lia | omega)))
  have X1 : Ex t1 H2 (k + 1) := by rw [ht1]; exact ⟨by simp [T.addC, X.c], by simp [X.x1], by simp [X.x2], by simp [X.x3]⟩
  -- watch
  match res, hl, hl2, hlen, g1, e2, ht1 with
  | x :: y :: rest, hl, hl2, hlen, g1, e2, ht1 =>
    have hc1 : t1.C[k]? = some (some (H1.length, x :: y :: rest)) := by rw [ht1]; show (t.C ++ [_])[k]? = _; rw [← X.c]; simp
    have nd := hl.1
    simp only [List.map_cons, List.nodup_cons] at nd
    obtain ⟨x1, x2⟩ := hl.2 x (.head _)
    obtain ⟨y1, y2⟩ := hl.2 y (.tail _ (.head _))
    have hxy : x ≠ y := fun e => nd.1 (by rw [e]; exact .head _)
    have hpl : (plc x).toNat ≠ (plc y).toNat := fun h => hxy (plc_nat h x1 y1)
    obtain ⟨b1, n1, w1, -, -⟩ := G1.wat x x1 x2
    obtain ⟨b2, n2, w2, -, -⟩ := G1.wat y y1 y2
    have k1 := G1.short x1 x2 w1
    have k2 := G1.short y1 y2 w2
    have fresh : ∀ l : Int, 1 ≤ l.natAbs → l.natAbs ≤ n → ∀ b ns, t1.W[(plc l).toNat]? = some (b, ns) → (k : Int) ∉ ns := fun l h1 h2 b ns h hm => by
      have hW : t1.W = t.W := by rw [ht1]; rfl
      rw [hW] at h
      obtain ⟨b', ns', e, -, hx⟩ := P1.good.wat l h1 h2
      rw [h] at e; cases e
      have := (hx _ hm).2.1
      rw [X.c] at this; (first | lia | omega)
    have hW1 := G1.W
    have hC1 := G1.C
    have hn50 := G1.n1
    obtain ⟨H3, e5, R3, O3⟩ := watch_ok R2 (by (first | lia | omega)) (by (first | lia | omega)) hc1 (by (first | lia | omega)) (by (first | lia | omega)) hpl (by simp at hlen; (first | lia | omega)) w1 w2 (by (first | lia | omega)) (by (first | lia | omega))
    have hnum : ((k : Int)).toNat = k := rfl
    have cl : ∀ a1 a b r, t1.C[((k : Int)).toNat]? = some (some (a1, a :: b :: r)) → a = x ∧ b = y := fun a1 a b r h => by
      rw [hnum, hc1] at h; cases h; exact ⟨rfl, rfl⟩
    have hklt : ((k : Int)).toNat < t1.C.length := by rw [X1.c, hnum]; (first | lia | omega)
    have G3 := (G1.addW (l := x) (num := k) x1 x2 (by (first | lia | omega)) hklt (fun a1 a b r h => .inl (cl a1 a b r h).1) (fresh x x1 x2)).addW (l := y) (num := k) y1 y2 (by (first | lia | omega)) hklt (fun a1 a b r h => .inr (cl a1 a b r h).2) (fun b ns h => by
      rw [show (t1.addW (plc x).toNat k).W = addWs t1.W (x, (k : Int)) from rfl, addWs_get, if_neg hpl] at h
      exact fresh y y1 y2 b ns h)
    have P3 : Ph n cells _ sp1 H3 := P2.step R3 G3 O3 (fun k a h => .inl ⟨k, by rw [addW_at, addW_at] at h; exact h⟩)
    have X3 : Ex ((t1.addW (plc x).toNat k).addW (plc y).toNat k) H3 (k + 1) := ⟨X1.c, X1.x1, X1.x2, X1.x3⟩
    have hr3 : ((t1.addW (plc x).toNat k).addW (plc y).toNat k).r = 3 := hr1
    have ht3 : ((t1.addW (plc x).toNat k).addW (plc y).toNat k).tr = t.tr := by show t1.tr = _; rw [ht1]; rfl
    have s2 : D.expr (D.meth 1 F_Trail_watch (D.loc 1) [(D.loc 4)]) [some (.ref 2), some (.ref 3), u2, u3, some (.int k)] H2 = some (.next, [some (.ref 2), some (.ref 3), u2, u3, some (.int k)], H3) :=
      ev_expr ((ev_meth1 (F := F_Trail_watch) (f := D.loc 1) (g := D.loc 4) (a := t1.r) (v := .int k) (by rw [hr1]; rfl) (R2.at' .obj _ rfl) rfl).trans e5)
    generalize (t1.addW (plc x).toNat k).addW (plc y).toNat k = t3 at P3 X3 hr3 ht3
    -- forgotten or not
    obtain ⟨z, H4, e6, -, -, P4, -, -⟩ := P3.next (m := 8) (by (first | lia | omega)) (by (first | lia | omega)) (g := D.const (.int 8)) (lo := [some (.ref 2), some (.ref 3), u2, u3, some (.int k)]) rfl rfl
    have c6 := ev_cmpT (op := .Eq) (b := z == 7) e6 (show D.const (.int 7) _ H4 = some (.int 7, H4) from rfl) rfl
    unfold b1_law_core
    rw [seq_next s1, seq_next s2, seq_skip, ev_if c6]
    by_cases hz : z = 7
    · have hb : (z == 7) = true := by simpa using hz
      simp only [hb, if_true]
      have s3 := ev_setsub (f := D.const .none) (fa := D.attr 1 12 (D.loc 1)) (fi := D.loc 4) (lo := [some (.ref 2), some (.ref 3), u2, u3, some (.int k)]) (H := H4) (H1 := H4) (v := .none) (i := k) rfl (P4.rep.attr rfl (by rw [hr3]; rfl) rfl) rfl (P4.rep.at' .cl _ rfl) (by (first | lia | omega)) (by rw [List.length_map, X3.c, hnum]; (first | lia | omega)) (by rw [List.length_map, X3.c]; (first | lia | omega))
      rw [hnum] at s3
      refine ⟨t3.putC k none, sp1 + 1, _, some (.int k), (by rw [seq_skip]; exact s3), P4.step (P4.rep.unset k) (P4.good.unset k) ((Out.refl t3 H4).set (k := .cl) rfl _) (fun k a h => .inl ⟨k, (putC_at h).1⟩), by (first | lia | omega), hr3, ⟨by simp [T.putC, X3.c], X3.x1, X3.x2, X3.x3⟩, ht3⟩
    · have hb : (z == 7) = false := by simpa using hz
      simp only [hb, Bool.false_eq_true, if_false]
      exact ⟨t3, sp1 + 1, H4, some (.int k), rfl, P4, by (first | lia | omega), hr3, ⟨X3.c, X3.x1, X3.x2, X3.x3⟩, ht3⟩

theorem core_ok {o0 : MO} (hpos : ∀ c ∈ cells, 0 ≤ c) (hcl : cells.length ≤ 60) : ∃ n t sp H', F_law_core [.ref 2] [o0, il cells, .obj 2 [.ref 1, .int 0]] = some (.ref 3, H') ∧ Ph n cells t sp H' ∧ sp ≤ 200 ∧ t.r = 3 ∧ t.tr ≠ [] := by
  have s1 : D.assign (D.call M_Trail [(D.const .none)]) (D.tname 1) [some (.ref 2), none, none, none, none] [o0, il cells, .obj 2 [.ref 1, .int 0]] = some (.next, [some (.ref 2), some (.ref 3), none, none, none], [o0, il cells, .obj 2 [.ref 1, .int 0]] ++ born 0) :=
    ev_setname ((ev_call1 (F := M_Trail) (g := D.const .none) rfl).trans (made _ _ _)) (by simp)
  have L0 : Reel cells 0 ([o0, il cells, .obj 2 [.ref 1, .int 0]] ++ born 0) := ⟨rfl, rfl, hpos, hcl⟩
  obtain ⟨x, e1, hx0, hx1, L1⟩ := next_ok L0 (by (first | lia | omega)) (m := 3) (by (first | lia | omega))
  have hset : ([o0, il cells, .obj 2 [.ref 1, .int 0]] ++ born 0).set 2 (.obj 2 [.ref 1, .int ((0 + 1 : Nat) : Int)]) = [o0, il cells, .obj 2 [.ref 1, .int 1]] ++ born 0 := rfl
  rw [hset] at e1
  obtain ⟨n, hn4, hn6, u2, s2⟩ : ∃ n : Nat, 4 ≤ n ∧ n ≤ 6 ∧ ∃ u2, D.for (D.bcall b.range [(D.bin o.add (D.const (.int 4)) (D.call F_law_next [(D.loc 0), (D.const (.int 3))]))]) (D.tname 2) b3_law_core [some (.ref 2), some (.ref 3), none, none, none] ([o0, il cells, .obj 2 [.ref 1, .int 0]] ++ born 0) = some (.next, [some (.ref 2), some (.ref 3), u2, none, none], [o0, il cells, .obj 2 [.ref 1, .int 1]] ++ born n) := by
    have ef : D.bcall b.range [(D.bin o.add (D.const (.int 4)) (D.call F_law_next [(D.loc 0), (D.const (.int 3))]))] [some (.ref 2), some (.ref 3), none, none, none] ([o0, il cells, .obj 2 [.ref 1, .int 0]] ++ born 0) = some (.rng 0 (4 + x) 1, [o0, il cells, .obj 2 [.ref 1, .int 1]] ++ born 0) :=
      ev_range1 (ev_add (f := D.const (.int 4)) (x := 4) rfl ((ev_call2 (F := F_law_next) (g := D.loc 0) (h := D.const (.int 3)) rfl rfl).trans e1))
    have hfor : D.for (D.bcall b.range [(D.bin o.add (D.const (.int 4)) (D.call F_law_next [(D.loc 0), (D.const (.int 3))]))]) (D.tname 2) b3_law_core [some (.ref 2), some (.ref 3), none, none, none] ([o0, il cells, .obj 2 [.ref 1, .int 0]] ++ born 0) = D.forV (D.tname 2) b3_law_core (rangeItems 0 (4 + x) 1) [some (.ref 2), some (.ref 3), none, none, none] ([o0, il cells, .obj 2 [.ref 1, .int 1]] ++ born 0) := by
      unfold D.for; rw [ef]; simp only [bnd_some, srcOf]; rw [if_pos (range_small (by (first | lia | omega)) (by (first | lia | omega)) (by (first | lia | omega)) (by (first | lia | omega)))]; rfl
    have : x = 0 ∨ x = 1 ∨ x = 2 := by (first | lia | omega)
    rcases this with rfl | rfl | rfl
    · exact ⟨4, by (first | lia | omega), by (first | lia | omega), _, hfor.trans (grown4 _ _ _ _ _)⟩
    · exact ⟨5, by (first | lia | omega), by (first | lia | omega), _, hfor.trans (grown5 _ _ _ _ _)⟩
    · exact ⟨6, by (first | lia | omega), by (first | lia | omega), _, hfor.trans (grown6 _ _ _ _ _)⟩
  have P0 : Ph n cells (tz n) 1 ([o0, il cells, .obj 2 [.ref 1, .int 1]] ++ born n) := ⟨tz_rep _ _ _, tz_good (by (first | lia | omega)), ⟨rfl, rfl, hpos, hcl⟩, fun k h => by
    have := tz_kd h
    subst this
    have h' : ((tz n).W[1 - 20]?).map (·.1) = some 1 := h
    simp [tz] at h', fun k h => by
    have := tz_kd h
    subst this
    have h' : ((tz n).W[2 - 20]?).map (·.1) = some 2 := h
    simp [tz] at h'⟩
  generalize [o0, il cells, .obj 2 [.ref 1, .int 1]] ++ born n = H1 at s2 P0
  -- choices
  obtain ⟨y, H2, e3, hy0, hy1, P1, -, -⟩ := P0.next (m := 4) (by (first | lia | omega)) (by (first | lia | omega)) (g := D.const (.int 4)) (lo := [some (.ref 2), some (.ref 3), u2, none, none]) rfl rfl
  have hfor := ev_forR (g := D.tname 2) (b := b2_law_core) (ev_range1 (ev_add (f := D.const (.int 1)) (x := 1) (H1 := H1) rfl e3)) (by (first | lia | omega)) (by (first | lia | omega)) (by (first | lia | omega)) (by (first | lia | omega))
  have hmb : 1 ≤ (1 + y - 0).toNat ∧ (1 + y - 0).toNat ≤ 4 := by (first | lia | omega)
  generalize (1 + y - 0).toNat = m1 at hfor hmb
  clear hy0 hy1 e3
  have rule := forV_rule (g := D.tname 2) (b := b2_law_core) (l := (List.range m1).map fun i : Nat => MV.int (0 + i))
    (fun i lo H' => ∃ t u2 u3, lo = [some (.ref 2), some (.ref 3), u2, u3, none] ∧ Ph n cells t (2 + 3 * i) H' ∧ t.r = 3 ∧ t.C = [] ∧ t.tr.length = i ∧ t.st.length ≤ i ∧ t.x1 = [] ∧ t.x2 = [] ∧ t.x3 = [])
    (Q := fun lo H' => ∃ t u2 u3, lo = [some (.ref 2), some (.ref 3), u2, u3, none] ∧ Ph n cells t (2 + 3 * m1) H' ∧ t.r = 3 ∧ t.C = [] ∧ t.tr.length = m1 ∧ t.x1 = [] ∧ t.x2 = [] ∧ t.x3 = []) (R := fun _ _ _ => False)
    (fun i v lo H' hv ⟨t, u2, u3, hlo, P, hr, hC, htr, hst, y1, y2, y3⟩ => by
      subst hlo
      obtain ⟨hi, rfl⟩ := range_get hv
      obtain ⟨t', H'', u3', e, P', hr', hC', htr', hst', z1, z2, z3⟩ := choose_ok P hr (by (first | lia | omega)) (by (first | lia | omega)) (by (first | lia | omega)) (some (.int (0 + (i : Int)))) u3 none
      refine ⟨[some (.ref 2), some (.ref 3), some (.int (0 + (i : Int))), u3, none], H', rfl, ?_⟩
      rw [e]
      exact ⟨t', _, _, rfl, by rw [show 2 + 3 * (i + 1) = 2 + 3 * i + 3 by (first | lia | omega)]; exact P', hr', hC'.trans hC, by (first | lia | omega), by (first | lia | omega), z1.trans y1, z2.trans y2, z3.trans y3⟩)
    (fun lo H' ⟨t, u2, u3, hlo, P, hr, hC, htr, hst, y1, y2, y3⟩ => ⟨t, u2, u3, hlo, by rw [List.length_map, List.length_range] at P; exact P, hr, hC, by rw [List.length_map, List.length_range] at htr; exact htr, y1, y2, y3⟩)
    (lo := [some (.ref 2), some (.ref 3), u2, none, none]) (H := H2) ⟨tz n, u2, none, rfl, P1, rfl, rfl, rfl, Nat.le_refl _, rfl, rfl, rfl⟩
  rw [← hfor] at rule
  obtain ⟨lo3, H3, s3, t3, v2, v3, rfl, P3, hr3, hC3, htr3, y1, y2, y3⟩ := rule.next
  -- clauses
  obtain ⟨z, H4, e4, hz0, hz1, P4, -, -⟩ := P3.next (m := 4) (by (first | lia | omega)) (by (first | lia | omega)) (g := D.const (.int 4)) (lo := [some (.ref 2), some (.ref 3), v2, v3, none]) rfl rfl
  have hfor2 := ev_forR (g := D.tname 2) (b := b1_law_core) (ev_range1 (ev_add (f := D.const (.int 2)) (x := 2) (H1 := H3) rfl e4)) (by (first | lia | omega)) (by (first | lia | omega)) (by (first | lia | omega)) (by (first | lia | omega))
  have hmc : (2 + z - 0).toNat ≤ 5 := by (first | lia | omega)
  generalize (2 + z - 0).toNat = m2 at hfor2 hmc
  clear hz0 hz1 e4
  have rule2 := forV_rule (g := D.tname 2) (b := b1_law_core) (l := (List.range m2).map fun i : Nat => MV.int (0 + i))
    (fun i lo H' => ∃ t sp u2 u3 u4, lo = [some (.ref 2), some (.ref 3), u2, u3, u4] ∧ Ph n cells t sp H' ∧ sp ≤ 20 + 21 * i ∧ t.r = 3 ∧ Ex t H' i ∧ t.tr ≠ [])
    (Q := fun lo H' => ∃ t sp u2 u3 u4, lo = [some (.ref 2), some (.ref 3), u2, u3, u4] ∧ Ph n cells t sp H' ∧ sp ≤ 200 ∧ t.r = 3 ∧ t.tr ≠ []) (R := fun _ _ _ => False)
    (fun i v lo H' hv ⟨t, sp, u2, u3, u4, hlo, P, hsp, hr, X, htr⟩ => by
      subst hlo
      obtain ⟨hi, rfl⟩ := range_get hv
      obtain ⟨t', sp', H'', u4', e, P', hsp', hr', X', htr'⟩ := store_turn P hr X (by (first | lia | omega)) htr (by (first | lia | omega)) (by (first | lia | omega)) (by (first | lia | omega)) (some (.int (0 + (i : Int)))) u3 u4
      refine ⟨[some (.ref 2), some (.ref 3), some (.int (0 + (i : Int))), u3, u4], H', rfl, ?_⟩
      rw [e]
      exact ⟨t', sp', _, _, _, rfl, P', by (first | lia | omega), hr', X', by rw [htr']; exact htr⟩)
    (fun lo H' ⟨t, sp, u2, u3, u4, hlo, P, hsp, hr, X, htr⟩ => ⟨t, sp, u2, u3, u4, hlo, P, by rw [List.length_map, List.length_range] at hsp; (first | lia | omega), hr, htr⟩)
    (lo := [some (.ref 2), some (.ref 3), v2, v3, none]) (H := H4) ⟨t3, _, v2, v3, none, rfl, P4, by (first | lia | omega), hr3, ⟨by rw [hC3]; rfl, by rw [y1]; rfl, by rw [y2]; rfl, by rw [y3]; rfl⟩, fun e => by rw [e] at htr3; simp at htr3; (first | lia | omega)⟩
  rw [← hfor2] at rule2
  obtain ⟨lo5, H5, s4, t5, sp5, w2, w3, w4, rfl, P5, hsp5, hr5, htr5⟩ := rule2.next
  refine ⟨n, t5, sp5, H5, fn_ret (lo' := [some (.ref 2), some (.ref 3), w2, w3, w4]) rfl ?_, P5, hsp5, hr5, htr5⟩
  unfold d_law_core
  show D.seq _ _ [some (.ref 2), none, none, none, none] _ = _
  rw [seq_next s1, seq_next s2, seq_next s3, seq_next s4, seq_skip]
  rfl

theorem Ph.looked {t' : T} {H' : St} (P : Ph n cells t sp H) (Lk : Looked n t t' H H') : Ph n cells t' sp H' := by
  have := P.long
  refine ⟨Lk.rep, Lk.good, P.reel.keep (Lk.out 1 P.f1 (by (first | lia | omega))) (Lk.out 2 P.f2 (by (first | lia | omega))), fun k h => ?_, fun k h => ?_⟩
  · rcases Lk.at' k 1 h with ⟨k', h'⟩ | h'
    · exact P.f1 k' h'
    · (first | lia | omega)
  · rcases Lk.at' k 2 h with ⟨k', h'⟩ | h'
    · exact P.f2 k' h'
    · (first | lia | omega)

theorem law_true (is : List Int) (h : is.length ≤ 63) : ∃ lo' H', d_law (some (.frz is) :: List.replicate 3 none) [] = some (.ret (.bool true), lo', H') := by
  show ∃ lo' H', d_law [some (.frz is), none, none, none] [] = _
  have e0 : D.slice (D.loc 0) none (some (D.const (.int 60))) none [some (.frz is), none, none, none] [] = some (.ref 0, [il (is.take 60)]) := by
    have sm : small (is.map MV.int).length = true := by simp [small]; (first | lia | omega)
    unfold D.slice
    simp only [D.loc, D.part, D.const, bnd_some, List.getElem?_cons_zero, itemsOf, sm, if_true]
    rw [if_neg (by simp), show (60 : Int) = ((60 : Nat) : Int) from rfl, pick_take, ← List.map_take]
    rfl
  have e1 := ev_comp (q := 4) (f := D.slice (D.loc 0) none (some (D.const (.int 60))) none) (t := D.yes) (e := D.bin o.mod (D.bcall b.abs [(D.loc 4)]) (D.const (.int 1000003))) (lo := [some (.frz is), none, none, none]) (H := []) (fun _ => true) (mapI fun i => (i.natAbs : Int).fmod 1000003) e0 (l := (is.take 60).map .int) rfl rfl (by rw [List.length_map, List.length_take]; (first | lia | omega)) (fun _ _ => rfl)
    (fun v hv _ => by
      obtain ⟨i, hi, rfl⟩ := List.mem_map.mp hv
      exact (ev_bin (ev_abs (f := D.loc 4) (i := i) rfl) (show D.const (.int 1000003) _ _ = some (.int 1000003, _) from rfl)).trans rfl)
  rw [List.filter_eq_self.mpr (fun _ _ => rfl), map_mapI] at e1
  have hpos : ∀ c ∈ (is.take 60).map (fun i => (i.natAbs : Int).fmod 1000003), 0 ≤ c := fun c hc => by
    obtain ⟨i, _, rfl⟩ := List.mem_map.mp hc
    exact Int.fmod_nonneg_of_pos _ (by (first | lia | omega))
  have hcl : ((is.take 60).map (fun i => (i.natAbs : Int).fmod 1000003)).length ≤ 60 := by rw [List.length_map, List.length_take]; (first | lia | omega)
  generalize (is.take 60).map (fun i => (i.natAbs : Int).fmod 1000003) = cells at e1 hpos hcl
  have s1 : D.assign (D.dict2 2 (D.comp 4 1 (D.slice (D.loc 0) none (some (D.const (.int 60))) none) (D.tname 4) D.yes (D.bin o.mod (D.bcall b.abs [(D.loc 4)]) (D.const (.int 1000003)))) (D.const (.int 0))) (D.tname 1) [some (.frz is), none, none, none] [] = some (.next, [some (.frz is), some (.ref 2), none, none], [il (is.take 60), il cells, .obj 2 [.ref 1, .int 0]]) := by
    refine (ev_setname (H1 := [il (is.take 60), il cells, .obj 2 [.ref 1, .int 0]]) (v := .ref 2) ?_ (by simp)).trans rfl
    unfold D.dict2
    rw [e1]; rfl
  obtain ⟨n, t, sp, H2, e2, P2, hsp, hr, htr⟩ := core_ok (o0 := il (is.take 60)) hpos hcl
  have s2 : D.assign (D.call F_law_core [(D.loc 1)]) (D.tname 2) [some (.frz is), some (.ref 2), none, none] [il (is.take 60), il cells, .obj 2 [.ref 1, .int 0]] = some (.next, [some (.frz is), some (.ref 2), some (.ref 3), none], H2) := ev_setname ((ev_call1 (F := F_law_core) (g := D.loc 1) rfl).trans e2) (by simp)
  obtain ⟨z, H3, e3, hz0, hz1, P3, -, -⟩ := P2.nextAt (m := 3) (by (first | lia | omega)) (by (first | lia | omega)) (f := D.loc 1) (g := D.const (.int 3)) (lo := [some (.frz is), some (.ref 2), some (.ref 3), none]) rfl rfl
  have hfor := ev_forR (g := D.tname 3) (b := b1_law) (ev_range1 (ev_add (f := D.const (.int 1)) (x := 1) (H1 := H2) rfl e3)) (by (first | lia | omega)) (by (first | lia | omega)) (by (first | lia | omega)) (by (first | lia | omega))
  have hmb : (1 + z - 0).toNat ≤ 3 := by (first | lia | omega)
  generalize (1 + z - 0).toNat = m1 at hfor hmb
  clear hz0 hz1 e3
  have rule := forV_rule (g := D.tname 3) (b := b1_law) (l := (List.range m1).map fun i : Nat => MV.int (0 + i))
    (fun i lo H' => ∃ t sp u3, lo = [some (.frz is), some (.ref 2), some (.ref 3), u3] ∧ Ph n cells t sp H' ∧ sp ≤ 300 + i ∧ t.r = 3 ∧ t.tr ≠ [])
    (Q := fun lo H' => True) (R := fun _ _ _ => False)
    (fun i v lo H' hv ⟨t, sp, u3, hlo, P, hsp, hr, htr⟩ => by
      subst hlo
      obtain ⟨hi, rfl⟩ := range_get hv
      refine ⟨[some (.frz is), some (.ref 2), some (.ref 3), some (.int (0 + (i : Int)))], H', rfl, ?_⟩
      have htl := P.good.len.tr
      have htp := List.length_pos_iff.mpr htr
      have e4 := ev_len (f := D.attr 1 8 (D.loc 2)) (lo := [some (.frz is), some (.ref 2), some (.ref 3), some (.int (0 + (i : Int)))]) (H := H') (P.rep.attr rfl (by rw [hr]; rfl) rfl) (P.rep.at' .tr _ rfl) (by rw [List.length_map]; (first | lia | omega))
      rw [List.length_map] at e4
      obtain ⟨y, H4, e5, hy0, hy1, P4, -, -⟩ := P.nextAt (m := t.tr.length) (by (first | lia | omega)) (by (first | lia | omega)) (f := D.loc 1) (g := D.bcall b.len [(D.attr 1 8 (D.loc 2))]) (lo := [some (.frz is), some (.ref 2), some (.ref 3), some (.int (0 + (i : Int)))]) rfl e4
      have hyl : y.toNat < t.tr.length := by (first | lia | omega)
      have e6 : D.sub (D.attr 1 8 (D.loc 2)) (D.call F_law_next [(D.loc 1), (D.bcall b.len [(D.attr 1 8 (D.loc 2))])]) [some (.frz is), some (.ref 2), some (.ref 3), some (.int (0 + (i : Int)))] H' = some (.int t.tr[y.toNat], H4) :=
        ev_sub (P.rep.attr rfl (by rw [hr]; rfl) rfl) e5 (getI_list (P4.rep.at' .tr _ rfl) hy0 (il_get (List.getElem?_eq_getElem hyl)) (by rw [List.length_map]; (first | lia | omega)))
      have hm := List.getElem_mem hyl
      generalize t.tr[y.toNat] = v at e6 hm
      obtain ⟨t', H5, e7, Lk⟩ := looked_ok P4.rep P4.good (gone := -v) (by rw [Int.neg_neg]; exact hm)
      have hc : D.not (D.truth (D.call F_law_is_looked_right [(D.loc 2), (D.neg (D.sub (D.attr 1 8 (D.loc 2)) (D.call F_law_next [(D.loc 1), (D.bcall b.len [(D.attr 1 8 (D.loc 2))])])))])) [some (.frz is), some (.ref 2), some (.ref 3), some (.int (0 + (i : Int)))] H' = some (false, H5) := by
        unfold D.not
        rw [ev_truth ((ev_call2 (F := F_law_is_looked_right) (g := D.loc 2) (v := .ref t.r) (by rw [hr]; rfl) (ev_neg e6)).trans e7)]; rfl
      unfold b1_law
      rw [seq_skip, ev_ifF hc]
      obtain ⟨xs, hxs⟩ := Lk.tr
      exact ⟨t', sp + 1, _, rfl, P4.looked Lk, by (first | lia | omega), by rw [Lk.r]; exact hr, fun e => htr (by rw [e] at hxs; exact (List.append_eq_nil_iff.mp hxs).1)⟩)
    (fun _ _ _ => trivial) (lo := [some (.frz is), some (.ref 2), some (.ref 3), none]) (H := H3) ⟨t, _, none, rfl, P3, by (first | lia | omega), hr, htr⟩
  rw [← hfor] at rule
  obtain ⟨lo4, H4, s3, -⟩ := rule.next
  refine ⟨lo4, H4, ?_⟩
  unfold d_law
  rw [seq_next s1, seq_next s2, seq_next s3, seq_skip]
  rfl
end
end Mine
namespace Mine
theorem hp (args : List WData) : PySem.Challenge.rw_qz0012_01.row.claim.post args (.bool true) args = true := by
  show (WShape.has [] (.bool true) .bool && WTm.holds [] (.eq .res (.lit (.bool true))) { args := args, res := some (.bool true), after := args }) = true
  have h1 : WShape.has [] (.bool true) .bool = true := by simp [WShape.has, WShape.arms]
  rw [h1, Bool.true_and]
  unfold WTm.holds
  have h2 : same (WData.bool true) (WData.bool true) = true := by simp [same]
  simp only [WTm.value, h2]

theorem join {w : World} {s₁ s : Shared} {mg mb : Str → Option Value} {p : Program} {loose : List Str} (KX : (K0 w.params).In s₁.heap) (T : TopRead p loose mg mb s₁.heap) (hg : s₁.gens = #[]) {script : Addr} {vs : List Value} {is : List Int}
    (hL : s₁.heap.IsList script vs.toArray) (hI : IntsAre vs is) (hlen : ¬ (63 : Int) < is.length) {m : Str → Option Value} (F : Fr s₁.heap s₁.heap.objs.size s.heap m) (hm : m "script" = some (.ref script)) (hos : s.os = s₁.os) (hgs : s.gens = s₁.gens)
    {A : Around} (R : Room 6 A) {qual : Str} {scope : Scope} {a : Addr} {cd : Value} (hk : scope.kind = .function) (hnc : (scope.names.all fun p => decide (p.2 ≠ .cell)) = true) {body : List Stmt} {cl : Str → Option Addr} {mean : ExcName → Option Value} {args : List WData} {E : Value → Shared → Prop}
    (hb : SB (W1 ⟨w, s₁.heap, mg, mb, p, loose, KX, T⟩) 6 (envOf qual scope s₁.heap.objs.size a cd) [some "script", some "reel", some "core", some "turn"] body d_law) (hpost : PySem.Challenge.rw_qz0012_01.row.claim.post args (.bool true) args = true) (hraise : ∀ cls, PySem.Challenge.rw_qz0012_01.row.claim.raises args cls = false) :
    wpAny (model PySem.Challenge.rw_qz0012_01.row.prog w) A (execs body (envOf qual scope s₁.heap.objs.size a cd)) (fun f s' => GoodW PySem.Challenge.rw_qz0012_01.row.claim cl mean args s₁ (.ok (.ret (match f with | .ret v => v | _ => .none))) s') E s := by
  obtain ⟨lo', H', hf⟩ := law_true is (by omega)
  have hfree : s₁.heap.get? s₁.heap.objs.size = none := free_end _
  have S0 : Sim (W1 ⟨w, s₁.heap, mg, mb, p, loose, KX, T⟩) [] [] s.heap := ⟨F.keep, rfl, List.nodup_nil, (fun _ h => nomatch h), fun i o e => by simp at e⟩
  have noc : ∀ x, scope.names.lookup x = some .cell → False := fun x hx => by
    have := List.all_eq_true.mp hnc _ (mem_of_lookup hx)
    simp at this
  have L0 : Loc (W1 ⟨w, s₁.heap, mg, mb, p, loose, KX, T⟩) (envOf qual scope s₁.heap.objs.size a cd) [some "script", some "reel", some "core", some "turn"] (some (.frz is) :: List.replicate 3 none) [] s.heap := by
    refine ⟨hk, rfl, rfl, fun b hb => ?_, noDup_uniq (by decide), ⟨m, F.ns, fun i x v h1 h2 h3 => ?_⟩, fun i x v h1 h2 h3 => (noc x h2).elim, fun x hx => (noc x hx).elim, fun x c hc => by simp [envOf] at hc⟩
    · rcases hb with rfl | hb
      · obtain ⟨o, es, ep, e1, e2, _⟩ := F.ns
        exact ⟨by simp, hfree, o, e1, by unfold fixed; rw [e2]⟩
      · simp [envOf] at hb
    · cases i with
      | zero =>
        simp at h1 h3
        subst h1; subst h3
        exact ⟨_, hm, .frz _ _ vs hL hI⟩
      | succ i =>
        rw [List.getElem?_cons_succ] at h3
        have := List.mem_of_getElem? h3
        rw [List.mem_replicate] at this
        cases this.2
  refine noE (wpAny_mono (hb A [] _ [] s _ lo' H' hf R S0 L0) (fun y s' ⟨φ', E', L', rf⟩ => ?_) fun _ _ x => x.elim)
  cases y <;> simp only [RFl] at rf
  cases rf
  obtain ⟨h', t', rfl⟩ := E'.same
  exact ⟨.inl ⟨_, _, [], rfl, hraise, .bool true, hpost, fun _ => ⟨List.nodup_nil, (fun _ h => nomatch h)⟩⟩, E'.sim.base, hos, hgs.trans hg⟩
end Mine

theorem PySem.Challenge.cw_qz0012_01_holds : PySem.Challenge.rw_qz0012_01.Holds := by
  w_on
  o_law
  o_head (kHook Mine.K0 Mine.ads (fun _ => rfl))
  (case hw => w_witness2)
  intro w s₀ s₁ mg mb G Y fa o pm cd doc dV kV ho hd hcd hD hmg hg args vals as hpre hlay hrd hwl hlo
  have KX := kIn_of Y
  refine Ground.open G ?_
  intro T B D TE TW
  try (refine guard_noD D (by decide +kernel) ?_; clear D)
  obtain ⟨_, _, M⟩ := bmod_of_top T
  have TA := at_of_top T
  try (obtain ⟨_, _, he, Bs⟩ := based_of_top T rfl hmg ho hd; have he' : cd = _ := he; subst he'; clear he)
  clear hmg
  wrow_args hpre hlay hrd hwl hlo
  first | refine callC_kw (enter_call ?_) | refine enter_call ?_ | refine callC_kw (enter_callW ?_) | refine enter_callW ?_ | w_how
  w_top on
  try refine codeAny_mono ?_ (fun _ _ g => GoodW.toG g)
  have Kb := below_caller (Top.heap T)
  w_call any ho hd hcd hD T F
  refine Mine.join (by assumption) (topRead_of (by assumption)) (by assumption) (by assumption) (by assumption) (by assumption) (by assumption) (by rfl) (by rfl) (by rfl) ⟨rfl, by show 1 + claimMargin + 1 + 6 ≤ 600; decide, by show 4 + 3 + 20 * 6 ≤ 8000; decide⟩ (by rfl) (by rfl) ?_ ?_ ?_
  · generalize Mine.Par.mk _ _ _ _ _ _ _ _ = p
    unfold Mine.d_law
    open Mine in
    exact (sb_cons (ss_assign (se_dict2 (by rfl) (by rfl) (by decide) (se_comp (comp_ok (csl := [none, none, none, none, some "cell"]) (by kernel_rfl) (fun C => (tn_loc (by rfl) (by rfl) (.head _))) (fun C => ct_nil) (fun C => (se_bin ok_mod (se_bl (bl_abs p) cb_abs (sa_cons (se_loc (by rfl) (.inl (by rfl)) (by rfl)) sa_nil (by rfl)) (plain_cons (by rfl)) (by rfl) (by rfl)) se_int))) (se_slice (se_loc (by rfl) (.inl (by rfl)) (by rfl)) sp_none (sp_some se_int) sp_none) (fun _ => by rfl)) se_int) (tn_loc (by rfl) (by rfl) (.head _)) (by rfl) (by rfl) (by rfl))
  (sb_cons (ss_assign (se_fn (fn_law_core p) (fs_law_core p) (sa_cons (se_loc (by rfl) (.inl (by rfl)) (by rfl)) sa_nil (by rfl)) (plain_cons (by rfl)) (by decide) (by rfl) (by rfl)) (tn_loc (by rfl) (by rfl) (.head _)) (by rfl) (by rfl) (by rfl))
  (sb_cons (ss_for (se_bl (bl_range p) cb_range (sa_cons (se_bin ok_add se_int (se_fn (fn_law_next p) (fs_law_next p) (sa_cons (se_loc (by rfl) (.inl (by rfl)) (by rfl)) (sa_cons se_int sa_nil (by rfl)) (by rfl)) (plain_cons (by rfl)) (by decide) (by rfl) (by rfl))) sa_nil (by rfl)) (plain_cons (by rfl)) (by rfl) (by rfl)) (tn_loc (by rfl) (by rfl) (.head _)) (sb_cons (ss_if (st_not (st_val (se_fn (fn_law_is_looked_right p) (fs_law_is_looked_right p) (sa_cons (se_loc (by rfl) (.inl (by rfl)) (by rfl)) (sa_cons (se_neg (se_sub (se_attr (kls1 p) (by rfl) (se_loc (by rfl) (.inl (by rfl)) (by rfl)) (by rfl)) (se_fn (fn_law_next p) (fs_law_next p) (sa_cons (se_loc (by rfl) (.inl (by rfl)) (by rfl)) (sa_cons (se_bl (bl_len p) cb_len (sa_cons (se_attr (kls1 p) (by rfl) (se_loc (by rfl) (.inl (by rfl)) (by rfl)) (by rfl)) sa_nil (by rfl)) (plain_cons (by rfl)) (by rfl) (by rfl)) sa_nil (by rfl)) (by rfl)) (plain_cons (by rfl)) (by decide) (by rfl) (by rfl)) (fun _ _ _ => ⟨_, by rfl⟩))) sa_nil (by rfl)) (by rfl)) (plain_cons (by rfl)) (by decide) (by rfl) (by rfl)) (by rfl))) (sb_cons (ss_ret se_bool)
  sb_nil) sb_nil)
  sb_nil) (fun _ => by rfl))
  (sb_cons (ss_ret se_bool)
  sb_nil))))
  · exact Mine.hp _
  · intro cls; rfl
