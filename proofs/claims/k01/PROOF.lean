import PyProof.Rows.All
import Wide.All
import OpenK.AllK
import Wide.FinOn
import HandS.ForMost
import HandS.Exc
import HandS.TryOnly
import HandS.ExcOwn
import HandS.WordsExc
import HandS.Evl
import HandS.Wide
import HandS.IsInst
import HandS.TupAny
import HandS.Rev
import HandS.RevRange
import HandS.Defaults
import HandS.Conv
import HandS.Zip
import HandS.ExcCtx
import HandS.HotCalls
import HandS.ExcIs
import HandS.ExcField
import KE.GoesEnum
import PySem.Challenge.RW_heightfractions_k01_fractions_made
set_option Elab.async false
set_option linter.all false
set_option maxRecDepth 100000
set_option maxHeartbeats 4000000
namespace Hf
open PySem PySem.Spec PyProof.Rows L2
open Evl (Ex)

abbrev D := PyData
abbrev St := L2.St
def kD : Key → D
  | .inl i => .int i
  | .inr s => .str s

mutual
inductive Is (K : PySem.W.Frag) (H : Hp) : V → D → Prop
  | non : Is K H .non .none
  | bl (b : Bool) : Is K H (.bl b) (.bool b)
  | int (i : Int) : Is K H (.int i) (.int i)
  | str (x : Str) : Is K H (.str x) (.str x)
  | lst {a : Addr} {xs : List V} {ds : List D} : SqL K H a xs → IsAll K H xs ds → Is K H (.ref a) (.list ds)
  | tup {a : Addr} {xs : List V} {ds : List D} : SqT K H a xs → IsAll K H xs ds → Is K H (.ref a) (.tuple ds)
  | dic {a : Addr} {kvs : List (Key × V)} {es : List (D × D)} : H a = some (.dK kvs) → IsKv K H kvs es → Is K H (.ref a) (.dict es)
  | obj {a C dx : Addr} : H a = some (.ins C dx []) → Is K H (.ref a) (.dict [(.none, .int (C : Nat))])
  | ptr (a : Addr) : Is K H (.ref a) (.dict [(.bool true, .int (a : Nat))])
inductive IsAll (K : PySem.W.Frag) (H : Hp) : List V → List D → Prop
  | nil : IsAll K H [] []
  | cons {v : V} {vs : List V} {d : D} {ds : List D} : Is K H v d → IsAll K H vs ds → IsAll K H (v :: vs) (d :: ds)
inductive IsKv (K : PySem.W.Frag) (H : Hp) : List (Key × V) → List (D × D) → Prop
  | nil : IsKv K H [] []
  | cons {k : Key} {v : V} {kvs : List (Key × V)} {d : D} {es : List (D × D)} : Is K H v d → IsKv K H kvs es → IsKv K H ((k, v) :: kvs) ((kD k, d) :: es)
end

section
variable {K : PySem.W.Frag} {H H' : Hp}
mutual
theorem Is.mono (e : Ex H H') : ∀ {v : V} {d : D}, Is K H v d → Is K H' v d
  | _, _, .non => .non
  | _, _, .bl b => .bl b
  | _, _, .int i => .int i
  | _, _, .str x => .str x
  | _, _, .lst s a => .lst (Evl.ex_l e s) (IsAll.mono e a)
  | _, _, .tup s a => .tup (Evl.ex_t e s) (IsAll.mono e a)
  | _, _, .dic s a => .dic (e _ _ s) (IsKv.mono e a)
  | _, _, .obj s => .obj (e _ _ s)
  | _, _, .ptr a => .ptr a
theorem IsAll.mono (e : Ex H H') : ∀ {v : List V} {d : List D}, IsAll K H v d → IsAll K H' v d
  | _, _, .nil => .nil
  | _, _, .cons a b => .cons (Is.mono e a) (IsAll.mono e b)
theorem IsKv.mono (e : Ex H H') : ∀ {v : List (Key × V)} {d : List (D × D)}, IsKv K H v d → IsKv K H' v d
  | _, _, .nil => .nil
  | _, _, .cons a b => .cons (Is.mono e a) (IsKv.mono e b)
end
theorem IsAll.len : ∀ {vs : List V} {ds : List D}, IsAll K H vs ds → vs.length = ds.length
  | _, _, .nil => rfl
  | _, _, .cons _ b => by rw [List.length_cons, List.length_cons, IsAll.len b]
theorem IsAll.get : ∀ {vs : List V} {ds : List D} {i : Nat} {d : D}, IsAll K H vs ds → ds[i]? = some d → ∃ v, vs[i]? = some v ∧ Is K H v d
  | _, _, _, _, .nil, h => by simp at h
  | _, _, 0, _, .cons a _, h => by simp at h; subst h; exact ⟨_, rfl, a⟩
  | _, _, i + 1, _, .cons _ b, h => by
    obtain ⟨v, h1, h2⟩ := IsAll.get (i := i) b (by simpa using h)
    exact ⟨v, by simpa using h1, h2⟩
theorem IsAll.at : ∀ {vs : List V} {ds : List D} {i : Nat} {v : V}, IsAll K H vs ds → vs[i]? = some v → ∃ d, ds[i]? = some d ∧ Is K H v d
  | _, _, _, _, .nil, h => by simp at h
  | _, _, 0, _, .cons a _, h => by simp at h; subst h; exact ⟨_, rfl, a⟩
  | _, _, i + 1, _, .cons _ b, h => by
    obtain ⟨v, h1, h2⟩ := IsAll.at (i := i) b (by simpa using h)
    exact ⟨v, by simpa using h1, h2⟩
theorem IsAll.of : ∀ {vs : List V} {ds : List D}, vs.length = ds.length → (∀ (i : Nat) v d, vs[i]? = some v → ds[i]? = some d → Is K H v d) → IsAll K H vs ds
  | [], [], _, _ => .nil
  | [], _ :: _, h, _ => by simp at h
  | _ :: _, [], h, _ => by simp at h
  | v :: vs, d :: ds, h, q => .cons (q 0 v d rfl rfl) (IsAll.of (by simpa using h) fun i a b h1 h2 => q (i + 1) a b (by simpa using h1) (by simpa using h2))
theorem IsAll.app {xs ys : List V} {ds es : List D} (h : IsAll K H xs ds) (g : IsAll K H ys es) : IsAll K H (xs ++ ys) (ds ++ es) := by
  induction xs generalizing ds with
  | nil => cases h; exact g
  | cons x xs ih => cases h with | cons a b => exact .cons a (ih b)
theorem IsAll.one {v : V} {d : D} (h : Is K H v d) : IsAll K H [v] [d] := .cons h .nil
theorem IsAll.take {xs : List V} {ds : List D} (n : Nat) (h : IsAll K H xs ds) : IsAll K H (xs.take n) (ds.take n) := by
  induction n generalizing xs ds with
  | zero => exact .nil
  | succ n ih => cases h with | nil => exact .nil | cons a b => exact .cons a (ih b)
theorem IsAll.drop {xs : List V} {ds : List D} (n : Nat) (h : IsAll K H xs ds) : IsAll K H (xs.drop n) (ds.drop n) := by
  induction n generalizing xs ds with
  | zero => exact h
  | succ n ih => cases h with | nil => exact .nil | cons a b => exact ih b
theorem IsAll.set {xs : List V} {ds : List D} {v : V} {d : D} (i : Nat) (q : Is K H v d) (h : IsAll K H xs ds) : IsAll K H (xs.set i v) (ds.set i d) := by
  induction i generalizing xs ds with
  | zero => cases h with | nil => exact .nil | cons a b => exact .cons q b
  | succ n ih => cases h with | nil => exact .nil | cons a b => exact .cons a (ih b)
theorem IsAll.reverse {xs : List V} {ds : List D} (h : IsAll K H xs ds) : IsAll K H xs.reverse ds.reverse := by
  induction xs generalizing ds with
  | nil => cases h; exact .nil
  | cons x xs ih => cases h with | cons a b => rw [List.reverse_cons, List.reverse_cons]; exact (ih b).app (.one a)
theorem IsAll.repl {v : V} {d : D} (h : Is K H v d) : ∀ n : Nat, IsAll K H (List.replicate n v) (List.replicate n d)
  | 0 => .nil
  | n + 1 => .cons h (IsAll.repl h n)
theorem IsAll.ints : ∀ ns : List Int, IsAll K H (ns.map V.int) (ns.map PyData.int)
  | [] => .nil
  | n :: ns => .cons (.int n) (IsAll.ints ns)
theorem IsAll.toInts : ∀ {vs : List V} {ns : List Int}, IsAll K H vs (ns.map PyData.int) → vs = ns.map V.int
  | _, [], .nil => rfl
  | _, n :: ns, .cons a b => by cases a; rw [IsAll.toInts b]; rfl
mutual
theorem Is.dp : ∀ {v : V} {d : D}, Is K H v d → d.canLay0 = true → Dp K H v d
  | _, _, .non, _ => .non
  | _, _, .bl b, _ => .bl b
  | _, _, .int i, _ => .int i
  | _, _, .str x, _ => .str x
  | _, _, .lst s a, h => .lst s (IsAll.dp a (by simpa [PyData.canLay0] using h))
  | _, _, .tup s a, h => .tup s (IsAll.dp a (by simpa [PyData.canLay0] using h))
  | _, _, .dic s a, h => by simp [PyData.canLay0] at h
  | _, _, .obj s, h => by simp [PyData.canLay0] at h
  | _, _, .ptr a, h => by simp [PyData.canLay0] at h
theorem IsAll.dp : ∀ {vs : List V} {ds : List D}, IsAll K H vs ds → PyData.canLayAll0 ds = true → DpAll K H vs ds
  | _, _, .nil, _ => .nil
  | _, _, .cons a b, h => by
    have h' := Bool.and_eq_true_iff.mp (by simpa [PyData.canLayAll0] using h)
    exact .cons (Is.dp a h'.1) (IsAll.dp b h'.2)
end
end

section
variable (X : Cx)
def wE (e : Expr) : TE := fun σ H Q => ∀ (pins : List (Addr × Obj)) (s : Shared), Inv X pins σ H s → wpAny (model X.prog X.w) X.A (eval e X.env) (EP X pins σ Q) X.xe s
def wT (e : Expr) : TT := fun σ H Q => ∀ (pins : List (Addr × Obj)) (s : Shared), Inv X pins σ H s → wpAny (model X.prog X.w) X.A (isTrue e X.env (eval e X.env)) (TP X pins σ Q) X.xe s
def wW (e : Expr) : TT := fun σ H Q => ∀ (whole : Sem Value) (pins : List (Addr × Obj)) (s : Shared), Inv X pins σ H s → wpAny (model X.prog X.w) X.A (isTrue e X.env whole) (TP X pins σ Q) X.xe s
def wA (es : List Expr) : TA := fun σ H Q => ∀ (pos : Pos) (pins : List (Addr × Obj)) (s : Shared), Inv X pins σ H s → wpAny (model X.prog X.w) X.A (spliced (backTo pos (starEach es X.env))) (AP X pins σ Q) X.xe s
def wS (st : Stmt) : TS := fun D σ H => ∀ (pins : List (Addr × Obj)) (s : Shared), Inv X pins σ H s → wpAny (model X.prog X.w) X.A (exec st X.env) (SP X pins D) X.xe s
def wSs (sts : List Stmt) : TS := fun D σ H => ∀ (pins : List (Addr × Obj)) (s : Shared), Inv X pins σ H s → wpAny (model X.prog X.w) X.A (execs sts X.env) (SP X pins D) X.xe s
end
section
variable {X : Cx} {e : Expr} {es : List Expr} {st : Stmt} {sts : List Stmt} {σ : St} {H : Hp}
theorem pe_w : PE X e (wE X e) := ⟨fun pins s _ _ _ I h => h pins s I⟩
theorem pt_w : PT X e (wT X e) := ⟨fun pins s _ _ _ I h => h pins s I⟩
theorem pw_w : PW X e (wW X e) := ⟨fun whole pins s _ _ _ I h => h whole pins s I⟩
theorem pa_w : PA X es (wA X es) := ⟨fun pos pins s _ _ _ I h => h pos pins s I⟩
theorem ps_w : PS X st (wS X st) := ⟨fun pins s _ _ _ I h => h pins s I⟩
theorem pss_w : PSs X sts (wSs X sts) := ⟨fun pins s _ _ _ I h => h pins s I⟩
theorem wE_of {t : TE} {Q : VK} (h : PE X e t) (q : t σ H Q) : wE X e σ H Q := fun pins s I => h.run pins s σ H Q I q
theorem wT_of {t : TT} {Q : Bool → Hp → Prop} (h : PT X e t) (q : t σ H Q) : wT X e σ H Q := fun pins s I => h.run pins s σ H Q I q
theorem wW_of {t : TT} {Q : Bool → Hp → Prop} (h : PW X e t) (q : t σ H Q) : wW X e σ H Q := fun whole pins s I => h.run whole pins s σ H Q I q
theorem wA_of {t : TA} {Q : List V → Hp → Prop} (h : PA X es t) (q : t σ H Q) : wA X es σ H Q := fun pos pins s I => h.run pos pins s σ H Q I q
theorem wS_of {t : TS} {D : Ends} (h : PS X st t) (q : t D σ H) : wS X st D σ H := fun pins s I => h.run pins s σ H D I q
theorem wSs_of {t : TS} {D : Ends} (h : PSs X sts t) (q : t D σ H) : wSs X sts D σ H := fun pins s I => h.run pins s σ H D I q
theorem ep_imp {pins : List (Addr × Obj)} {Q Q' : VK} {u : Value} {s : Shared} (h : EP X pins σ Q u s) (k : ∀ v H, Q v H → Q' v H) : EP X pins σ Q' u s := by
  obtain ⟨v, H, a, b, c⟩ := h
  exact ⟨v, H, a, b, k _ _ c⟩
theorem wE_imp {Q Q' : VK} (h : wE X e σ H Q) (k : ∀ v H, Q v H → Q' v H) : wE X e σ H Q' := fun pins s I => thn (h pins s I) fun _ _ q => ep_imp q k
end

inductive Cell
  /-- unknown -/
  | no
  /-- data -/
  | d (x : D)
  /-- a list of one's own, a dict of one's own: may be changed -/
  | ml (ds : List D)
  | md (es : List (D × D))

def CellOk (K : PySem.W.Frag) (Hd H : Hp) : Cell → Option V → Prop
  | .no, _ => True
  | .d x, ov => ∃ v, ov = some v ∧ Is K Hd v x
  | .ml ds, ov => ∃ l vs, ov = some (.ref l) ∧ Hd l = none ∧ H l = some (.lst vs) ∧ IsAll K Hd vs ds
  | .md es, ov => ∃ l kvs, ov = some (.ref l) ∧ Hd l = none ∧ H l = some (.dK kvs) ∧ IsKv K Hd kvs es
def ownAt : Cell → Option V → Addr → Prop
  | .ml _, ov, l => ov = some (.ref l)
  | .md _, ov, l => ov = some (.ref l)
  | _, _, _ => False

/-- a step: data heap and heap grow -/
structure Stp (Hd H Hd' H' : Hp) : Prop where
  d : Ex Hd Hd'
  h : Ex H H'
  s : Ex Hd' H'
  f : ∀ a o, Hd' a = some o → Hd a = none → H a = none
structure Rl (K : PySem.W.Frag) (Γ : List Cell) (σ : St) (Hd H : Hp) : Prop where
  len : σ.length = Γ.length
  sub : Ex Hd H
  cell : ∀ (i : Nat) c ov, Γ[i]? = some c → σ[i]? = some ov → CellOk K Hd H c ov
  apart : ∀ (i j : Nat) ci cj oi oj l, Γ[i]? = some ci → σ[i]? = some oi → Γ[j]? = some cj → σ[j]? = some oj → ownAt ci oi l → ownAt cj oj l → i = j
structure R (K : PySem.W.Frag) (Hs H0 Hb : Hp) (Γ : List Cell) (σ : St) (Hd H : Hp) : Prop where
  l : Rl K Γ σ Hd H
  e : Stp Hs H0 Hd H
  b : Ex Hb Hd
  o : ∀ (i : Nat) c ov l, Γ[i]? = some c → σ[i]? = some ov → ownAt c ov l → H0 l = none

section
variable {K : PySem.W.Frag} {Γ : List Cell} {σ : St} {Hd H Hd' H' Hd2 H2 Hs H0 Hb : Hp}
theorem Stp.refl (h : Ex Hd H) : Stp Hd H Hd H := ⟨Ex.refl _, Ex.refl _, h, fun a o e n => by rw [n] at e; cases e⟩
theorem Stp.trans (a : Stp Hd H Hd' H') (b : Stp Hd' H' Hd2 H2) : Stp Hd H Hd2 H2 where
  d := a.d.trans b.d
  h := a.h.trans b.h
  s := b.s
  f := fun x o e n => by
    cases q : Hd' x with
    | some u => exact a.f x u q n
    | none =>
      have z := b.f x o e q
      cases w : H x with
      | none => rfl
      | some y => rw [a.h x y w] at z; cases z
/-- a new object, in the heap alone -/
theorem Stp.new {p : Addr} {o : HO} (e : Ex Hd H) (hp : H p = none) : Stp Hd H Hd (upd H p o) := ⟨Ex.refl _, Ex.new hp, e.trans (Ex.new hp), fun a o e n => by rw [n] at e; cases e⟩
theorem ex_none (e : Ex H H') {p : Addr} (h : H' p = none) : H p = none := Evl.fresh_back e h
/-- .. and in the data -/
theorem Stp.newD {p : Addr} {o : HO} (e : Ex Hd H) (hp : H p = none) : Stp Hd H (upd Hd p o) (upd H p o) where
  d := Ex.new (ex_none e hp)
  h := Ex.new hp
  s := fun a u q => by
    by_cases z : a = p
    · subst z; rw [upd_same] at q ⊢; exact q
    · rw [upd_ne z] at q ⊢; exact e a u q
  f := fun a u q n => by
    by_cases z : a = p
    · subst z; exact hp
    · rw [upd_ne z] at q; rw [n] at q; cases q
/-- an object that came since becomes data -/
theorem Stp.toD {p : Addr} {o : HO} (a : Stp Hd H Hd' H') (h0 : H p = none) (hp : H' p = some o) (hd : Hd' p = none) : Stp Hd H (upd Hd' p o) H' where
  d := a.d.trans (Ex.new hd)
  h := a.h
  s := fun x u q => by
    by_cases z : x = p
    · subst z; rw [upd_same] at q; cases q; exact hp
    · rw [upd_ne z] at q; exact a.s x u q
  f := fun x u q n => by
    by_cases z : x = p
    · subst z; exact h0
    · rw [upd_ne z] at q; exact a.f x u q n
/-- an object that came since, and is no data, changes -/
theorem Stp.mut {p : Addr} {o : HO} (a : Stp Hd H Hd' H') (h0 : H p = none) (hd : Hd' p = none) : Stp Hd H Hd' (upd H' p o) where
  d := a.d
  h := Ex.mut a.h h0
  s := Ex.mut a.s hd
  f := a.f
theorem Stp.non (s : Stp Hd H Hd' H') {l : Addr} {o : HO} (n : Hd l = none) (h : H l = some o) : Hd' l = none := by
  cases q : Hd' l with
  | none => rfl
  | some u => rw [s.f l u q n] at h; cases h
theorem CellOk.stp (s : Stp Hd H Hd' H') : ∀ {c : Cell} {ov : Option V}, CellOk K Hd H c ov → CellOk K Hd' H' c ov
  | .no, _, _ => trivial
  | .d x, _, ⟨v, e, i⟩ => ⟨v, e, i.mono s.d⟩
  | .ml ds, _, ⟨l, vs, e, n, h, i⟩ => ⟨l, vs, e, s.non n h, s.h _ _ h, i.mono s.d⟩
  | .md ds, _, ⟨l, vs, e, n, h, i⟩ => ⟨l, vs, e, s.non n h, s.h _ _ h, i.mono s.d⟩
theorem Rl.stp (r : Rl K Γ σ Hd H) (s : Stp Hd H Hd' H') : Rl K Γ σ Hd' H' := ⟨r.len, s.s, fun i c ov h1 h2 => (r.cell i c ov h1 h2).stp s, r.apart⟩
theorem R.stp (r : R K Hs H0 Hb Γ σ Hd H) (s : Stp Hd H Hd' H') : R K Hs H0 Hb Γ σ Hd' H' := ⟨r.l.stp s, r.e.trans s, r.b.trans s.d, r.o⟩
theorem own_ok {c : Cell} {ov : Option V} {l : Addr} (h : CellOk K Hd H c ov) (o : ownAt c ov l) : Hd l = none ∧ ∃ u, H l = some u := by
  cases c with
  | no => cases o
  | d x => cases o
  | ml ds =>
    obtain ⟨l', vs, e, n, q, _⟩ := h
    have o' : ov = some (.ref l) := o
    rw [e] at o'; cases o'
    exact ⟨n, _, q⟩
  | md ds =>
    obtain ⟨l', vs, e, n, q, _⟩ := h
    have o' : ov = some (.ref l) := o
    rw [e] at o'; cases o'
    exact ⟨n, _, q⟩
/-- an object that is no slot's own and no data changes -/
theorem Rl.mut {p : Addr} {o : HO} (r : Rl K Γ σ Hd H) (hd : Hd p = none) (hn : ∀ (i : Nat) c ov, Γ[i]? = some c → σ[i]? = some ov → ¬ ownAt c ov p) : Rl K Γ σ Hd (upd H p o) := by
  refine ⟨r.len, Ex.mut r.sub hd, fun i c ov h1 h2 => ?_, r.apart⟩
  have q := r.cell i c ov h1 h2
  have nn := hn i c ov h1 h2
  cases c with
  | no => trivial
  | d x => exact q
  | ml ds =>
    obtain ⟨l, vs, e, n, h, a⟩ := q
    exact ⟨l, vs, e, n, by rw [upd_ne (fun z => nn (by subst z; exact e))]; exact h, a⟩
  | md ds =>
    obtain ⟨l, vs, e, n, h, a⟩ := q
    exact ⟨l, vs, e, n, by rw [upd_ne (fun z => nn (by subst z; exact e))]; exact h, a⟩
theorem set_get {α : Type} {l : List α} {i j : Nat} {a x : α} (h : (l.set i a)[j]? = some x) : (j = i ∧ x = a) ∨ (j ≠ i ∧ l[j]? = some x) := by
  by_cases e : i = j
  · subst e
    by_cases hv : i < l.length
    · rw [List.getElem?_set_self hv] at h; exact .inl ⟨rfl, (Option.some.inj h).symm⟩
    · rw [List.getElem?_eq_none (by simpa using hv)] at h; cases h
  · rw [List.getElem?_set_ne e] at h; exact .inr ⟨fun z => e z.symm, h⟩
/-- a slot is stored: data -/
theorem Rl.setD {i : Nat} {v : V} {x : D} (r : Rl K Γ σ Hd H) (h : Is K Hd v x) : Rl K (Γ.set i (.d x)) (σ.set i (some v)) Hd H := by
  refine ⟨by rw [List.length_set, List.length_set]; exact r.len, r.sub, fun j c ov h1 h2 => ?_, fun a b ca cb oa ob l h1 h2 h3 h4 q1 q2 => ?_⟩
  · rcases set_get h1 with ⟨e1, e2⟩ | ⟨e1, e2⟩
    · rcases set_get h2 with ⟨f1, f2⟩ | ⟨f1, f2⟩
      · subst e2; subst f2; exact ⟨v, rfl, h⟩
      · exact absurd e1 f1
    · rcases set_get h2 with ⟨f1, f2⟩ | ⟨f1, f2⟩
      · exact absurd f1 e1
      · exact r.cell j c ov e2 f2
  · rcases set_get h1 with ⟨e1, e2⟩ | ⟨e1, e2⟩
    · subst e2; cases q1
    rcases set_get h3 with ⟨f1, f2⟩ | ⟨f1, f2⟩
    · subst f2; cases q2
    rcases set_get h2 with ⟨g1, g2⟩ | ⟨g1, g2⟩
    · exact absurd g1 e1
    rcases set_get h4 with ⟨k1, k2⟩ | ⟨k1, k2⟩
    · exact absurd k1 f1
    exact r.apart a b ca cb oa ob l e2 g2 f2 k2 q1 q2
/-- a slot's cell is forgotten -/
theorem Rl.setNo {i : Nat} {ov : Option V} (r : Rl K Γ σ Hd H) : Rl K (Γ.set i .no) (σ.set i ov) Hd H := by
  refine ⟨by rw [List.length_set, List.length_set]; exact r.len, r.sub, fun j c ov h1 h2 => ?_, fun a b ca cb oa ob l h1 h2 h3 h4 q1 q2 => ?_⟩
  · rcases set_get h1 with ⟨e1, e2⟩ | ⟨e1, e2⟩
    · subst e2; trivial
    · rcases set_get h2 with ⟨f1, f2⟩ | ⟨f1, f2⟩
      · exact absurd f1 e1
      · exact r.cell j c _ e2 f2
  · rcases set_get h1 with ⟨e1, e2⟩ | ⟨e1, e2⟩
    · subst e2; cases q1
    rcases set_get h3 with ⟨f1, f2⟩ | ⟨f1, f2⟩
    · subst f2; cases q2
    rcases set_get h2 with ⟨g1, g2⟩ | ⟨g1, g2⟩
    · exact absurd g1 e1
    rcases set_get h4 with ⟨k1, k2⟩ | ⟨k1, k2⟩
    · exact absurd k1 f1
    exact r.apart a b ca cb oa ob l e2 g2 f2 k2 q1 q2
/-- a slot is stored: something of one's own, not yet another slot's -/
theorem Rl.setOwn {i : Nat} {p : Addr} {c : Cell} (r : Rl K Γ σ Hd H) (h : CellOk K Hd H c (some (.ref p))) (hn : ∀ (j : Nat) cj ov, j ≠ i → Γ[j]? = some cj → σ[j]? = some ov → ¬ ownAt cj ov p) :
    Rl K (Γ.set i c) (σ.set i (some (.ref p))) Hd H := by
  have key : ∀ l, ownAt c (some (.ref p)) l → l = p := fun l o => by
    cases c with
    | no => cases o
    | d x => cases o
    | ml ds => have o' : some (V.ref p) = some (.ref l) := o; cases o'; rfl
    | md ds => have o' : some (V.ref p) = some (.ref l) := o; cases o'; rfl
  refine ⟨by rw [List.length_set, List.length_set]; exact r.len, r.sub, fun j c ov h1 h2 => ?_, fun a b ca cb oa ob l h1 h2 h3 h4 q1 q2 => ?_⟩
  · rcases set_get h1 with ⟨e1, e2⟩ | ⟨e1, e2⟩
    · rcases set_get h2 with ⟨f1, f2⟩ | ⟨f1, f2⟩
      · subst e2; subst f2; exact h
      · exact absurd e1 f1
    · rcases set_get h2 with ⟨f1, f2⟩ | ⟨f1, f2⟩
      · exact absurd f1 e1
      · exact r.cell j c ov e2 f2
  · rcases set_get h1 with ⟨e1, e2⟩ | ⟨e1, e2⟩
    · rcases set_get h3 with ⟨f1, f2⟩ | ⟨f1, f2⟩
      · rw [e1, f1]
      · rcases set_get h2 with ⟨g1, g2⟩ | ⟨g1, g2⟩
        · rcases set_get h4 with ⟨k1, k2⟩ | ⟨k1, k2⟩
          · exact absurd k1 f1
          · subst e2; subst g2
            have := key l q1; subst this
            exact absurd q2 (hn b cb ob f1 f2 k2)
        · exact absurd e1 g1
    · rcases set_get h2 with ⟨g1, g2⟩ | ⟨g1, g2⟩
      · exact absurd g1 e1
      rcases set_get h3 with ⟨f1, f2⟩ | ⟨f1, f2⟩
      · rcases set_get h4 with ⟨k1, k2⟩ | ⟨k1, k2⟩
        · subst f2; subst k2
          have := key l q2; subst this
          exact absurd q1 (hn a ca oa e1 e2 g2)
        · exact absurd f1 k1
      · rcases set_get h4 with ⟨k1, k2⟩ | ⟨k1, k2⟩
        · exact absurd k1 f1
        exact r.apart a b ca cb oa ob l e2 g2 f2 k2 q1 q2
theorem R.setD {i : Nat} {v : V} {x : D} (r : R K Hs H0 Hb Γ σ Hd H) (h : Is K Hd v x) : R K Hs H0 Hb (Γ.set i (.d x)) (σ.set i (some v)) Hd H := by
  refine ⟨r.l.setD h, r.e, r.b, fun j c ov l h1 h2 q => ?_⟩
  rcases set_get h1 with ⟨e1, e2⟩ | ⟨e1, e2⟩
  · subst e2; cases q
  · rcases set_get h2 with ⟨f1, f2⟩ | ⟨f1, f2⟩
    · exact absurd f1 e1
    · exact r.o j c ov l e2 f2 q
theorem R.setNo {i : Nat} {ov : Option V} (r : R K Hs H0 Hb Γ σ Hd H) : R K Hs H0 Hb (Γ.set i .no) (σ.set i ov) Hd H := by
  refine ⟨r.l.setNo, r.e, r.b, fun j c ov l h1 h2 q => ?_⟩
  rcases set_get h1 with ⟨e1, e2⟩ | ⟨e1, e2⟩
  · subst e2; cases q
  · rcases set_get h2 with ⟨f1, f2⟩ | ⟨f1, f2⟩
    · exact absurd f1 e1
    · exact r.o j c ov l e2 f2 q
theorem R.setOwn {i : Nat} {p : Addr} {c : Cell} (r : R K Hs H0 Hb Γ σ Hd H) (h : CellOk K Hd H c (some (.ref p))) (h0 : H0 p = none) (hn : ∀ (j : Nat) cj ov, j ≠ i → Γ[j]? = some cj → σ[j]? = some ov → ¬ ownAt cj ov p) :
    R K Hs H0 Hb (Γ.set i c) (σ.set i (some (.ref p))) Hd H := by
  have key : ∀ l, ownAt c (some (.ref p)) l → l = p := fun l o => by
    cases c with
    | no => cases o
    | d x => cases o
    | ml ds => have o' : some (V.ref p) = some (.ref l) := o; cases o'; rfl
    | md ds => have o' : some (V.ref p) = some (.ref l) := o; cases o'; rfl
  refine ⟨r.l.setOwn h hn, r.e, r.b, fun j c ov l h1 h2 q => ?_⟩
  rcases set_get h1 with ⟨e1, e2⟩ | ⟨e1, e2⟩
  · rcases set_get h2 with ⟨f1, f2⟩ | ⟨f1, f2⟩
    · subst e2; subst f2; rw [key l q]; exact h0
    · exact absurd e1 f1
  · rcases set_get h2 with ⟨f1, f2⟩ | ⟨f1, f2⟩
    · exact absurd f1 e1
    · exact r.o j c ov l e2 f2 q
/-- a slot's own object changes -/
theorem R.chg {i : Nat} {p : Addr} {o : HO} {c c' : Cell} (r : R K Hs H0 Hb Γ σ Hd H) (h1 : Γ[i]? = some c) (h2 : σ[i]? = some (some (.ref p))) (ow : ownAt c (some (.ref p)) p)
    (h : CellOk K Hd (upd H p o) c' (some (.ref p))) : R K Hs H0 Hb (Γ.set i c') σ Hd (upd H p o) := by
  have ok := own_ok (r.l.cell i c _ h1 h2) ow
  have h0 := r.o i c _ p h1 h2 ow
  have key : ∀ l, ownAt c' (some (.ref p)) l → l = p := fun l o => by
    cases c' with
    | no => cases o
    | d x => cases o
    | ml ds => have o' : some (V.ref p) = some (.ref l) := o; cases o'; rfl
    | md ds => have o' : some (V.ref p) = some (.ref l) := o; cases o'; rfl
  have hn : ∀ (j : Nat) cj ov, j ≠ i → Γ[j]? = some cj → σ[j]? = some ov → ¬ ownAt cj ov p := fun j cj ov hj a b z => hj (r.l.apart j i cj c ov _ p a b h1 h2 z ow)
  have es : σ.set i (some (.ref p)) = σ := by
    refine List.ext_getElem? fun j => ?_
    by_cases e : i = j
    · subst e
      rw [List.getElem?_set_self (List.getElem?_eq_some_iff.mp h2).1, h2]
    · rw [List.getElem?_set_ne e]
  have rl : Rl K (Γ.set i .no) σ Hd H := by
    have z := r.l.setNo (i := i) (ov := some (.ref p))
    rw [es] at z; exact z
  have rl2 : Rl K (Γ.set i .no) σ Hd (upd H p o) := rl.mut ok.1 fun j cj ov a b z => by
    rcases set_get a with ⟨e1, e2⟩ | ⟨e1, e2⟩
    · subst e2; cases z
    · exact hn j cj ov e1 e2 b z
  have rl3 : Rl K ((Γ.set i .no).set i c') (σ.set i (some (.ref p))) Hd (upd H p o) := rl2.setOwn h fun j cj ov hj a b z => by
    rcases set_get a with ⟨e1, e2⟩ | ⟨e1, e2⟩
    · exact hj e1
    · exact hn j cj ov e1 e2 b z
  rw [List.set_set, es] at rl3
  refine ⟨rl3, r.e.mut h0 ok.1, r.b, fun j cj ov l a b q => ?_⟩
  rcases set_get a with ⟨e1, e2⟩ | ⟨e1, e2⟩
  · subst e1; subst e2
    rw [h2] at b; cases b
    rw [key l q]; exact h0
  · exact r.o j cj ov l e2 b q
/-- a list of one's own becomes data -/
theorem Rl.frz {i : Nat} {ds : List D} (r : Rl K Γ σ Hd H) (h : Γ[i]? = some (.ml ds)) : ∃ Hd', Rl K (Γ.set i (.d (.list ds))) σ Hd' H ∧ Ex Hd Hd' ∧ (∀ a o, Hd' a = some o → Hd a = none → ∃ c ov, Γ[i]? = some c ∧ σ[i]? = some ov ∧ ownAt c ov a) := by
  have hl : i < σ.length := by rw [r.len]; exact (List.getElem?_eq_some_iff.mp h).1
  obtain ⟨l, vs, e, n, q, a⟩ := r.cell i _ _ h (List.getElem?_eq_getElem hl)
  have es : σ[i]? = some (some (.ref l)) := by rw [List.getElem?_eq_getElem hl, e]
  have s : Ex Hd (upd Hd l (.lst vs)) := Ex.new n
  have f : ∀ x o, (upd Hd l (.lst vs)) x = some o → Hd x = none → x = l := fun x o h1 h2 => by
    by_cases z : x = l
    · exact z
    · rw [upd_ne z, h2] at h1; cases h1
  refine ⟨upd Hd l (.lst vs), ⟨by rw [List.length_set]; exact r.len, fun x u w => ?_, fun j c ov h1 h2 => ?_, fun a b ca cb oa ob l h1 h2 h3 h4 q1 q2 => ?_⟩, s, fun x o h1 h2 => ⟨_, _, h, es, by rw [f x o h1 h2]; exact rfl⟩⟩
  · by_cases z : x = l
    · subst z; rw [upd_same] at w; cases w; exact q
    · rw [upd_ne z] at w; exact r.sub x u w
  · rcases set_get h1 with ⟨e1, e2⟩ | ⟨e1, e2⟩
    · subst e1; subst e2
      rw [es] at h2; cases h2
      exact ⟨_, rfl, .lst (.inl (.inl upd_same)) (a.mono s)⟩
    · have w := r.cell j c ov e2 h2
      cases c with
      | no => trivial
      | d x => obtain ⟨v, w1, w2⟩ := w; exact ⟨v, w1, w2.mono s⟩
      | ml ds' =>
        obtain ⟨l', vs', w1, w2, w3, w4⟩ := w
        refine ⟨l', vs', w1, ?_, w3, w4.mono s⟩
        rw [upd_ne, w2]
        intro z; subst z
        exact e1 (r.apart j i _ _ _ _ l' e2 h2 h es w1 rfl)
      | md ds' =>
        obtain ⟨l', vs', w1, w2, w3, w4⟩ := w
        refine ⟨l', vs', w1, ?_, w3, w4.mono s⟩
        rw [upd_ne, w2]
        intro z; subst z
        exact e1 (r.apart j i _ _ _ _ l' e2 h2 h es w1 rfl)
  · rcases set_get h1 with ⟨e1, e2⟩ | ⟨e1, e2⟩
    · subst e2; cases q1
    rcases set_get h3 with ⟨f1, f2⟩ | ⟨f1, f2⟩
    · subst f2; cases q2
    exact r.apart a b ca cb oa ob l e2 h2 f2 h4 q1 q2
theorem R.frz {i : Nat} {ds : List D} (r : R K Hs H0 Hb Γ σ Hd H) (h : Γ[i]? = some (.ml ds)) : ∃ Hd', R K Hs H0 Hb (Γ.set i (.d (.list ds))) σ Hd' H := by
  obtain ⟨Hd', rl, s, f⟩ := r.l.frz h
  refine ⟨Hd', rl, ⟨r.e.d.trans s, r.e.h, rl.sub, fun a o h1 h2 => ?_⟩, r.b.trans s, fun j c ov l h1 h2 q => ?_⟩
  · cases z : Hd a with
    | some u => exact r.e.f a u z h2
    | none =>
      obtain ⟨c, ov, a1, a2, a3⟩ := f a o h1 z
      exact r.o i c ov a a1 a2 a3
  · rcases set_get h1 with ⟨e1, e2⟩ | ⟨e1, e2⟩
    · subst e2; cases q
    · exact r.o j c ov l e2 h2 q
/-- a slot's cell is forgotten, the slot as it is -/
theorem R.drop {i : Nat} (r : R K Hs H0 Hb Γ σ Hd H) : R K Hs H0 Hb (Γ.set i .no) σ Hd H := by
  by_cases hi : i < σ.length
  · have z := r.setNo (i := i) (ov := σ[i])
    have es : σ.set i σ[i] = σ := by simp
    rw [es] at z; exact z
  · have e : Γ.set i .no = Γ := List.set_eq_of_length_le (by rw [← r.l.len]; omega)
    rw [e]; exact r
end
end Hf

namespace Hf
open PySem PySem.Spec PyProof.Rows L2
open Evl (Ex)
section
variable (X : Cx) (Γ : List Cell)
/-- data -/
def DE (e : Expr) (d : D) : Prop := ∀ σ Hd H (Q : VK), Rl X.K Γ σ Hd H → (∀ v Hd' H', Stp Hd H Hd' H' → Is X.K Hd' v d → Q v H') → wE X e σ H Q
/-- a new list -/
def DN (e : Expr) (ds : List D) : Prop := ∀ σ Hd H (Q : VK), Rl X.K Γ σ Hd H → (∀ l vs Hd' H', Stp Hd H Hd' H' → H l = none → Hd' l = none → H' l = some (.lst vs) → IsAll X.K Hd' vs ds → Q (.ref l) H') → wE X e σ H Q
/-- a list that stands tracked -/
def DL (e : Expr) (ds : List D) : Prop := ∀ σ Hd H (Q : VK), Rl X.K Γ σ Hd H → (∀ l vs Hd' H', Stp Hd H Hd' H' → H' l = some (.lst vs) → IsAll X.K Hd' vs ds → Q (.ref l) H') → wE X e σ H Q
/-- a new dict -/
def DM (e : Expr) (es : List (D × D)) : Prop := ∀ σ Hd H (Q : VK), Rl X.K Γ σ Hd H → (∀ l kvs Hd' H', Stp Hd H Hd' H' → H l = none → Hd' l = none → H' l = some (.dK kvs) → IsKv X.K Hd' kvs es → Q (.ref l) H') → wE X e σ H Q
/-- a test's answer -/
def DT (e : Expr) (b : Bool) : Prop := ∀ σ Hd H (Q : Bool → Hp → Prop), Rl X.K Γ σ Hd H → (∀ Hd' H', Stp Hd H Hd' H' → Q b H') → wT X e σ H Q
def DW (e : Expr) (b : Bool) : Prop := ∀ σ Hd H (Q : Bool → Hp → Prop), Rl X.K Γ σ Hd H → (∀ Hd' H', Stp Hd H Hd' H' → Q b H') → wW X e σ H Q
/-- arguments -/
def DA (es : List Expr) (ds : List D) : Prop := ∀ σ Hd H (Q : List V → Hp → Prop), Rl X.K Γ σ Hd H → (∀ vs Hd' H', Stp Hd H Hd' H' → IsAll X.K Hd' vs ds → Q vs H') → wA X es σ H Q
end

section
variable {X : Cx} {Γ : List Cell} {e a b c : Expr} {es : List Expr} {d x y : D} {ds xs ys : List D} {i j : Int} {pos p : Pos}
theorem DE.of {e : Expr} {d d' : D} (h : DE X Γ e d) (q : d = d') : DE X Γ e d' := q ▸ h
theorem DT.of {e : Expr} {d d' : Bool} (h : DT X Γ e d) (q : d = d') : DT X Γ e d' := q ▸ h
theorem DN.of {e : Expr} {d d' : List D} (h : DN X Γ e d) (q : d = d') : DN X Γ e d' := q ▸ h
theorem DN.dl (h : DN X Γ e ds) : DL X Γ e ds := fun σ Hd H Q r q => h σ Hd H Q r fun l vs Hd' H' s _ _ h1 h2 => q l vs Hd' H' s h1 h2
theorem DN.de (h : DN X Γ e ds) : DE X Γ e (.list ds) := fun σ Hd H Q r q => h σ Hd H Q r fun l vs Hd' H' s h0 hd h1 h2 =>
  q (.ref l) (upd Hd' l (.lst vs)) H' (s.toD h0 h1 hd) (.lst (.inl (.inl upd_same)) (h2.mono (Ex.new hd)))
theorem DM.de {es : List (D × D)} (h : DM X Γ e es) : DE X Γ e (.dict es) := fun σ Hd H Q r q => h σ Hd H Q r fun l kvs Hd' H' s h0 hd h1 h2 =>
  q (.ref l) (upd Hd' l (.dK kvs)) H' (s.toD h0 h1 hd) (.dic upd_same (h2.mono (Ex.new hd)))
/-- a value that needs nothing -/
theorem de_c {v : V} (h : PE X e (tC v)) (q : ∀ Hd, Is X.K Hd v d) : DE X Γ e d := fun σ Hd H Q r k => wE_of h (k v Hd H (Stp.refl r.sub) (q Hd))
theorem de_int {k : Int} {j : Nat} : DE X Γ (.Constant (.int k) j pos) (.int k) := de_c pe_int fun _ => .int k
theorem de_bl {k : Bool} {j : Nat} : DE X Γ (.Constant (.bool k) j pos) (.bool k) := de_c pe_bl fun _ => .bl k
theorem de_non {j : Nat} : DE X Γ (.Constant .none j pos) .none := de_c pe_non fun _ => .non
theorem de_str {k : Str} {j : Nat} : DE X Γ (.Constant (.str k) j pos) (.str k) := de_c pe_str fun _ => .str k
theorem de_var {n : Nat} {x : Str} (h : Γ[n]? = some (.d d)) (hp : PE X (.Name x p) (tVar n)) : DE X Γ (.Name x p) d := fun σ Hd H Q r k => by
  have hl : n < σ.length := by rw [r.len]; exact (List.getElem?_eq_some_iff.mp h).1
  obtain ⟨v, e, i⟩ := r.cell n _ _ h (List.getElem?_eq_getElem hl)
  exact wE_of hp ⟨v, by rw [List.getElem?_eq_getElem hl, e], k v Hd H (Stp.refl r.sub) i⟩
theorem dl_var {n : Nat} {x : Str} (h : Γ[n]? = some (.ml ds)) (hp : PE X (.Name x p) (tVar n)) : DL X Γ (.Name x p) ds := fun σ Hd H Q r k => by
  have hl : n < σ.length := by rw [r.len]; exact (List.getElem?_eq_some_iff.mp h).1
  obtain ⟨l, vs, e, _, h1, i⟩ := r.cell n _ _ h (List.getElem?_eq_getElem hl)
  exact wE_of hp ⟨.ref l, by rw [List.getElem?_eq_getElem hl, e], k l vs Hd H (Stp.refl r.sub) h1 i⟩
theorem de_opI {op : Operator} {C : Int → Int → Prop} {g : Int → Int → Int} (ho : OpR X (binaryOp op) (rI C fun i j => .int (g i j))) (ha : DE X Γ a (.int i)) (hb : DE X Γ b (.int j)) (hc : C i j) : DE X Γ (.BinOp a op b pos) (.int (g i j)) :=
  fun σ Hd H Q r k => wE_of (pe_op ho pe_w pe_w) (ha σ Hd H _ r fun v Hd1 H1 s1 i1 => hb σ Hd1 H1 _ (r.stp s1) fun u Hd2 H2 s2 i2 => by
    cases i1; cases i2
    exact ⟨i, j, rfl, rfl, hc, k _ Hd2 H2 (s1.trans s2) (.int _)⟩)
theorem de_opI0 {op : Operator} {g : Int → Int → Int} (ho : OpR X (binaryOp op) (rI0 fun i j => .int (g i j))) (ha : DE X Γ a (.int i)) (hb : DE X Γ b (.int j)) : DE X Γ (.BinOp a op b pos) (.int (g i j)) :=
  fun σ Hd H Q r k => wE_of (pe_op ho pe_w pe_w) (ha σ Hd H _ r fun v Hd1 H1 s1 i1 => hb σ Hd1 H1 _ (r.stp s1) fun u Hd2 H2 s2 i2 => by
    cases i1; cases i2
    exact ⟨i, j, rfl, rfl, k _ Hd2 H2 (s1.trans s2) (.int _)⟩)
theorem de_add (ha : DE X Γ a (.int i)) (hb : DE X Γ b (.int j)) : DE X Γ (.BinOp a .Add b pos) (.int (i + j)) := de_opI0 op_add ha hb
theorem de_sub (ha : DE X Γ a (.int i)) (hb : DE X Γ b (.int j)) : DE X Γ (.BinOp a .Sub b pos) (.int (i - j)) := de_opI0 op_sub ha hb
/-- * of two factors of together less than some hundred million bits -/
def CMulB (i j : Int) : Prop := i.natAbs.log2 + j.natAbs.log2 < 134217000
theorem CMulB.ok {i j : Int} (h : CMulB i j) : IntMulOk i j := by
  have b : ∀ x : Int, Builtin.Int.intBits x ≤ x.natAbs.log2 + 1 := fun x => by
    unfold Builtin.Int.intBits
    split <;> omega
  have h1 := b i
  have h2 := b j
  have h3 : i.natAbs.log2 + j.natAbs.log2 < 134217000 := h
  have e : bitsLine = 134217728 := by decide
  unfold IntMulOk
  intro z
  rw [Bool.and_eq_true] at z
  have z2 := z.2
  unfold Builtin.Int.intTooBig at z2
  have z3 := of_decide_eq_true z2
  rw [e] at z3
  omega
theorem op_mulB : OpR X (binaryOp .Mult) (rI CMulB fun i j => .int (i * j)) := opI fun _ _ _ _ _ _ _ hc q => mul_int q hc.ok
theorem de_mulB (ha : DE X Γ a (.int i)) (hb : DE X Γ b (.int j)) (hc : CMulB i j) : DE X Γ (.BinOp a .Mult b pos) (.int (i * j)) := de_opI op_mulB ha hb hc
/-- one factor small -/
theorem de_mulS (ha : DE X Γ a (.int i)) (hb : DE X Γ b (.int j)) (hc : (-18446744073709551616 < i ∧ i < 18446744073709551616) ∨ (-18446744073709551616 < j ∧ j < 18446744073709551616)) : DE X Γ (.BinOp a .Mult b pos) (.int (i * j)) := de_opI op_mul ha hb hc
theorem de_fdiv (ha : DE X Γ a (.int i)) (hb : DE X Γ b (.int j)) (hc : CDivW i j) : DE X Γ (.BinOp a .FloorDiv b pos) (.int (i / j)) := de_opI op_fdivW ha hb hc
/-- a divisor of either sign -/
def CDivX (_ j : Int) : Prop := j ≠ 0 ∧ j.natAbs.log2 < 9000
theorem op_fdivX : OpR X (binaryOp .FloorDiv) (rI CDivX fun i j => .int (i.fdiv j)) := opI fun i j _ _ _ _ _ hc q => floordiv_int hc.1 q (.inl (PyProof.noPylong_of_log2 hc.2))
theorem de_fdivX (ha : DE X Γ a (.int i)) (hb : DE X Γ b (.int j)) (hc : CDivX i j) : DE X Γ (.BinOp a .FloorDiv b pos) (.int (i.fdiv j)) := de_opI op_fdivX ha hb hc
theorem de_mod (ha : DE X Γ a (.int i)) (hb : DE X Γ b (.int j)) (hc : 0 < j) : DE X Γ (.BinOp a .Mod b pos) (.int (i % j)) := de_opI op_mod ha hb hc
theorem de_pow (ha : DE X Γ a (.int i)) (hb : DE X Γ b (.int j)) (hc : CPow i j) : DE X Γ (.BinOp a .Pow b pos) (.int (i ^ j.toNat)) := de_opI op_pow ha hb hc
theorem de_neg (ha : DE X Γ a (.int i)) : DE X Γ (.UnaryOp .USub a pos) (.int (-i)) := fun σ Hd H Q r k => wE_of (pe_un un_neg pe_w) (ha σ Hd H _ r fun v Hd1 H1 s1 i1 => by
  cases i1
  exact ⟨i, rfl, k _ Hd1 H1 s1 (.int _)⟩)
def wC (X : Cx) (op : CmpOp) (a b : Expr) : TE := fun σ H Q => ∀ (pins : List (Addr × Obj)) (s : Shared), Inv X pins σ H s →
    wpAny (model X.prog X.w) X.A (eval a X.env) (fun v s₁ => wpAny (model X.prog X.w) X.A (eval b X.env) (fun u s₂ => wpAny (model X.prog X.w) X.A (compareOp op v u) (EP X pins σ Q) X.xe s₂) X.xe s₁) X.xe s
theorem pc_w {op : CmpOp} : PC X op a b (wC X op a b) := ⟨fun pins s _ _ _ I h => h pins s I⟩
theorem wC_of {op : CmpOp} {r : R2} {σ : St} {H : Hp} {Q : VK} (ho : OpR X (compareOp op) r) (h : tOp r (wE X a) (wE X b) σ H Q) : wC X op a b σ H Q := fun pins s I =>
  thn (h pins s I) fun v s1 ⟨x, H1, I1, r1, q1⟩ => thn (q1 pins s1 I1) fun u s2 ⟨y, H2, I2, r2, q2⟩ => ho pins s2 σ H2 x y v u Q I2 r1 r2 q2
/-- a comparison's answer -/
def DC (X : Cx) (Γ : List Cell) (op : CmpOp) (a b : Expr) (m : Bool) : Prop := ∀ σ Hd H (Q : VK), Rl X.K Γ σ Hd H → (∀ Hd' H', Stp Hd H Hd' H' → Q (.bl m) H') → wC X op a b σ H Q
theorem de_cmp {op : CmpOp} {m : Bool} (h : DC X Γ op a b m) (hm : behindInMarks op b = false := by first | exact nobehind _ (by decide) (by decide) | rfl) : DE X Γ (.Compare a [op] [b] pos) (.bool m) := fun σ Hd H Q r k => wE_of (pe_cmp pc_w hm) (h σ Hd H _ r fun Hd' H' s => k _ Hd' H' s (.bl _))
theorem dt_cmp {op : CmpOp} {m : Bool} (h : DC X Γ op a b m) (hm : behindInMarks op b = false := by first | exact nobehind _ (by decide) (by decide) | rfl) : DT X Γ (.Compare a [op] [b] pos) m := fun σ Hd H Q r k => wT_of (pt_cmp pc_w hm) (h σ Hd H _ r fun Hd' H' s => ⟨m, rfl, k Hd' H' s⟩)
theorem DC.of {op : CmpOp} {m m' : Bool} (h : DC X Γ op a b m) (q : m = m') : DC X Γ op a b m' := q ▸ h
theorem dc_I {op : CmpOp} {g : Int → Int → Bool} (ho : OpR X (compareOp op) (rI0 fun i j => .bl (g i j))) (ha : DE X Γ a (.int i)) (hb : DE X Γ b (.int j)) : DC X Γ op a b (g i j) :=
  fun σ Hd H Q r k => wC_of ho (ha σ Hd H _ r fun v Hd1 H1 s1 i1 => hb σ Hd1 H1 _ (r.stp s1) fun u Hd2 H2 s2 i2 => by
    cases i1; cases i2
    exact ⟨i, j, rfl, rfl, k Hd2 H2 (s1.trans s2)⟩)
theorem dc_lt (ha : DE X Γ a (.int i)) (hb : DE X Γ b (.int j)) : DC X Γ .Lt a b (decide (i < j)) := dc_I op_lt ha hb
theorem dc_le (ha : DE X Γ a (.int i)) (hb : DE X Γ b (.int j)) : DC X Γ .LtE a b (decide (i ≤ j)) := dc_I op_le ha hb
theorem dc_gt (ha : DE X Γ a (.int i)) (hb : DE X Γ b (.int j)) : DC X Γ .Gt a b (decide (j < i)) := dc_I op_gt ha hb
theorem dc_ge (ha : DE X Γ a (.int i)) (hb : DE X Γ b (.int j)) : DC X Γ .GtE a b (decide (j ≤ i)) := dc_I op_ge ha hb
/-- the room that == of data wants -/
def Roomy (X : Cx) : Prop := X.A.units + 64 < cLine
theorem dc_eq (hu : Roomy X) (ha : DE X Γ a x) (hb : DE X Γ b y) (h1 : SeqAt.shaped x = true) (h2 : SeqAt.shaped y = true) : DC X Γ .Eq a b (PyData.eqv x y) :=
  fun σ Hd H Q r k => wC_of (op_eqD hu) (ha σ Hd H _ r fun v Hd1 H1 s1 i1 => hb σ Hd1 H1 _ (r.stp s1) fun u Hd2 H2 s2 i2 =>
    ⟨x, y, ((i1.mono s2.d).mono s2.s).dp (SeqAt.canLay_of_shaped h1), (i2.mono s2.s).dp (SeqAt.canLay_of_shaped h2), h1, h2, k Hd2 H2 (s1.trans s2)⟩)
theorem dc_ne (hu : Roomy X) (ha : DE X Γ a x) (hb : DE X Γ b y) (h1 : SeqAt.shaped x = true) (h2 : SeqAt.shaped y = true) : DC X Γ .NotEq a b (!PyData.eqv x y) :=
  fun σ Hd H Q r k => wC_of (op_neD hu) (ha σ Hd H _ r fun v Hd1 H1 s1 i1 => hb σ Hd1 H1 _ (r.stp s1) fun u Hd2 H2 s2 i2 =>
    ⟨x, y, ((i1.mono s2.d).mono s2.s).dp (SeqAt.canLay_of_shaped h1), (i2.mono s2.s).dp (SeqAt.canLay_of_shaped h2), h1, h2, k Hd2 H2 (s1.trans s2)⟩)
/-- ints -/
theorem dc_eqI (ha : DE X Γ a (.int i)) (hb : DE X Γ b (.int j)) : DC X Γ .Eq a b (decide (i = j)) :=
  fun σ Hd H Q r k => wC_of op_eq (ha σ Hd H _ r fun v Hd1 H1 s1 i1 => hb σ Hd1 H1 _ (r.stp s1) fun u Hd2 H2 s2 i2 => by
    cases i1; cases i2
    refine ⟨rfl, ?_⟩
    rw [show decide (V.int i = V.int j) = decide (i = j) from decide_eq_decide.mpr ⟨V.int.inj, congrArg _⟩]
    exact k Hd2 H2 (s1.trans s2))
theorem dc_neI (ha : DE X Γ a (.int i)) (hb : DE X Γ b (.int j)) : DC X Γ .NotEq a b (!decide (i = j)) :=
  fun σ Hd H Q r k => wC_of op_ne (ha σ Hd H _ r fun v Hd1 H1 s1 i1 => hb σ Hd1 H1 _ (r.stp s1) fun u Hd2 H2 s2 i2 => by
    cases i1; cases i2
    refine ⟨rfl, ?_⟩
    rw [show decide (V.int i = V.int j) = decide (i = j) from decide_eq_decide.mpr ⟨V.int.inj, congrArg _⟩]
    exact k Hd2 H2 (s1.trans s2))
/-- texts -/
theorem dc_eqS {z w : Str} (ha : DE X Γ a (.str z)) (hb : DE X Γ b (.str w)) : DC X Γ .Eq a b (decide (z = w)) :=
  fun σ Hd H Q r k => wC_of op_eq (ha σ Hd H _ r fun v Hd1 H1 s1 i1 => hb σ Hd1 H1 _ (r.stp s1) fun u Hd2 H2 s2 i2 => by
    cases i1; cases i2
    refine ⟨rfl, ?_⟩
    rw [show decide (V.str z = V.str w) = decide (z = w) from decide_eq_decide.mpr ⟨V.str.inj, congrArg _⟩]
    exact k Hd2 H2 (s1.trans s2))
theorem dc_neS {z w : Str} (ha : DE X Γ a (.str z)) (hb : DE X Γ b (.str w)) : DC X Γ .NotEq a b (!decide (z = w)) :=
  fun σ Hd H Q r k => wC_of op_ne (ha σ Hd H _ r fun v Hd1 H1 s1 i1 => hb σ Hd1 H1 _ (r.stp s1) fun u Hd2 H2 s2 i2 => by
    cases i1; cases i2
    refine ⟨rfl, ?_⟩
    rw [show decide (V.str z = V.str w) = decide (z = w) from decide_eq_decide.mpr ⟨V.str.inj, congrArg _⟩]
    exact k Hd2 H2 (s1.trans s2))
/-- is None, of data -/
def isNon : D → Bool
  | .none => true
  | _ => false
theorem Is.non_iff {K : PySem.W.Frag} {H : Hp} {v : V} {d : D} (h : Is K H v d) : decide (v = .non) = isNon d := by cases h <;> rfl
theorem dc_isN {j : Nat} {p2 : Pos} (ha : DE X Γ a x) : DC X Γ .Is a (.Constant .none j p2) (isNon x) :=
  fun σ Hd H Q r k => wC_of op_isN (ha σ Hd H _ r fun v Hd1 H1 s1 i1 => wE_of pe_non ⟨rfl, by rw [i1.non_iff]; exact k Hd1 H1 s1⟩)
theorem dc_notN {j : Nat} {p2 : Pos} (ha : DE X Γ a x) : DC X Γ .IsNot a (.Constant .none j p2) (!isNon x) :=
  fun σ Hd H Q r k => wC_of op_notN (ha σ Hd H _ r fun v Hd1 H1 s1 i1 => wE_of pe_non ⟨rfl, by rw [i1.non_iff]; exact k Hd1 H1 s1⟩)
/-- in a tuple or list of flat things -/
def flatD : D → Bool
  | .none => true
  | .bool _ => true
  | .int _ => true
  | .str _ => true
  | _ => false
theorem Is.flat {K : PySem.W.Frag} {H : Hp} {v : V} {d : D} (h : Is K H v d) : flatV v = flatD d := by cases h <;> rfl
theorem IsAll.flatV {K : PySem.W.Frag} {H : Hp} {vs : List V} {ds : List D} (h : IsAll K H vs ds) : vs.all flatV = ds.all flatD := by
  induction vs generalizing ds with
  | nil => cases h; rfl
  | cons v vs ih => cases h with | cons a b => rw [List.all_cons, List.all_cons, a.flat, ih b]
theorem eqV_eqv {K : PySem.W.Frag} {H : Hp} {v w : V} {d e : D} (h : Is K H v d) (g : Is K H w e) (fd : flatD d = true) (fe : flatD e = true) : eqV v w = PyData.eqv d e := by
  cases h <;> cases g <;> first | rfl | cases fd | cases fe
def inD (d : D) (ds : List D) : Bool := ds.any fun y => PyData.eqv y d
theorem inV_inD {K : PySem.W.Frag} {H : Hp} {v : V} {d : D} {vs : List V} {ds : List D} (h : Is K H v d) (g : IsAll K H vs ds) (fd : flatD d = true) (fe : ds.all flatD = true) : inV v vs = inD d ds := by
  induction vs generalizing ds with
  | nil => cases g; rfl
  | cons w vs ih =>
    cases g with
    | cons a b =>
      have fe' := Bool.and_eq_true_iff.mp fe
      have z := ih b fe'.2
      unfold inV inD at z ⊢
      rw [List.any_cons, List.any_cons, eqV_eqv a h fe'.1 fd, z]
theorem dc_in (ha : DE X Γ a x) (hb : DE X Γ b y) (q : y = .list ds ∨ y = .tuple ds) (f1 : flatD x = true) (f2 : ds.all flatD = true) : DC X Γ .In a b (inD x ds) :=
  fun σ Hd H Q r k => wC_of op_in_seq (ha σ Hd H _ r fun v Hd1 H1 s1 i1 => hb σ Hd1 H1 _ (r.stp s1) fun u Hd2 H2 s2 i2 => by
    rcases q with rfl | rfl
    · cases i2 with
      | lst t al => exact ⟨_, _, rfl, .inl (Evl.ex_l s2.s t), by rw [i1.flat]; exact f1, by rw [al.flatV]; exact f2, by rw [inV_inD (i1.mono s2.d) al f1 f2]; exact k Hd2 H2 (s1.trans s2)⟩
    · cases i2 with
      | tup t al => exact ⟨_, _, rfl, .inr (Evl.ex_t s2.s t), by rw [i1.flat]; exact f1, by rw [al.flatV]; exact f2, by rw [inV_inD (i1.mono s2.d) al f1 f2]; exact k Hd2 H2 (s1.trans s2)⟩)
theorem dc_notin (ha : DE X Γ a x) (hb : DE X Γ b y) (q : y = .list ds ∨ y = .tuple ds) (f1 : flatD x = true) (f2 : ds.all flatD = true) : DC X Γ .NotIn a b (!inD x ds) :=
  fun σ Hd H Q r k => wC_of op_notIn_seq (ha σ Hd H _ r fun v Hd1 H1 s1 i1 => hb σ Hd1 H1 _ (r.stp s1) fun u Hd2 H2 s2 i2 => by
    rcases q with rfl | rfl
    · cases i2 with
      | lst t al => exact ⟨_, _, rfl, .inl (Evl.ex_l s2.s t), by rw [i1.flat]; exact f1, by rw [al.flatV]; exact f2, by rw [inV_inD (i1.mono s2.d) al f1 f2]; exact k Hd2 H2 (s1.trans s2)⟩
    · cases i2 with
      | tup t al => exact ⟨_, _, rfl, .inr (Evl.ex_t s2.s t), by rw [i1.flat]; exact f1, by rw [al.flatV]; exact f2, by rw [inV_inD (i1.mono s2.d) al f1 f2]; exact k Hd2 H2 (s1.trans s2)⟩)
/-- one sign in a text -/
theorem dc_inS {z : Str} {n : Nat} (ha : DE X Γ a (.str ⟨#[n]⟩)) (hb : DE X Γ b (.str z)) : DC X Γ .In a b (decide (n ∈ z.cps.toList)) :=
  fun σ Hd H Q r k => wC_of op_in_sign (ha σ Hd H _ r fun v Hd1 H1 s1 i1 => hb σ Hd1 H1 _ (r.stp s1) fun u Hd2 H2 s2 i2 => by
    cases i1; cases i2
    exact ⟨n, z, rfl, rfl, k Hd2 H2 (s1.trans s2)⟩)
theorem dc_notinS {z : Str} {n : Nat} (ha : DE X Γ a (.str ⟨#[n]⟩)) (hb : DE X Γ b (.str z)) : DC X Γ .NotIn a b (!decide (n ∈ z.cps.toList)) :=
  fun σ Hd H Q r k => wC_of op_notIn_sign (ha σ Hd H _ r fun v Hd1 H1 s1 i1 => hb σ Hd1 H1 _ (r.stp s1) fun u Hd2 H2 s2 i2 => by
    cases i1; cases i2
    exact ⟨n, z, rfl, rfl, k Hd2 H2 (s1.trans s2)⟩)
/-- a op1 b op2 c of ints -/
theorem de_chain {op op' : CmpOp} {g g' : Int → Int → Bool} {l : Int} (ho : OpR X (compareOp op) (rI0 fun i j => .bl (g i j))) (ho' : OpR X (compareOp op') (rI0 fun i j => .bl (g' i j))) (hm : lastMarks [op, op'] [b, c] = false)
    (ha : DE X Γ a (.int i)) (hb : DE X Γ b (.int j)) (hc : DE X Γ c (.int l)) : DE X Γ (.Compare a [op, op'] [b, c] pos) (.bool (g i j && g' j l)) :=
  fun σ Hd H Q r k => wE_of (pe_chain ho ho' pe_w pe_w pe_w hm) (ha σ Hd H _ r fun v Hd1 H1 s1 i1 => hb σ Hd1 H1 _ (r.stp s1) fun u Hd2 H2 s2 i2 => by
    cases i1; cases i2
    refine ⟨i, j, rfl, rfl, _, rfl, ?_⟩
    cases q : g i j with
    | false =>
      have z := k (.bl (g i j && g' j l)) Hd2 H2 (s1.trans s2) (.bl _)
      rw [q] at z; exact z
    | true =>
      refine hc σ Hd2 H2 _ (r.stp (s1.trans s2)) fun w Hd3 H3 s3 i3 => ?_
      cases i3
      refine ⟨j, l, rfl, rfl, ?_⟩
      have z := k (.bl (g i j && g' j l)) Hd3 H3 ((s1.trans s2).trans s3) (.bl _)
      rw [q] at z; exact z)
theorem de_one {op} (h : DE X Γ a d) : DE X Γ (.BoolOp op [a] pos) d := fun σ Hd H Q r k => wE_of (pe_one pe_w) (h σ Hd H Q r k)
theorem de_and {m n : Bool} (ha : DE X Γ a (.bool m)) (hb : m = true → DE X Γ (.BoolOp .And (b :: es) pos) (.bool n)) : DE X Γ (.BoolOp .And (a :: b :: es) pos) (.bool (m && n)) :=
  fun σ Hd H Q r k => wE_of (pe_and pe_w pe_w) (ha σ Hd H _ r fun v Hd1 H1 s1 i1 => by
    cases i1
    refine ⟨m, rfl, ?_⟩
    cases m with
    | true => exact hb rfl σ Hd1 H1 _ (r.stp s1) fun u Hd2 H2 s2 i2 => k u Hd2 H2 (s1.trans s2) i2
    | false => exact k _ Hd1 H1 s1 (.bl _))
theorem de_or {m n : Bool} (ha : DE X Γ a (.bool m)) (hb : m = false → DE X Γ (.BoolOp .Or (b :: es) pos) (.bool n)) : DE X Γ (.BoolOp .Or (a :: b :: es) pos) (.bool (m || n)) :=
  fun σ Hd H Q r k => wE_of (pe_or pe_w pe_w) (ha σ Hd H _ r fun v Hd1 H1 s1 i1 => by
    cases i1
    refine ⟨m, rfl, ?_⟩
    cases m with
    | false => exact hb rfl σ Hd1 H1 _ (r.stp s1) fun u Hd2 H2 s2 i2 => k u Hd2 H2 (s1.trans s2) i2
    | true => exact k _ Hd1 H1 s1 (.bl _))
theorem de_not {m : Bool} (ha : DE X Γ a (.bool m)) : DE X Γ (.UnaryOp .Not a pos) (.bool (!m)) := fun σ Hd H Q r k => wE_of (pe_not pe_w) (ha σ Hd H _ r fun v Hd1 H1 s1 i1 => by
  cases i1
  exact ⟨m, rfl, k _ Hd1 H1 s1 (.bl _)⟩)
/-- a comparison, a call that gives a bool, as a test -/
theorem dt_val {m : Bool} (ha : DE X Γ a (.bool m)) (he : ∀ whole, isTrue a X.env whole = (do let v ← whole; standAt a.pos; holding [v] (truthy v)) := by intro _; rfl) : DT X Γ a m :=
  fun σ Hd H Q r k => wT_of (pt_val pe_w he) (ha σ Hd H _ r fun v Hd1 H1 s1 i1 => by
    cases i1
    exact ⟨m, rfl, k Hd1 H1 s1⟩)
/-- a chain as a test -/
theorem dt_chain {op op' : CmpOp} {g g' : Int → Int → Bool} {l : Int} (ho : OpR X (compareOp op) (rI0 fun i j => .bl (g i j))) (ho' : OpR X (compareOp op') (rI0 fun i j => .bl (g' i j))) (hm : lastMarks [op, op'] [b, c] = false)
    (ha : DE X Γ a (.int i)) (hb : DE X Γ b (.int j)) (hc : DE X Γ c (.int l)) : DT X Γ (.Compare a [op, op'] [b, c] pos) (g i j && g' j l) :=
  fun σ Hd H Q r k => wT_of (pt_chain ho ho' pe_w pe_w pe_w hm) (ha σ Hd H _ r fun v Hd1 H1 s1 i1 => hb σ Hd1 H1 _ (r.stp s1) fun u Hd2 H2 s2 i2 => by
    cases i1; cases i2
    refine ⟨i, j, rfl, rfl, _, rfl, ?_⟩
    cases q : g i j with
    | false =>
      have z := k Hd2 H2 (s1.trans s2)
      rw [q] at z; exact ⟨_, rfl, z⟩
    | true =>
      refine hc σ Hd2 H2 _ (r.stp (s1.trans s2)) fun w Hd3 H3 s3 i3 => ?_
      cases i3
      refine ⟨j, l, rfl, rfl, _, rfl, ?_⟩
      have z := k Hd3 H3 ((s1.trans s2).trans s3)
      rw [q] at z; exact z)
theorem dt_not {m : Bool} (ha : DT X Γ a m) : DT X Γ (.UnaryOp .Not a pos) (!m) := fun σ Hd H Q r k => wT_of (pt_not pt_w) (ha σ Hd H _ r k)
theorem dt_w {m : Bool} (h : DW X Γ a m) : DT X Γ a m := fun σ Hd H Q r k => wT_of (PW.pt pw_w) (h σ Hd H Q r k)
theorem dw_and1 {m : Bool} (h : DT X Γ a m) : DW X Γ (.BoolOp .And [a] pos) m := fun σ Hd H Q r k => wW_of (pw_and1 pt_w) (h σ Hd H Q r k)
theorem dw_or1 {m : Bool} (h : DT X Γ a m) : DW X Γ (.BoolOp .Or [a] pos) m := fun σ Hd H Q r k => wW_of (pw_or1 pt_w) (h σ Hd H Q r k)
theorem dw_and {m n : Bool} (ha : DT X Γ a m) (hb : m = true → DW X Γ (.BoolOp .And (b :: es) pos) n) : DW X Γ (.BoolOp .And (a :: b :: es) pos) (m && n) :=
  fun σ Hd H Q r k => wW_of (pw_and pt_w pw_w) (ha σ Hd H _ r fun Hd1 H1 s1 => by
    cases m with
    | true => exact hb rfl σ Hd1 H1 _ (r.stp s1) fun Hd2 H2 s2 => k Hd2 H2 (s1.trans s2)
    | false => exact k Hd1 H1 s1)
theorem dw_or {m n : Bool} (ha : DT X Γ a m) (hb : m = false → DW X Γ (.BoolOp .Or (b :: es) pos) n) : DW X Γ (.BoolOp .Or (a :: b :: es) pos) (m || n) :=
  fun σ Hd H Q r k => wW_of (pw_or pt_w pw_w) (ha σ Hd H _ r fun Hd1 H1 s1 => by
    cases m with
    | false => exact hb rfl σ Hd1 H1 _ (r.stp s1) fun Hd2 H2 s2 => k Hd2 H2 (s1.trans s2)
    | true => exact k Hd1 H1 s1)
theorem dt_and {m n : Bool} (ha : DT X Γ a m) (hb : m = true → DW X Γ (.BoolOp .And (b :: es) pos) n) : DT X Γ (.BoolOp .And (a :: b :: es) pos) (m && n) := dt_w (dw_and ha hb)
theorem dt_or {m n : Bool} (ha : DT X Γ a m) (hb : m = false → DW X Γ (.BoolOp .Or (b :: es) pos) n) : DT X Γ (.BoolOp .Or (a :: b :: es) pos) (m || n) := dt_w (dw_or ha hb)
/-- a if t else b -/
theorem de_if {m : Bool} (hc : DT X Γ c m) (ha : m = true → DE X Γ a d) (hb : m = false → DE X Γ b d) : DE X Γ (.IfExp c a b pos) d := fun σ Hd H Q r k => wE_of (pe_ifExp pt_w pe_w pe_w) (hc σ Hd H _ r fun Hd1 H1 s1 => by
  cases m with
  | true => exact ha rfl σ Hd1 H1 _ (r.stp s1) fun u Hd2 H2 s2 i2 => k u Hd2 H2 (s1.trans s2) i2
  | false => exact hb rfl σ Hd1 H1 _ (r.stp s1) fun u Hd2 H2 s2 i2 => k u Hd2 H2 (s1.trans s2) i2)
theorem da_nil : DA X Γ [] [] := fun σ Hd H Q r k => wA_of pa_nil (k [] Hd H (Stp.refl r.sub) .nil)
theorem da_cons (ha : DE X Γ e d) (hr : DA X Γ es ds) (hs : starEach (e :: es) X.env = (false, eval e X.env) :: starEach es X.env := by rfl) : DA X Γ (e :: es) (d :: ds) :=
  fun σ Hd H Q r k => wA_of (pa_cons pe_w pa_w hs) (ha σ Hd H _ r fun v Hd1 H1 s1 i1 => hr σ Hd1 H1 _ (r.stp s1) fun vs Hd2 H2 s2 i2 => k _ Hd2 H2 (s1.trans s2) (.cons (i1.mono s2.d) i2))
theorem de_tup {x1} (h : DA X Γ es ds) (hl : ds.length ≤ 1000) : DE X Γ (.Tuple es x1 pos) (.tuple ds) := fun σ Hd H Q r k => wE_of (pe_tup pa_w) (h σ Hd H _ r fun vs Hd1 H1 s1 i1 =>
  ⟨by rw [i1.len]; exact Nat.le_of_lt (small1000 hl), fun p hp => k _ (upd Hd1 p (.tup vs)) _ (s1.trans (Stp.newD s1.s hp)) (.tup (.inl (.inl upd_same)) (i1.mono (Ex.new (ex_none s1.s hp))))⟩)
theorem dn_lst (h : DA X Γ es ds) (hl : ds.length ≤ 1000) : DN X Γ (.List es pos) ds := fun σ Hd H Q r k => wE_of (pe_lst pa_w) (h σ Hd H _ r fun vs Hd1 H1 s1 i1 =>
  ⟨by rw [i1.len]; exact Nat.le_of_lt (small1000 hl), fun p hp => k p vs Hd1 _ (s1.trans (Stp.new s1.s hp)) (ex_none s1.h hp) (ex_none s1.s hp) upd_same i1⟩)
theorem de_lst (h : DA X Γ es ds) (hl : ds.length ≤ 1000) : DE X Γ (.List es pos) (.list ds) := (dn_lst h hl).de
theorem atI_all {K : PySem.W.Frag} {H : Hp} {vs : List V} {n : Int} (h : IsAll K H vs ds) (q : atI ds n = some d) : ∃ v, atI vs n = some v ∧ Is K H v d := by
  obtain ⟨j, h1, h2⟩ : ∃ j, ixN ds.length n = some j ∧ ds[j]? = some d := by
    unfold atI at q
    cases z : ixN ds.length n with
    | none => rw [z] at q; cases q
    | some j => rw [z] at q; exact ⟨j, rfl, q⟩
  obtain ⟨v, h3, h4⟩ := h.get h2
  refine ⟨v, ?_, h4⟩
  unfold atI
  rw [h.len, h1]; exact h3
theorem plainIx_of (b : Expr) (h : ∀ o i, subscripted b false o i = operate [o, i] (getItem o i)) : PlainIx b := h
theorem de_ixT (ha : DE X Γ a (.tuple ds)) (hb : DE X Γ b (.int i)) (q : atI ds i = some d) (hp : PlainIx b := by exact fun _ _ => rfl) : DE X Γ (.Subscript a b pos) d :=
  fun σ Hd H Q r k => wE_of (pe_ix ix_tup pe_w pe_w hp) (ha σ Hd H _ r fun v Hd1 H1 s1 i1 => hb σ Hd1 H1 _ (r.stp s1) fun u Hd2 H2 s2 i2 => by
    cases i2
    cases i1 with
    | tup t al =>
      obtain ⟨w, h1, h2⟩ := atI_all al q
      exact ⟨_, _, i, w, rfl, rfl, Evl.ex_t (s2.d.trans s2.s) t, h1, k _ Hd2 H2 (s1.trans s2) (h2.mono s2.d)⟩)
theorem de_ixL (ha : DE X Γ a (.list ds)) (hb : DE X Γ b (.int i)) (q : atI ds i = some d) (hp : PlainIx b := by exact fun _ _ => rfl) : DE X Γ (.Subscript a b pos) d :=
  fun σ Hd H Q r k => wE_of (pe_ix ix_list pe_w pe_w hp) (ha σ Hd H _ r fun v Hd1 H1 s1 i1 => hb σ Hd1 H1 _ (r.stp s1) fun u Hd2 H2 s2 i2 => by
    cases i2
    cases i1 with
    | lst t al =>
      obtain ⟨w, h1, h2⟩ := atI_all al q
      exact ⟨_, _, i, w, rfl, rfl, Evl.ex_l (s2.d.trans s2.s) t, h1, k _ Hd2 H2 (s1.trans s2) (h2.mono s2.d)⟩)
/-- of a tracked list (one's own) -/
theorem de_ixM (ha : DL X Γ a ds) (hb : DE X Γ b (.int i)) (q : atI ds i = some d) (hp : PlainIx b := by exact fun _ _ => rfl) : DE X Γ (.Subscript a b pos) d :=
  fun σ Hd H Q r k => wE_of (pe_ix ix_list pe_w pe_w hp) (ha σ Hd H _ r fun l vs Hd1 H1 s1 h1 i1 => hb σ Hd1 H1 _ (r.stp s1) fun u Hd2 H2 s2 i2 => by
    cases i2
    obtain ⟨w, h3, h2⟩ := atI_all i1 q
    exact ⟨_, _, i, w, rfl, rfl, SqL.of (s2.h _ _ h1), h3, k _ Hd2 H2 (s1.trans s2) (h2.mono s2.d)⟩)
/-- a sign of a text -/
theorem de_ixS {z : Str} {n : Nat} (ha : DE X Γ a (.str z)) (hb : DE X Γ b (.int i)) (hz : z.length ≤ 100000) (q : atI z.cps.toList i = some n) (hp : PlainIx b := by exact fun _ _ => rfl) : DE X Γ (.Subscript a b pos) (.str ⟨#[n]⟩) :=
  fun σ Hd H Q r k => wE_of (pe_ix ix_str pe_w pe_w hp) (ha σ Hd H _ r fun v Hd1 H1 s1 i1 => hb σ Hd1 H1 _ (r.stp s1) fun u Hd2 H2 s2 i2 => by
    cases i2; cases i1
    exact ⟨z, i, n, rfl, rfl, Evl.sz_of hz, q, k _ Hd2 H2 (s1.trans s2) (.str _)⟩)
def DO (X : Cx) (Γ : List Cell) (e : Option Expr) (o : Option Int) : Prop := ∃ t : TO, PO X e t ∧ ∀ σ Hd H (Q : Option Int → Hp → Prop), Rl X.K Γ σ Hd H → (∀ Hd' H', Stp Hd H Hd' H' → Q o H') → t σ H Q
theorem do_none : DO X Γ none none := ⟨_, po_none, fun σ Hd H Q r k => k Hd H (Stp.refl r.sub)⟩
theorem do_some (h : DE X Γ e (.int i)) : DO X Γ (some e) (some i) := ⟨_, po_some pe_w, fun σ Hd H Q r k => h σ Hd H _ r fun v Hd1 H1 s1 i1 => by
  cases i1
  exact ⟨i, rfl, k Hd1 H1 s1⟩⟩
/-- the items of a slice -/
def cutD {α : Type} (ds : List α) (lo hi : Option Int) : List α := (ds.drop (HT.sIx ds.length 0 lo)).take (HT.sIx ds.length ds.length hi - HT.sIx ds.length 0 lo)
theorem cut_all {K : PySem.W.Frag} {H : Hp} {vs : List V} (h : IsAll K H vs ds) (lo hi : Option Int) : IsAll K H (cutV vs lo hi) (cutD ds lo hi) := by
  unfold cutV cutD
  rw [h.len]
  exact (h.drop _).take _
theorem dn_slL {lo hi : Option Expr} {o u : Option Int} {p2 : Pos} (ha : DE X Γ a (.list ds)) (hl : DO X Γ lo o) (hh : DO X Γ hi u) : DN X Γ (.Subscript a (.Slice lo hi none p2) pos) (cutD ds o u) := by
  obtain ⟨tl, pl, kl⟩ := hl
  obtain ⟨th, ph, kh⟩ := hh
  exact fun σ Hd H Q r k => wE_of (pe_slice sl_list pe_w pl ph) (ha σ Hd H _ r fun v Hd1 H1 s1 i1 => kl σ Hd1 H1 _ (r.stp s1) fun Hd2 H2 s2 => kh σ Hd2 H2 _ (r.stp (s1.trans s2)) fun Hd3 H3 s3 => by
    have s23 := s2.trans s3
    cases i1 with
    | lst t al => exact ⟨_, _, rfl, Evl.ex_l (s23.d.trans s23.s) t, fun p hp => k p _ Hd3 _ ((s1.trans s23).trans (Stp.new s23.s hp)) (ex_none (s1.trans s23).h hp) (ex_none s23.s hp) upd_same ((cut_all al o u).mono s23.d)⟩)
theorem dn_slM {lo hi : Option Expr} {o u : Option Int} {p2 : Pos} (ha : DL X Γ a ds) (hl : DO X Γ lo o) (hh : DO X Γ hi u) : DN X Γ (.Subscript a (.Slice lo hi none p2) pos) (cutD ds o u) := by
  obtain ⟨tl, pl, kl⟩ := hl
  obtain ⟨th, ph, kh⟩ := hh
  exact fun σ Hd H Q r k => wE_of (pe_slice sl_list pe_w pl ph) (ha σ Hd H _ r fun l vs Hd1 H1 s1 h1 i1 => kl σ Hd1 H1 _ (r.stp s1) fun Hd2 H2 s2 => kh σ Hd2 H2 _ (r.stp (s1.trans s2)) fun Hd3 H3 s3 => by
    have s23 := s2.trans s3
    exact ⟨_, _, rfl, SqL.of (s23.h _ _ h1), fun p hp => k p _ Hd3 _ ((s1.trans s23).trans (Stp.new s23.s hp)) (ex_none (s1.trans s23).h hp) (ex_none s23.s hp) upd_same ((cut_all i1 o u).mono s23.d)⟩)
theorem cut_whole {α : Type} {ds : List α} {lo hi : Option Int} (h : HT.sIx ds.length 0 lo = 0 ∧ HT.sIx ds.length ds.length hi = ds.length) : cutD ds lo hi = ds := by
  unfold cutD
  rw [h.1, h.2]
  simp
theorem de_slT {lo hi : Option Expr} {o u : Option Int} {p2 : Pos} (ha : DE X Γ a (.tuple ds)) (hl : DO X Γ lo o) (hh : DO X Γ hi u) : DE X Γ (.Subscript a (.Slice lo hi none p2) pos) (.tuple (cutD ds o u)) := by
  obtain ⟨tl, pl, kl⟩ := hl
  obtain ⟨th, ph, kh⟩ := hh
  exact fun σ Hd H Q r k => wE_of (pe_slice sl_tupA pe_w pl ph) (ha σ Hd H _ r fun v Hd1 H1 s1 i1 => kl σ Hd1 H1 _ (r.stp s1) fun Hd2 H2 s2 => kh σ Hd2 H2 _ (r.stp (s1.trans s2)) fun Hd3 H3 s3 => by
    have s23 := s2.trans s3
    cases i1 with
    | tup t al =>
      refine ⟨_, _, rfl, Evl.ex_t (s23.d.trans s23.s) t, fun w => ?_, fun w p hp => ?_⟩
      · rw [al.len] at w
        rw [cut_whole w] at k
        exact k _ Hd3 H3 (s1.trans s23) (.tup (Evl.ex_t s23.d t) (al.mono s23.d))
      · exact k _ _ _ ((s1.trans s23).trans (Stp.newD s23.s hp)) (.tup (.inl (.inl upd_same)) ((cut_all al o u).mono (s23.d.trans (Ex.new (ex_none s23.s hp))))))
theorem de_B {id : String} {r : List V → Hp → VK → Prop} {x : Str} (hc : CallR X (.builtin id) r) (hg : Gl X x) (hm : X.mg x = none) (hv : bootBuiltins x = some (.builtin id)) (ha : DA X Γ (e :: es) ds)
    (hr : ∀ vs Hd H (Q : VK), Ex Hd H → IsAll X.K Hd vs ds → (∀ v Hd' H', Stp Hd H Hd' H' → Is X.K Hd' v d → Q v H') → r vs H Q)
    (hn : x ≠ "__name__" := by decide) (hdb : (x == ("__debug__" : Str)) = false := by decide) (he : starEach (e :: es) X.env = (false, eval e X.env) :: starEach es X.env := by rfl) (hpl : (backTo pos (starEach es X.env)).any (·.1) = false := by rfl) :
    DE X Γ (.Call (.Name x p) (e :: es) [] pos) d := fun σ Hd H Q rl k => wE_of (pe_callB hc hg hm hv pa_w hn hdb he hpl) (ha σ Hd H _ rl fun vs Hd1 H1 s1 i1 => hr vs Hd1 H1 _ s1.s i1 fun v Hd2 H2 s2 i2 => k v Hd2 H2 (s1.trans s2) i2)
theorem de_Ty {T : String} {r : List V → Hp → VK → Prop} {x : Str} (hc : CallR X (.type T) r) (hg : Gl X x) (hm : X.mg x = none) (hv : bootBuiltins x = some (.type T)) (ha : DA X Γ (e :: es) ds)
    (hr : ∀ vs Hd H (Q : VK), Ex Hd H → IsAll X.K Hd vs ds → (∀ v Hd' H', Stp Hd H Hd' H' → Is X.K Hd' v d → Q v H') → r vs H Q)
    (hn : x ≠ "__name__" := by decide) (hdb : (x == ("__debug__" : Str)) = false := by decide) (he : starEach (e :: es) X.env = (false, eval e X.env) :: starEach es X.env := by rfl) (hpl : (backTo pos (starEach es X.env)).any (·.1) = false := by rfl) :
    DE X Γ (.Call (.Name x p) (e :: es) [] pos) d := fun σ Hd H Q rl k => wE_of (pe_callTy hc hg hm hv pa_w hn hdb he hpl) (ha σ Hd H _ rl fun vs Hd1 H1 s1 i1 => hr vs Hd1 H1 _ s1.s i1 fun v Hd2 H2 s2 i2 => k v Hd2 H2 (s1.trans s2) i2)
/-- the global names of the built-ins: what stands under them at the top -/
abbrev NoMg (X : Cx) (x : Str) : Prop := X.mg x = none
theorem all1 {K : PySem.W.Frag} {H : Hp} {vs : List V} {d : D} (h : IsAll K H vs [d]) : ∃ v, vs = [v] ∧ Is K H v d := by
  cases h with | cons a b => cases b; exact ⟨_, rfl, a⟩
theorem all2 {K : PySem.W.Frag} {H : Hp} {vs : List V} {d d' : D} (h : IsAll K H vs [d, d']) : ∃ v v', vs = [v, v'] ∧ Is K H v d ∧ Is K H v' d' := by
  cases h with | cons a b => cases b with | cons a' b' => cases b'; exact ⟨_, _, rfl, a, a'⟩
theorem de_len (hg : Gl X "len") (hm : NoMg X "len") (ha : DE X Γ a x) (q : x = .list ds ∨ x = .tuple ds) (hs : starEach [a] X.env = (false, eval a X.env) :: starEach [] X.env := by rfl) : DE X Γ (.Call (.Name "len" p) [a] [] pos) (.int (ds.length : Int)) :=
  de_B call_len_seq hg hm PySem.boot_len (da_cons ha da_nil hs) (hdb := by decide) (hn := by decide) (he := hs) (hpl := rfl) (hr := fun vs Hd H Q s h k => by
    obtain ⟨v, rfl, i⟩ := all1 h
    rcases q with rfl | rfl
    · cases i with | lst t al => exact ⟨_, _, rfl, .inl (Evl.ex_l s t), by rw [al.len]; exact k _ Hd H (Stp.refl s) (.int _)⟩
    · cases i with | tup t al => exact ⟨_, _, rfl, .inr (Evl.ex_t s t), by rw [al.len]; exact k _ Hd H (Stp.refl s) (.int _)⟩)
theorem de_lenL (hg : Gl X "len") (hm : NoMg X "len") (ha : DE X Γ a (.list ds)) (hs : starEach [a] X.env = (false, eval a X.env) :: starEach [] X.env := by rfl) : DE X Γ (.Call (.Name "len" p) [a] [] pos) (.int (ds.length : Int)) := de_len hg hm ha (.inl rfl) hs
theorem de_lenT (hg : Gl X "len") (hm : NoMg X "len") (ha : DE X Γ a (.tuple ds)) (hs : starEach [a] X.env = (false, eval a X.env) :: starEach [] X.env := by rfl) : DE X Γ (.Call (.Name "len" p) [a] [] pos) (.int (ds.length : Int)) := de_len hg hm ha (.inr rfl) hs
theorem de_lenS {z : Str} (hg : Gl X "len") (hm : NoMg X "len") (ha : DE X Γ a (.str z)) (hz : z.length ≤ 100000) (hs : starEach [a] X.env = (false, eval a X.env) :: starEach [] X.env := by rfl) : DE X Γ (.Call (.Name "len" p) [a] [] pos) (.int (z.length : Int)) :=
  de_B call_len_str hg hm PySem.boot_len (da_cons ha da_nil hs) (hdb := by decide) (hn := by decide) (he := hs) (hpl := rfl) (hr := fun vs Hd H Q s h k => by
    obtain ⟨v, rfl, i⟩ := all1 h
    cases i
    exact ⟨z, rfl, Evl.sz_of hz, k _ Hd H (Stp.refl s) (.int _)⟩)
theorem de_lenM (hg : Gl X "len") (hm : NoMg X "len") (ha : DL X Γ a ds) (hs : starEach [a] X.env = (false, eval a X.env) :: starEach [] X.env := by rfl) : DE X Γ (.Call (.Name "len" p) [a] [] pos) (.int (ds.length : Int)) :=
  fun σ Hd H Q rl k => wE_of (pe_callB call_len_seq hg hm PySem.boot_len (pa_cons pe_w pa_nil hs) (by decide) (by decide) hs rfl) (ha σ Hd H _ rl fun l vs Hd1 H1 s1 h1 i1 => ⟨_, _, rfl, .inl (SqL.of h1), by rw [i1.len]; exact k _ Hd1 H1 s1 (.int _)⟩)
theorem de_abs (hg : Gl X "abs") (hm : NoMg X "abs") (ha : DE X Γ a (.int i)) (hs : starEach [a] X.env = (false, eval a X.env) :: starEach [] X.env := by rfl) : DE X Γ (.Call (.Name "abs" p) [a] [] pos) (.int (if i < 0 then -i else i)) :=
  de_B call_abs hg hm (by decide +kernel) (da_cons ha da_nil hs) (hdb := by decide) (hn := by decide) (he := hs) (hpl := rfl) (hr := fun vs Hd H Q s h k => by
    obtain ⟨v, rfl, q⟩ := all1 h
    cases q
    exact ⟨i, rfl, k _ Hd H (Stp.refl s) (.int _)⟩)
theorem de_max2 (hc : X.calm = true) (hg : Gl X "max") (hm : NoMg X "max") (ha : DE X Γ a (.int i)) (hb : DE X Γ b (.int j)) (hs : starEach [a, b] X.env = (false, eval a X.env) :: starEach [b] X.env := by rfl) (hpl : (backTo pos (starEach [b] X.env)).any (·.1) = false := by rfl) (hs2 : starEach [b] X.env = (false, eval b X.env) :: starEach [] X.env := by rfl) : DE X Γ (.Call (.Name "max" p) [a, b] [] pos) (.int (if j > i then j else i)) :=
  de_B (call_max2 hc) hg hm (by decide +kernel) (da_cons ha (da_cons hb da_nil hs2) hs) (fun vs Hd H Q s h k => by
    obtain ⟨v, v', rfl, q, q'⟩ := all2 h
    cases q; cases q'
    exact ⟨i, j, rfl, k _ Hd H (Stp.refl s) (.int _)⟩) (by decide) (by decide) hs hpl
theorem de_min2 (hc : X.calm = true) (hg : Gl X "min") (hm : NoMg X "min") (ha : DE X Γ a (.int i)) (hb : DE X Γ b (.int j)) (hs : starEach [a, b] X.env = (false, eval a X.env) :: starEach [b] X.env := by rfl) (hpl : (backTo pos (starEach [b] X.env)).any (·.1) = false := by rfl) (hs2 : starEach [b] X.env = (false, eval b X.env) :: starEach [] X.env := by rfl) : DE X Γ (.Call (.Name "min" p) [a, b] [] pos) (.int (if j < i then j else i)) :=
  de_B (call_min2 hc) hg hm (by decide +kernel) (da_cons ha (da_cons hb da_nil hs2) hs) (fun vs Hd H Q s h k => by
    obtain ⟨v, v', rfl, q, q'⟩ := all2 h
    cases q; cases q'
    exact ⟨i, j, rfl, k _ Hd H (Stp.refl s) (.int _)⟩) (by decide) (by decide) hs hpl
theorem de_intB {m : Bool} (hg : Gl X "int") (hm : NoMg X "int") (ha : DE X Γ a (.bool m)) (hs : starEach [a] X.env = (false, eval a X.env) :: starEach [] X.env := by rfl) : DE X Γ (.Call (.Name "int" p) [a] [] pos) (.int (if m then 1 else 0)) :=
  de_Ty call_int1 hg hm (by decide +kernel) (da_cons ha da_nil hs) (hdb := by decide) (hn := by decide) (he := hs) (hpl := rfl) (hr := fun vs Hd H Q s h k => by
    obtain ⟨v, rfl, q⟩ := all1 h
    cases q
    exact .inr ⟨m, rfl, k _ Hd H (Stp.refl s) (.int _)⟩)
/-- tuple(x) -/
theorem de_tuple (hg : Gl X "tuple") (hm : NoMg X "tuple") (ha : DE X Γ a x) (q : x = .list ds ∨ x = .tuple ds) (hs : starEach [a] X.env = (false, eval a X.env) :: starEach [] X.env := by rfl) : DE X Γ (.Call (.Name "tuple" p) [a] [] pos) (.tuple ds) :=
  de_Ty call_tuple_of hg hm (by decide +kernel) (da_cons ha da_nil hs) (hdb := by decide) (hn := by decide) (he := hs) (hpl := rfl) (hr := fun vs Hd H Q s h k => by
    obtain ⟨v, rfl, i⟩ := all1 h
    rcases q with rfl | rfl
    · cases i with | lst t al => exact ⟨_, _, rfl, .inl ⟨Evl.ex_l s t, fun l hl => k _ (upd Hd l (.tup _)) _ (Stp.newD s hl) (.tup (.inl (.inl upd_same)) (al.mono (Ex.new (ex_none s hl))))⟩⟩
    · cases i with | tup t al => exact ⟨_, _, rfl, .inr ⟨Evl.ex_t s t, k _ Hd H (Stp.refl s) (.tup t al)⟩⟩)
theorem de_tupleM (hg : Gl X "tuple") (hm : NoMg X "tuple") (ha : DL X Γ a ds) (hs : starEach [a] X.env = (false, eval a X.env) :: starEach [] X.env := by rfl) : DE X Γ (.Call (.Name "tuple" p) [a] [] pos) (.tuple ds) :=
  fun σ Hd H Q rl k => wE_of (pe_callTy call_tuple_of hg hm (by decide +kernel) (pa_cons pe_w pa_nil hs) (by decide) (by decide) hs rfl) (ha σ Hd H _ rl fun l vs Hd1 H1 s1 h1 i1 =>
    ⟨_, _, rfl, .inl ⟨SqL.of h1, fun l hl => k _ (upd Hd1 l (.tup _)) _ (s1.trans (Stp.newD s1.s hl)) (.tup (.inl (.inl upd_same)) (i1.mono (Ex.new (ex_none s1.s hl))))⟩⟩)
/-- list(x) -/
theorem dn_list (hg : Gl X "list") (hm : NoMg X "list") (ha : DE X Γ a x) (q : x = .list ds ∨ x = .tuple ds) (hs : starEach [a] X.env = (false, eval a X.env) :: starEach [] X.env := by rfl) : DN X Γ (.Call (.Name "list" p) [a] [] pos) ds :=
  fun σ Hd H Q rl k => wE_of (pe_callTy call_list_of hg hm (by decide +kernel) (pa_cons pe_w pa_nil hs) (by decide) (by decide) hs rfl) (ha σ Hd H _ rl fun v Hd1 H1 s1 i1 => by
    rcases q with rfl | rfl
    · cases i1 with | lst t al => exact ⟨_, _, rfl, .inl (Evl.ex_l s1.s t), fun l hl => k l _ Hd1 _ (s1.trans (Stp.new s1.s hl)) (ex_none s1.h hl) (ex_none s1.s hl) upd_same al⟩
    · cases i1 with | tup t al => exact ⟨_, _, rfl, .inr (Evl.ex_t s1.s t), fun l hl => k l _ Hd1 _ (s1.trans (Stp.new s1.s hl)) (ex_none s1.h hl) (ex_none s1.s hl) upd_same al⟩)
theorem dn_listM (hg : Gl X "list") (hm : NoMg X "list") (ha : DL X Γ a ds) (hs : starEach [a] X.env = (false, eval a X.env) :: starEach [] X.env := by rfl) : DN X Γ (.Call (.Name "list" p) [a] [] pos) ds :=
  fun σ Hd H Q rl k => wE_of (pe_callTy call_list_of hg hm (by decide +kernel) (pa_cons pe_w pa_nil hs) (by decide) (by decide) hs rfl) (ha σ Hd H _ rl fun l vs Hd1 H1 s1 h1 i1 =>
    ⟨_, _, rfl, .inl (SqL.of h1), fun l hl => k l _ Hd1 _ (s1.trans (Stp.new s1.s hl)) (ex_none s1.h hl) (ex_none s1.s hl) upd_same i1⟩)
/-- list + list, list * int -/
theorem dn_cat (ha : DL X Γ a xs) (hb : DL X Γ b ys) (hl : xs.length + ys.length ≤ 1000) : DN X Γ (.BinOp a .Add b pos) (xs ++ ys) :=
  fun σ Hd H Q r k => wE_of (pe_op op_cat pe_w pe_w) (ha σ Hd H _ r fun l vs Hd1 H1 s1 h1 i1 => hb σ Hd1 H1 _ (r.stp s1) fun m us Hd2 H2 s2 h2 i2 =>
    ⟨l, m, vs, us, rfl, rfl, s2.h _ _ h1, h2, by rw [i1.len, i2.len]; exact Nat.le_of_lt (small1000 hl), fun p hp => k p _ Hd2 _ ((s1.trans s2).trans (Stp.new s2.s hp)) (ex_none (s1.trans s2).h hp) (ex_none s2.s hp) upd_same ((i1.mono s2.d).app i2)⟩)
theorem IsAll.flat {K : PySem.W.Frag} {H : Hp} {vs : List V} (h : IsAll K H vs ds) : ∀ n : Nat, IsAll K H (List.replicate n vs).flatten (List.replicate n ds).flatten
  | 0 => .nil
  | n + 1 => by rw [List.replicate_succ, List.flatten_cons, List.replicate_succ, List.flatten_cons]; exact h.app (IsAll.flat h n)
theorem dn_rep (ha : DL X Γ a xs) (hb : DE X Γ b (.int i)) (h0 : -1000 ≤ i) (hi : i ≤ 1000) (hl : xs.length * i.toNat ≤ 1000) : DN X Γ (.BinOp a .Mult b pos) (List.replicate i.toNat xs).flatten :=
  fun σ Hd H Q r k => wE_of (pe_op op_rep pe_w pe_w) (ha σ Hd H _ r fun l vs Hd1 H1 s1 h1 i1 => hb σ Hd1 H1 _ (r.stp s1) fun u Hd2 H2 s2 i2 => by
    cases i2
    exact ⟨l, i, vs, rfl, rfl, s2.h _ _ h1, by omega, by omega, by rw [i1.len]; exact Nat.le_of_lt (small1000 hl), fun p hp => k p _ Hd2 _ ((s1.trans s2).trans (Stp.new s2.s hp)) (ex_none (s1.trans s2).h hp) (ex_none s2.s hp) upd_same ((i1.mono s2.d).flat _)⟩)
end
end Hf

namespace Hf
open PySem PySem.Spec PyProof.Rows L2
open Evl (Ex)
def wG (X : Cx) (tg : Expr) : TG := fun v σ H Q => ∀ (pins : List (Addr × Obj)) (s : Shared) (u : Value), Inv X pins σ H s → RelV v u → wpAny (model X.prog X.w) X.A (assign tg X.env u) (fun _ s' => ∃ σ' H', Inv X pins σ' H' s' ∧ Q σ' H') X.xe s
def wGs (X : Cx) (ts : List Expr) : TGs := fun vs σ H Q => ∀ (pins : List (Addr × Obj)) (s : Shared) (us : List Value), Inv X pins σ H s → Vals vs us → wpAny (model X.prog X.w) X.A (assignInOrder ((assignEach ts X.env).map (·.2)) us) (fun _ s' => ∃ σ' H', Inv X pins σ' H' s' ∧ Q σ' H') X.xe s
def setV (σ : St) : List (Nat × D) → List V → St
  | (j, _) :: r, w :: ws => setV (σ.set j (some w)) r ws
  | _, _ => σ
def setC (Γ : List Cell) : List (Nat × D) → List Cell
  | (j, d) :: r => setC (Γ.set j (.d d)) r
  | [] => Γ
section
variable {X : Cx} {Γ : List Cell} {tg : Expr} {ts : List Expr} {d : D} {ds : List D} {pos p : Pos}
theorem pg_w : PG X tg (wG X tg) := ⟨fun pins s σ H v u Q I r h => h pins s u I r⟩
theorem pgs_w : PGs X ts (wGs X ts) := ⟨fun pins s σ H v u Q I r h => h pins s u I r⟩
theorem wG_of {t : TG} {v : V} {σ : St} {H : Hp} {Q : St → Hp → Prop} (h : PG X tg t) (q : t v σ H Q) : wG X tg v σ H Q := fun pins s u I r => h.run pins s σ H v u Q I r q
theorem wGs_of {t : TGs} {v : List V} {σ : St} {H : Hp} {Q : St → Hp → Prop} (h : PGs X ts t) (q : t v σ H Q) : wGs X ts v σ H Q := fun pins s u I r => h.run pins s σ H v u Q I r q
/-- the target takes data d apart into these stores -/
def DG (X : Cx) (tg : Expr) (d : D) (sts : List (Nat × D)) : Prop := ∀ σ Hd H v (Q : St → Hp → Prop), Is X.K Hd v d → Ex Hd H → (∀ ws, IsAll X.K Hd ws (sts.map (·.2)) → Q (setV σ sts ws) H) → wG X tg v σ H Q
def DGs (X : Cx) (ts : List Expr) (ds : List D) (sts : List (Nat × D)) : Prop := ∀ σ Hd H vs (Q : St → Hp → Prop), IsAll X.K Hd vs ds → Ex Hd H → (∀ ws, IsAll X.K Hd ws (sts.map (·.2)) → Q (setV σ sts ws) H) → wGs X ts vs σ H Q
theorem dg_name {j : Nat} {x : Str} (hp : PG X (.Name x p) (gName j)) : DG X (.Name x p) d [(j, d)] := fun σ Hd H v Q i e k => wG_of hp (k [v] (.one i))
theorem dgs_nil : DGs X [] [] [] := fun σ Hd H vs Q i e k => wGs_of pgs_nil (by cases i; exact ⟨rfl, k [] .nil⟩)
theorem setV_app : ∀ {s1 s2 : List (Nat × D)} {ws us : List V} {σ : St}, ws.length = s1.length → setV (setV σ s1 ws) s2 us = setV σ (s1 ++ s2) (ws ++ us)
  | [], _, [], _, _, _ => rfl
  | [], _, _ :: _, _, _, h => by simp at h
  | _ :: _, _, [], _, _, h => by simp at h
  | (j, d) :: s1, s2, w :: ws, us, σ, h => by
    show setV (setV (σ.set j (some w)) s1 ws) s2 us = setV (σ.set j (some w)) (s1 ++ s2) (ws ++ us)
    exact setV_app (by simpa using h)
theorem dgs_cons {s1 s2 : List (Nat × D)} (h1 : DG X tg d s1) (h2 : DGs X ts ds s2) (hs : (assignEach (tg :: ts) X.env).map (·.2) = assign tg X.env :: (assignEach ts X.env).map (·.2) := by rfl) : DGs X (tg :: ts) (d :: ds) (s1 ++ s2) :=
  fun σ Hd H vs Q i e k => wGs_of (pgs_cons pg_w pgs_w hs) (by
    cases i with
    | cons a b =>
      refine ⟨_, _, rfl, h1 σ Hd H _ _ a e fun ws hw => h2 _ Hd H _ _ b e fun us hu => ?_⟩
      rw [setV_app (by simpa using hw.len)]
      exact k _ (by rw [List.map_append]; exact hw.app hu))
theorem dg_tup {sts : List (Nat × D)} {k : Nat} (hc : X.calm = true) (h : DGs X ts ds sts) (hn : (assignEach ts X.env).length = ds.length := by rfl) (hst : (assignEach ts X.env).findIdx? (·.1) = none := by rfl) : DG X (.Tuple ts k pos) (.tuple ds) sts :=
  fun σ Hd H v Q i e q => wG_of (pg_tup hc pgs_w hn hst) (by
    cases i with
    | tup t al => exact ⟨_, _, rfl, Evl.ex_t e t, al.len, h σ Hd H _ _ al e q⟩)
end
section
variable {K : PySem.W.Frag} {Γ : List Cell} {σ : St} {Hd H Hs H0 Hb : Hp}
theorem Rl.setV (e : Rl K Γ σ Hd H) : ∀ {sts : List (Nat × D)} {ws : List V}, IsAll K Hd ws (sts.map (·.2)) → Rl K (setC Γ sts) (Hf.setV σ sts ws) Hd H := fun {sts} => by
  induction sts generalizing Γ σ with
  | nil => intro ws h; cases h; exact e
  | cons p r ih =>
    intro ws h
    cases h with
    | cons a b => exact ih (e.setD a) b
theorem R.setV (e : R K Hs H0 Hb Γ σ Hd H) : ∀ {sts : List (Nat × D)} {ws : List V}, IsAll K Hd ws (sts.map (·.2)) → R K Hs H0 Hb (setC Γ sts) (Hf.setV σ sts ws) Hd H := fun {sts} => by
  induction sts generalizing Γ σ with
  | nil => intro ws h; cases h; exact e
  | cons p r ih =>
    intro ws h
    cases h with
    | cons a b => exact ih (e.setD a) b
end
def ItOk (K : PySem.W.Frag) (J : It) (items : List D) (Hd1 : Hp) : Prop := ∀ (i : Nat) Hd2 H2, Ex Hd1 Hd2 → Ex Hd2 H2 →
  (∀ d, items[i]? = some d → J.go i H2 ∧ ∀ x H3, J.yld i H2 x H3 → ∃ Hd3, Stp Hd2 H2 Hd3 H3 ∧ Is K Hd3 x d) ∧ (i = items.length → J.stop i H2)
theorem itok {K : PySem.W.Frag} {J : It} {items : List D} {Hd1 : Hp} (h : ∀ (i : Nat) Hd2 H2, Ex Hd1 Hd2 → Ex Hd2 H2 →
  (∀ d, items[i]? = some d → J.go i H2 ∧ ∀ x H3, J.yld i H2 x H3 → ∃ Hd3, Stp Hd2 H2 Hd3 H3 ∧ Is K Hd3 x d) ∧ (items[i]? = none → J.stop i H2)) : ItOk K J items Hd1 :=
  fun i Hd2 H2 e1 e2 => ⟨(h i Hd2 H2 e1 e2).1, fun hi => (h i Hd2 H2 e1 e2).2 (List.getElem?_eq_none (by omega))⟩
def DI (X : Cx) (Γ : List Cell) (tg it : Expr) (items : List D) : Prop := ∃ wi : TI, PI X tg it wi ∧ ∀ σ Hd H (Q : It → Hp → Prop), Rl X.K Γ σ Hd H → (∀ J Hd' H', Stp Hd H Hd' H' → ItOk X.K J items Hd' → Q J H') → wi σ H Q
section
variable {X : Cx} {Γ : List Cell} {tg e a b : Expr} {d x : D} {ds xs ys : List D} {i j : Int} {pos p : Pos}
theorem di_list (h : DE X Γ e (.list ds)) : DI X Γ tg e ds := ⟨_, pi_list pe_w, fun σ Hd H Q r k => h σ Hd H _ r fun v Hd1 H1 s1 i1 => by
  cases i1 with
  | lst t al =>
    refine ⟨_, rfl, ⟨_, Evl.ex_l s1.s t⟩, k _ Hd1 H1 s1 <| itok fun i Hd2 H2 e1 e2 => ⟨fun d hd => ?_, fun hn => ?_⟩⟩
    · obtain ⟨w, h1, h2⟩ := al.get hd
      refine ⟨⟨_, w, Evl.ex_l (e1.trans e2) t, h1⟩, fun y H3 hy => ?_⟩
      obtain ⟨rfl, hy⟩ := hy
      have z := hy _ (Evl.ex_l (e1.trans e2) t)
      rw [h1] at z; cases z
      exact ⟨Hd2, Stp.refl e2, h2.mono e1⟩
    · exact ⟨_, Evl.ex_l (e1.trans e2) t, by rw [al.len]; exact List.getElem?_eq_none_iff.mp hn⟩⟩
theorem di_tup (h : DE X Γ e (.tuple ds)) : DI X Γ tg e ds := ⟨_, pi_tup pe_w, fun σ Hd H Q r k => h σ Hd H _ r fun v Hd1 H1 s1 i1 => by
  cases i1 with
  | tup t al =>
    refine ⟨_, rfl, ⟨_, Evl.ex_t s1.s t⟩, k _ Hd1 H1 s1 <| itok fun i Hd2 H2 e1 e2 => ⟨fun d hd => ?_, fun hn => ?_⟩⟩
    · obtain ⟨w, h1, h2⟩ := al.get hd
      refine ⟨⟨_, w, Evl.ex_t (e1.trans e2) t, h1⟩, fun y H3 hy => ?_⟩
      obtain ⟨rfl, hy⟩ := hy
      have z := hy _ (Evl.ex_t (e1.trans e2) t)
      rw [h1] at z; cases z
      exact ⟨Hd2, Stp.refl e2, h2.mono e1⟩
    · exact ⟨_, Evl.ex_t (e1.trans e2) t, by rw [al.len]; exact List.getElem?_eq_none_iff.mp hn⟩⟩
/-- lo, lo + 1, .., n of them -/
def rngD (lo : Int) (n : Nat) : List D := (List.range n).map fun i : Nat => .int (lo + (i : Int))
theorem rng_some {lo : Int} {n i : Nat} {d : D} (h : (rngD lo n)[i]? = some d) : i < n ∧ d = .int (lo + (i : Int)) := by
  unfold rngD at h
  rw [List.getElem?_map] at h
  by_cases hi : i < n
  · rw [List.getElem?_range hi] at h
    exact ⟨hi, (Option.some.inj h).symm⟩
  · rw [List.getElem?_eq_none (by simpa using hi)] at h; cases h
theorem rng_at {lo : Int} {n i : Nat} (h : i < n) : (rngD lo n)[i]? = some (.int (lo + (i : Int))) := by
  unfold rngD
  rw [List.getElem?_map, List.getElem?_range h]; rfl
theorem rng_none {lo : Int} {n i : Nat} (h : (rngD lo n)[i]? = none) : n ≤ i := by
  have := List.getElem?_eq_none_iff.mp h
  unfold rngD at this
  simpa using this
theorem rng_len (lo : Int) (n : Nat) : (rngD lo n).length = n := by unfold rngD; simp
theorem itok_rng (K : PySem.W.Frag) (lo : Int) (n : Nat) (Hd : Hp) : ItOk K (Itr lo n) (rngD lo n) Hd := itok fun i Hd2 H2 e1 e2 => ⟨fun d hd => by
  obtain ⟨h1, rfl⟩ := rng_some hd
  refine ⟨h1, fun y H3 hy => ?_⟩
  obtain ⟨rfl, rfl⟩ := hy
  exact ⟨Hd2, Stp.refl e2, .int _⟩, fun hn => rng_none hn⟩
/-- 0, 1, .., n of them -/
def rng0 (n : Nat) : List D := (List.range n).map fun i : Nat => .int (i : Int)
theorem rng0_eq (n : Nat) : rng0 n = rngD 0 n := by
  unfold rng0 rngD
  simp
theorem rng0_some {n i : Nat} {d : D} (h : (rng0 n)[i]? = some d) : i < n ∧ d = .int (i : Int) := by
  rw [rng0_eq] at h
  have := rng_some h
  simpa using this
theorem rng0_len (n : Nat) : (rng0 n).length = n := by unfold rng0; simp
theorem di_r1 (hg : Gl X "range") (hm : NoMg X "range") (h : DE X Γ a (.int j)) (hb : -1000000 ≤ j ∧ j ≤ 1000000) (hs : starEach [a] X.env = [(false, eval a X.env)] := by rfl) : DI X Γ tg (.Call (.Name "range" p) [a] [] pos) (rng0 j.toNat) :=
  ⟨_, pi_range1 hg hm pa_w hs, fun σ Hd H Q r k => da_cons (es := []) h da_nil hs σ Hd H _ r fun vs Hd1 H1 s1 i1 => by
    obtain ⟨v, rfl, iv⟩ := all1 i1
    cases iv
    exact ⟨j, rfl, by omega, by omega, k _ Hd1 H1 s1 (by rw [rng0_eq]; exact itok_rng _ _ _ _)⟩⟩
theorem di_r2 (hg : Gl X "range") (hm : NoMg X "range") (ha : DE X Γ a (.int i)) (h : DE X Γ b (.int j)) (hb : -1000000 ≤ i ∧ i ≤ 1000000 ∧ -1000000 ≤ j ∧ j ≤ 1000000)
    (hs : starEach [a, b] X.env = [(false, eval a X.env), (false, eval b X.env)] := by rfl) (hs2 : starEach [b] X.env = [(false, eval b X.env)] := by rfl) : DI X Γ tg (.Call (.Name "range" p) [a, b] [] pos) (rngD i (j - i).toNat) :=
  ⟨_, pi_range2 hg hm pa_w hs hs2, fun σ Hd H Q r k => da_cons (es := [b]) ha (da_cons (es := []) h da_nil hs2) (by rw [hs, hs2]) σ Hd H _ r fun vs Hd1 H1 s1 i1 => by
    obtain ⟨v, v', rfl, iv, iv'⟩ := all2 i1
    cases iv; cases iv'
    exact ⟨i, j, rfl, by omega, k _ Hd1 H1 s1 (itok_rng _ _ _ _)⟩⟩
theorem di_enum {elts : List Expr} {kk : Nat} {tpos : Pos} (hg : Gl X "enumerate") (hm : NoMg X "enumerate") (h : DE X Γ e (.list ds)) (hs : starEach [e] X.env = [(false, eval e X.env)] := by rfl) :
    DI X Γ (.Tuple elts kk tpos) (.Call (.Name "enumerate" p) [e] [] pos) (ds.mapIdx fun i d => .tuple [.int (i : Nat), d]) :=
  ⟨_, pi_enum hg hm pa_w hs, fun σ Hd H Q r k => da_cons (es := []) h da_nil hs σ Hd H _ r fun vs Hd1 H1 s1 i1 => by
    obtain ⟨v, rfl, iv⟩ := all1 i1
    cases iv with
    | lst t al =>
      refine ⟨_, _, rfl, Evl.ex_l s1.s t, k _ Hd1 H1 s1 <| itok fun i Hd2 H2 e1 e2 => ⟨fun d hd => ?_, fun hn => ?_⟩⟩
      · rw [List.getElem?_mapIdx] at hd
        obtain ⟨d', hd', rfl⟩ := Option.map_eq_some_iff.mp hd
        obtain ⟨w, h1, h2⟩ := al.get hd'
        refine ⟨⟨_, w, Evl.ex_l (e1.trans e2) t, h1⟩, fun y H3 hy => ?_⟩
        obtain ⟨T, x, rfl, hT, rfl, hx⟩ := hy
        have z := hx _ (Evl.ex_l (e1.trans e2) t)
        rw [h1] at z; cases z
        exact ⟨upd Hd2 T _, Stp.newD e2 hT, .tup (.inl (.inl upd_same)) (.cons (.int _) (.cons (h2.mono (e1.trans (Ex.new (ex_none e2 hT)))) .nil))⟩
      · refine ⟨_, Evl.ex_l (e1.trans e2) t, ?_⟩
        rw [al.len]
        simpa using hn⟩
/-- reversed of a list or a tuple -/
theorem di_rev (hg : Gl X "reversed") (hm : NoMg X "reversed") (h : DE X Γ e x) (q : x = .list ds ∨ x = .tuple ds) (hs : starEach [e] X.env = (false, eval e X.env) :: starEach [] X.env := by rfl) :
    DI X Γ tg (.Call (.Name "reversed" p) [e] [] pos) ds.reverse :=
  ⟨_, RT.pi_revA hg hm pe_w hs, fun σ Hd H Q r k => h σ Hd H _ r fun v Hd1 H1 s1 i1 => by
    have rv : ∀ {vs : List V} {i : Nat} {d : D}, IsAll X.K Hd1 vs ds → ds.reverse[i]? = some d → i < vs.length ∧ ∃ w, vs[vs.length - 1 - i]? = some w ∧ Is X.K Hd1 w d := fun {vs i d} al hd => by
      obtain ⟨w, h1, h2⟩ := al.reverse.get hd
      have hi : i < vs.length := by
        have := (List.getElem?_eq_some_iff.mp h1).1
        simpa using this
      rw [List.getElem?_reverse hi] at h1
      exact ⟨hi, w, h1, h2⟩
    rcases q with rfl | rfl
    · cases i1 with
      | lst t al =>
        refine ⟨_, _, rfl, .inl ⟨Evl.ex_l s1.s t, k _ Hd1 H1 s1 <| itok fun i Hd2 H2 e1 e2 => ⟨fun d hd => ?_, fun hn => ?_⟩⟩⟩
        · obtain ⟨hi, w, h1, h2⟩ := rv al hd
          refine ⟨⟨hi, _, w, Evl.ex_l (e1.trans e2) t, h1⟩, fun y H3 hy => ?_⟩
          obtain ⟨rfl, hx⟩ := hy
          have z := hx _ (Evl.ex_l (e1.trans e2) t)
          rw [h1] at z; cases z
          exact ⟨Hd2, Stp.refl e2, h2.mono e1⟩
        · show _ ≤ i
          rw [al.len]
          simpa using hn
    · cases i1 with
      | tup t al =>
        refine ⟨_, _, rfl, .inr ⟨Evl.ex_t s1.s t, k _ Hd1 H1 s1 <| itok fun i Hd2 H2 e1 e2 => ⟨fun d hd => ?_, fun hn => ?_⟩⟩⟩
        · obtain ⟨hi, w, h1, h2⟩ := rv al hd
          refine ⟨⟨hi, _, w, Evl.ex_t (e1.trans e2) t, h1⟩, fun y H3 hy => ?_⟩
          obtain ⟨rfl, hx⟩ := hy
          have z := hx _ (Evl.ex_t (e1.trans e2) t)
          rw [h1] at z; cases z
          exact ⟨Hd2, Stp.refl e2, h2.mono e1⟩
        · show _ ≤ i
          rw [al.len]
          simpa using hn⟩
end
theorem wipe_get {σ : St} {i : Nat} : ∀ {vs : List Nat}, (wipe σ vs)[i]? = if i ∈ vs then (σ[i]?).map (fun _ => none) else σ[i]?
  | [] => by simp [wipe]
  | v :: vs => by
    unfold wipe
    have ih := wipe_get (σ := σ) (i := i) (vs := vs)
    by_cases hi : v = i
    · subst hi
      have hm : v ∈ v :: vs := List.mem_cons_self
      rw [if_pos hm]
      by_cases hv : v < σ.length
      · rw [List.getElem?_set_self (by rw [wipe_length]; exact hv), List.getElem?_eq_getElem hv]; rfl
      · rw [List.getElem?_eq_none (by rw [List.length_set, wipe_length]; omega), List.getElem?_eq_none (by omega)]; rfl
    · rw [List.getElem?_set_ne hi, ih]
      have : (i ∈ v :: vs) ↔ i ∈ vs := by simp [Ne.symm hi]
      simp only [this]
theorem wipe_set {σ : St} {j : Nat} {x : Option V} {vs : List Nat} (h : j ∈ vs) : wipe (σ.set j x) vs = wipe σ vs := by
  refine List.ext_getElem? fun i => ?_
  rw [wipe_get, wipe_get]
  by_cases hi : i ∈ vs
  · rw [if_pos hi, if_pos hi]
    by_cases e : j = i
    · subst e
      by_cases hv : j < σ.length
      · rw [List.getElem?_set_self hv, List.getElem?_eq_getElem hv]; rfl
      · rw [List.getElem?_eq_none (by simpa using hv), List.getElem?_eq_none (by omega)]
    · rw [List.getElem?_set_ne e]
  · rw [if_neg hi, if_neg hi, List.getElem?_set_ne (show j ≠ i from fun e => hi (by rw [← e]; exact h))]
theorem wipe_wipe {σ : St} {vs : List Nat} : wipe (wipe σ vs) vs = wipe σ vs := by
  refine List.ext_getElem? fun i => ?_
  rw [wipe_get]
  by_cases hi : i ∈ vs
  · rw [if_pos hi, wipe_get, if_pos hi]
    cases σ[i]? <;> rfl
  · rw [if_neg hi]
theorem wipe_setV {vs : List Nat} : ∀ {sts : List (Nat × D)} {ws : List V} {σ : St}, (∀ p ∈ sts, p.1 ∈ vs) → wipe (setV σ sts ws) vs = wipe σ vs
  | [], _, σ, _ => by unfold setV; rfl
  | _ :: _, [], σ, _ => by unfold setV; rfl
  | (j, d) :: r, w :: ws, σ, h => by
    show wipe (setV (σ.set j (some w)) r ws) vs = wipe σ vs
    rw [wipe_setV fun p hp => h p (List.mem_cons_of_mem _ hp), wipe_set (h (j, d) List.mem_cons_self)]
def wipeC (Γ : List Cell) : List Nat → List Cell
  | [] => Γ
  | v :: vs => (wipeC Γ vs).set v .no
theorem Rl.wipe {K : PySem.W.Frag} {Γ : List Cell} {σ : St} {Hd H : Hp} (r : Rl K Γ σ Hd H) : ∀ vs : List Nat, Rl K (wipeC Γ vs) (L2.wipe σ vs) Hd H
  | [] => r
  | _ :: vs => (Rl.wipe r vs).setNo
section
variable {X : Cx} {Γ : List Cell} {elt tg iter c : Expr} {ifs : List Expr} {scope : Scope} {own : List (Str × Nat)} {pos : Pos} {items rs : List D}
def blkG (X : Cx) (scope : Scope) (tg : Expr) : TG := fun v σ H Q => ∀ (s : Shared) (H' : Hp) (C : Addr) (cl : List (Str × Addr)) (fp : List Addr), wG (X.blk s H' scope (compEnvC scope cl C X.env) fp) tg v σ H Q
def blkT (X : Cx) (scope : Scope) (c : Expr) : TT := fun σ H Q => ∀ (s : Shared) (H' : Hp) (C : Addr) (cl : List (Str × Addr)) (fp : List Addr), wT (X.blk s H' scope (compEnvC scope cl C X.env) fp) c σ H Q
def blkE (X : Cx) (scope : Scope) (e : Expr) : TE := fun σ H Q => ∀ (s : Shared) (H' : Hp) (C : Addr) (cl : List (Str × Addr)) (fp : List Addr), wE (X.blk s H' scope (compEnvC scope cl C X.env) fp) e σ H Q
theorem pg_blk (s : Shared) (H : Hp) (C : Addr) (cl : List (Str × Addr)) (fp : List Addr) : PG (X.blk s H scope (compEnvC scope cl C X.env) fp) tg (blkG X scope tg) := ⟨fun pins s' σ H' v u Q I rr h => h s H C cl fp pins s' u I rr⟩
theorem pts_blk (s : Shared) (H : Hp) (C : Addr) (cl : List (Str × Addr)) (fp : List Addr) : PTs (X.blk s H scope (compEnvC scope cl C X.env) fp) [c] (blkT X scope c) := pts_one ⟨fun pins s' σ H' Q I h => h s H C cl fp pins s' I⟩
theorem pe_blk (s : Shared) (H : Hp) (C : Addr) (cl : List (Str × Addr)) (fp : List Addr) : PE (X.blk s H scope (compEnvC scope cl C X.env) fp) elt (blkE X scope elt) := ⟨fun pins s' σ H' Q I h => h s H C cl fp pins s' I⟩
/-- a reading that gives a new list -/
def RN (X : Cx) (Γ : List Cell) (te : TE) (ds : List D) : Prop := ∀ σ Hd H (Q : VK), Rl X.K Γ σ Hd H → (∀ l vs Hd' H', Stp Hd H Hd' H' → H l = none → Hd' l = none → H' l = some (.lst vs) → IsAll X.K Hd' vs ds → Q (.ref l) H') → te σ H Q
/-- [elt for tg in iter if ..]: outs tells of each item what is made of it, or that it is left out -/
theorem rn_lcIf {outs : List (Option D)} {tt : Nat → Bool} {wi : TI} (hwi : ∀ σ Hd H (Q : It → Hp → Prop), Rl X.K Γ σ Hd H → (∀ J Hd' H', Stp Hd H Hd' H' → ItOk X.K J items Hd' → Q J H') → wi σ H Q) (stf : Nat → D → List (Nat × D)) (hl : outs.length = items.length) (hsz : items.length ≤ 100000)
    (hin : ∀ i d, items[i]? = some d → ∀ p ∈ stf i d, p.1 ∈ own.map (·.2))
    (hg : ∀ i d, items[i]? = some d → ∀ (s : Shared) (H : Hp) (C : Addr) (cl : List (Str × Addr)) (fp : List Addr), DG (X.blk s H scope (compEnvC scope cl C X.env) fp) tg d (stf i d))
    (ht : ∀ i d o, items[i]? = some d → outs[i]? = some o → ∀ (s : Shared) (H : Hp) (C : Addr) (cl : List (Str × Addr)) (fp : List Addr), DT (X.blk s H scope (compEnvC scope cl C X.env) fp) (setC (wipeC Γ (own.map (·.2))) (stf i d)) c o.isSome)
    (he : ∀ i d y, items[i]? = some d → outs[i]? = some (some y) → ∀ (s : Shared) (H : Hp) (C : Addr) (cl : List (Str × Addr)) (fp : List Addr), DE (X.blk s H scope (compEnvC scope cl C X.env) fp) (setC (wipeC Γ (own.map (·.2))) (stf i d)) elt y)
    :
    RN X Γ (tLc wi (blkG X scope tg) (blkT X scope c) (blkE X scope elt) (own.map (·.2))) (outs.filterMap id) := by
  intro σ Hd H Q r k
  refine hwi σ Hd H _ r fun J Hd1 H1 s1 it => fun D hD => ?_
  have hd1 : Hd1 D = none := ex_none s1.s hD
  let Inv0 : Nat → Hp → Prop := fun i H2 => ∃ Hd2 acc, Stp Hd1 H1 Hd2 H2 ∧ Hd2 D = none ∧ H2 D = some (.lst acc) ∧ IsAll X.K Hd2 acc ((outs.take i).filterMap id)
  refine ⟨fun i m H2 => i + m = items.length ∧ Inv0 i H2, ⟨items.length, by omega, Hd1, [], Stp.new s1.s hD, hd1, upd_same, .nil⟩, ?_⟩
  rintro i m H2 ⟨em, Hd2, acc, s2, hd2, hacc, al⟩
  obtain ⟨g1, g2⟩ := it i Hd2 H2 s2.d s2.s
  by_cases hi : i < items.length
  · have e1 := List.getElem?_eq_getElem hi
    obtain ⟨go, yl⟩ := g1 _ e1
    refine .inr ⟨go, fun H' => Inv0 (i + 1) H', fun H' q => ⟨m - 1, by omega, by omega, q⟩, fun x H3 hy => ?_⟩
    obtain ⟨Hd3, s3, ix⟩ := yl x H3 hy
    have s13 := s2.trans s3
    have hd3 : Hd3 D = none := s3.non hd2 hacc
    have rl : Rl X.K (wipeC Γ (own.map (·.2))) (L2.wipe σ (own.map (·.2))) Hd3 H3 := ((r.stp s1).stp s13).wipe _
    intro s H' C cl fp
    refine hg i _ e1 s H' C cl fp _ Hd3 H3 x _ ix s3.s fun ws hw => ?_
    have rl2 := rl.setV hw
    refine ⟨by rw [wipe_setV (hin i _ e1), wipe_wipe], fun s' H'' C' cl' fp' => ?_⟩
    have eo := List.getElem?_eq_getElem (show i < outs.length by omega)
    refine ht i _ _ e1 eo s' H'' C' cl' fp' _ Hd3 H3 _ rl2 fun Hd4 H4 s4 => ?_
    have a4 : H4 D = some (.lst acc) := s4.h _ _ (s3.h _ _ hacc)
    have hd4 : Hd4 D = none := s4.non hd3 (s3.h _ _ hacc)
    have tk : (outs.take (i + 1)).filterMap id = (outs.take i).filterMap id ++ (match outs[i] with | some y => [y] | none => []) := by
      rw [List.take_add_one, eo, List.filterMap_append]
      cases outs[i] <;> rfl
    cases q : outs[i] with
    | none =>
      show Inv0 (i + 1) H4
      refine ⟨Hd4, acc, s13.trans s4, hd4, a4, ?_⟩
      rw [tk, q, List.append_nil]
      exact al.mono (s3.d.trans s4.d)
    | some y =>
      intro s5 H5 C5 cl5 fp5
      refine he i _ y e1 (by rw [eo, q]) s5 H5 C5 cl5 fp5 _ Hd4 H4 _ (rl2.stp s4) fun v Hd5 H6 s6 iv => ?_
      have a6 : H6 D = some (.lst acc) := s6.h _ _ a4
      have hd5 : Hd5 D = none := s6.non hd4 a4
      refine ⟨acc, a6, ?_, Hd5, acc ++ [v], ((s13.trans s4).trans s6).mut hD hd5, hd5, upd_same, ?_⟩
      · have h1 := al.len
        have h2 := List.length_filterMap_le id (outs.take i)
        have h3 : (outs.take i).length ≤ i := by rw [List.length_take]; omega
        exact Nat.lt_of_le_of_lt (show acc.length ≤ 100000 by omega) (by decide)
      · rw [tk, q]
        exact (al.mono ((s3.d.trans s4.d).trans s6.d)).app (.one iv)
  · refine .inl ⟨g2 (by omega), ?_⟩
    have hm : (outs.take i).filterMap id = outs.filterMap id := by rw [List.take_of_length_le (by omega)]
    rw [hm] at al
    exact k D acc Hd2 H2 (s1.trans s2) (ex_none s1.h hD) hd2 hacc al
/-- [elt for tg in iter] -/
theorem rn_lc {wi : TI} (hwi : ∀ σ Hd H (Q : It → Hp → Prop), Rl X.K Γ σ Hd H → (∀ J Hd' H', Stp Hd H Hd' H' → ItOk X.K J items Hd' → Q J H') → wi σ H Q) (stf : Nat → D → List (Nat × D)) (hl : rs.length = items.length) (hsz : items.length ≤ 100000)
    (hin : ∀ i d, items[i]? = some d → ∀ p ∈ stf i d, p.1 ∈ own.map (·.2))
    (hg : ∀ i d, items[i]? = some d → ∀ (s : Shared) (H : Hp) (C : Addr) (cl : List (Str × Addr)) (fp : List Addr), DG (X.blk s H scope (compEnvC scope cl C X.env) fp) tg d (stf i d))
    (he : ∀ i d y, items[i]? = some d → rs[i]? = some y → ∀ (s : Shared) (H : Hp) (C : Addr) (cl : List (Str × Addr)) (fp : List Addr), DE (X.blk s H scope (compEnvC scope cl C X.env) fp) (setC (wipeC Γ (own.map (·.2))) (stf i d)) elt y)
    :
    RN X Γ (tLc wi (blkG X scope tg) (tYes) (blkE X scope elt) (own.map (·.2))) rs := by
  intro σ Hd H Q r k
  refine hwi σ Hd H _ r fun J Hd1 H1 s1 it => fun D hD => ?_
  have hd1 : Hd1 D = none := ex_none s1.s hD
  let Inv0 : Nat → Hp → Prop := fun i H2 => ∃ Hd2 acc, Stp Hd1 H1 Hd2 H2 ∧ Hd2 D = none ∧ H2 D = some (.lst acc) ∧ IsAll X.K Hd2 acc (rs.take i)
  refine ⟨fun i m H2 => i + m = items.length ∧ Inv0 i H2, ⟨items.length, by omega, Hd1, [], Stp.new s1.s hD, hd1, upd_same, .nil⟩, ?_⟩
  rintro i m H2 ⟨em, Hd2, acc, s2, hd2, hacc, al⟩
  obtain ⟨g1, g2⟩ := it i Hd2 H2 s2.d s2.s
  by_cases hi : i < items.length
  · have e1 := List.getElem?_eq_getElem hi
    obtain ⟨go, yl⟩ := g1 _ e1
    refine .inr ⟨go, fun H' => Inv0 (i + 1) H', fun H' q => ⟨m - 1, by omega, by omega, q⟩, fun x H3 hy => ?_⟩
    obtain ⟨Hd3, s3, ix⟩ := yl x H3 hy
    have s13 := s2.trans s3
    have hd3 : Hd3 D = none := s3.non hd2 hacc
    have rl : Rl X.K (wipeC Γ (own.map (·.2))) (L2.wipe σ (own.map (·.2))) Hd3 H3 := ((r.stp s1).stp s13).wipe _
    intro s H' C cl fp
    refine hg i _ e1 s H' C cl fp _ Hd3 H3 x _ ix s3.s fun ws hw => ?_
    have rl2 := rl.setV hw
    refine ⟨by rw [wipe_setV (hin i _ e1), wipe_wipe], ?_⟩
    simp only [tYes, ↓reduceIte]
    intro s5 H5 C5 cl5 fp5
    have eo := List.getElem?_eq_getElem (show i < rs.length by omega)
    refine he i _ _ e1 eo s5 H5 C5 cl5 fp5 _ Hd3 H3 _ rl2 fun v Hd5 H6 s6 iv => ?_
    have a6 : H6 D = some (.lst acc) := s6.h _ _ (s3.h _ _ hacc)
    have hd5 : Hd5 D = none := s6.non hd3 (s3.h _ _ hacc)
    refine ⟨acc, a6, ?_, Hd5, acc ++ [v], (s13.trans s6).mut hD hd5, hd5, upd_same, ?_⟩
    · have h1 := al.len
      have h3 : (rs.take i).length ≤ i := by rw [List.length_take]; omega
      exact Nat.lt_of_le_of_lt (show acc.length ≤ 100000 by omega) (by decide)
    · rw [List.take_add_one, eo]
      exact (al.mono (s3.d.trans s6.d)).app (.one iv)
  · refine .inl ⟨g2 (by omega), ?_⟩
    rw [List.take_of_length_le (by omega)] at al
    exact k D acc Hd2 H2 (s1.trans s2) (ex_none s1.h hD) hd2 hacc al
theorem dn_lcIf {outs : List (Option D)} {tt : Nat → Bool} (hc : X.calm = true) (hN : X.N.Nodup) (hi : DI X Γ tg iter items) (ok : BlkOk X.N X.env.scope scope own) (stf : Nat → D → List (Nat × D)) (hl : outs.length = items.length) (hsz : items.length ≤ 100000)
    (hin : ∀ i d, items[i]? = some d → ∀ p ∈ stf i d, p.1 ∈ own.map (·.2))
    (hg : ∀ i d, items[i]? = some d → ∀ (s : Shared) (H : Hp) (C : Addr) (cl : List (Str × Addr)) (fp : List Addr), DG (X.blk s H scope (compEnvC scope cl C X.env) fp) tg d (stf i d))
    (ht : ∀ i d o, items[i]? = some d → outs[i]? = some o → ∀ (s : Shared) (H : Hp) (C : Addr) (cl : List (Str × Addr)) (fp : List Addr), DT (X.blk s H scope (compEnvC scope cl C X.env) fp) (setC (wipeC Γ (own.map (·.2))) (stf i d)) c o.isSome)
    (he : ∀ i d y, items[i]? = some d → outs[i]? = some (some y) → ∀ (s : Shared) (H : Hp) (C : Addr) (cl : List (Str × Addr)) (fp : List Addr), DE (X.blk s H scope (compEnvC scope cl C X.env) fp) (setC (wipeC Γ (own.map (·.2))) (stf i d)) elt y)
    (hs : ∀ x, foldedSetIterable iter X.env x = pure x := by intro _; rfl) : DN X Γ (.ListComp elt [⟨tg, iter, [c], 0⟩] scope pos) (outs.filterMap id) := by
  obtain ⟨wi, hpi, hwi⟩ := hi
  exact fun σ Hd H Q r k => wE_of (pe_lc hc hN hpi ok pg_blk pts_blk pe_blk hs) (rn_lcIf (tt := tt) hwi stf hl hsz hin hg ht he σ Hd H Q r k)
theorem dn_lc (hc : X.calm = true) (hN : X.N.Nodup) (hi : DI X Γ tg iter items) (ok : BlkOk X.N X.env.scope scope own) (stf : Nat → D → List (Nat × D)) (hl : rs.length = items.length) (hsz : items.length ≤ 100000)
    (hin : ∀ i d, items[i]? = some d → ∀ p ∈ stf i d, p.1 ∈ own.map (·.2))
    (hg : ∀ i d, items[i]? = some d → ∀ (s : Shared) (H : Hp) (C : Addr) (cl : List (Str × Addr)) (fp : List Addr), DG (X.blk s H scope (compEnvC scope cl C X.env) fp) tg d (stf i d))
    (he : ∀ i d y, items[i]? = some d → rs[i]? = some y → ∀ (s : Shared) (H : Hp) (C : Addr) (cl : List (Str × Addr)) (fp : List Addr), DE (X.blk s H scope (compEnvC scope cl C X.env) fp) (setC (wipeC Γ (own.map (·.2))) (stf i d)) elt y)
    (hs : ∀ x, foldedSetIterable iter X.env x = pure x := by intro _; rfl) : DN X Γ (.ListComp elt [⟨tg, iter, [], 0⟩] scope pos) rs := by
  obtain ⟨wi, hpi, hwi⟩ := hi
  exact fun σ Hd H Q r k => wE_of (pe_lc hc hN hpi ok pg_blk (fun _ _ _ _ _ => pts_nil) pe_blk hs) (rn_lc hwi stf hl hsz hin hg he σ Hd H Q r k)
end
end Hf

namespace Hf
open PySem PySem.Spec PyProof.Rows L2
open Evl (Ex)
inductive Out
  | val (d : D)
  | newL (ds : List D)
  | newM (es : List (D × D))
inductive Res
  | ok (o : Out)
  /-- an error of the class at C, with its fields -/
  | exc (C : Addr) (fs : List (Str × D))
def OutIs (K : PySem.W.Frag) (Hs H0 : Hp) : Out → V → Hp → Prop
  | .val d, v, H => ∃ Hd, Stp Hs H0 Hd H ∧ Is K Hd v d
  | .newL ds, v, H => ∃ Hd l vs, v = .ref l ∧ Stp Hs H0 Hd H ∧ H0 l = none ∧ Hd l = none ∧ H l = some (.lst vs) ∧ IsAll K Hd vs ds
  | .newM es, v, H => ∃ Hd l kvs, v = .ref l ∧ Stp Hs H0 Hd H ∧ H0 l = none ∧ Hd l = none ∧ H l = some (.dK kvs) ∧ IsKv K Hd kvs es
/-- the fields of an error's own dict -/
inductive Flds (K : PySem.W.Frag) (H : Hp) : List (Str × V) → List (Str × D) → Prop
  | nil : Flds K H [] []
  | cons {f : Str} {v : V} {d : D} {a : List (Str × V)} {b : List (Str × D)} : Is K H v d → Flds K H a b → Flds K H ((f, v) :: a) ((f, d) :: b)
def ExcIs (K : PySem.W.Frag) (Hs H0 : Hp) (fs : List (Str × D)) (d : Option Addr) (H : Hp) : Prop :=
  (fs = [] ∧ d = none ∧ ∃ Hd, Stp Hs H0 Hd H) ∨ fs ≠ [] ∧ ∃ dd vs Hd, d = some dd ∧ Stp Hs H0 Hd H ∧ H0 dd = none ∧ Hd dd = none ∧ H dd = some (.xd vs) ∧ Flds K Hd vs fs
def ResW (K : PySem.W.Frag) (Hs H0 : Hp) (Q : VK) (E : XK) : Res → Prop
  | .ok o => ∀ v H, OutIs K Hs H0 o v H → Q v H
  | .exc C fs => ∀ d H, ExcIs K Hs H0 fs d H → E (.ref C) d H
/-- a promise: on data ds the result r, where S tells so -/
def spF (K : PySem.W.Frag) (S : List D → Res → Prop) : Sp := fun vs H Q E => ∃ Hs ds r, Ex Hs H ∧ IsAll K Hs vs ds ∧ S ds r ∧ ResW K Hs H Q E r
structure AD where
  nx : List Cell → Prop
  rt : Out → Prop
  bk : List Cell → Prop := fun _ => False
  ct : List Cell → Prop := fun _ => False
  ex : Addr → List (Str × D) → List Cell → Prop := fun _ _ _ => False
def AD.ends (K : PySem.W.Frag) (Hs H0 Hb : Hp) (A : AD) : Ends where
  nx := fun σ H => ∃ Γ Hd, R K Hs H0 Hb Γ σ Hd H ∧ A.nx Γ
  rt := fun v H => ∃ o, A.rt o ∧ OutIs K Hs H0 o v H
  bk := fun σ H => ∃ Γ Hd, R K Hs H0 Hb Γ σ Hd H ∧ A.bk Γ
  ct := fun σ H => ∃ Γ Hd, R K Hs H0 Hb Γ σ Hd H ∧ A.ct Γ
/-- the own dict of an error -/
def FldD (K : PySem.W.Frag) (H0 Hd H : Hp) (fs : List (Str × D)) (d : Option Addr) : Prop :=
  (fs = [] ∧ d = none) ∨ fs ≠ [] ∧ ∃ dd vs, d = some dd ∧ H0 dd = none ∧ Hd dd = none ∧ H dd = some (.xd vs) ∧ Flds K Hd vs fs
def AD.W (K : PySem.W.Frag) (Hs H0 Hb : Hp) (ex : Addr → List (Str × D) → List Cell → Prop) : WX := fun cls d σ H => ∃ C fs Γ Hd, cls = .ref C ∧ ex C fs Γ ∧ R K Hs H0 Hb Γ σ Hd H ∧ FldD K H0 Hd H fs d
theorem FldD.is {K : PySem.W.Frag} {Hs H0 Hd H : Hp} {fs : List (Str × D)} {d : Option Addr} (s : Stp Hs H0 Hd H) (h : FldD K H0 Hd H fs d) : ExcIs K Hs H0 fs d H := by
  rcases h with ⟨h1, h2⟩ | ⟨h0, dd, vs, h1, h2, h3, h4, h5⟩
  · exact .inl ⟨h1, h2, Hd, s⟩
  · exact .inr ⟨h0, dd, vs, Hd, h1, s, h2, h3, h4, h5⟩
def DS (X : Cx) (Γ : List Cell) (sts : List Stmt) (A : AD) : Prop := ∀ Hs H0 Hb, L2N.Takes X (AD.W X.K Hs H0 Hb A.ex) → ∀ σ Hd H, R X.K Hs H0 Hb Γ σ Hd H → wSs X sts (A.ends X.K Hs H0 Hb) σ H
section
variable {X : Cx} {Γ : List Cell} {A : AD} {st : Stmt} {rest body els : List Stmt} {e a b c tg it : Expr} {d : D} {ds : List D} {i j n : Nat} {x : Str} {pos p : Pos}
theorem exec_one {M : Model} {Ar : Around} {E : Value → Shared → Prop} {env : Env} {s : Shared} {Q : Flow → Shared → Prop} (h : wpAny M Ar (execs [st] env) Q E s) : wpAny M Ar (exec st env) Q E s := by
  have e : execs [st] env = exec st env := by
    have e1 : execs [st] env = exec st env >>= fun f : Flow => match f with | .next => execs [] env | f => pure f := by
      unfold execs
      rfl
    rw [e1]
    have e2 : (fun f : Flow => match f with | .next => execs [] env | f => (pure f : Sem Flow)) = pure := by
      funext f
      cases f <;> first | rfl | (unfold execs; rfl)
    rw [e2, bind_pure]
  rw [e] at h
  exact h
theorem wSs_cons {D : Ends} {σ : St} {H : Hp} (h : wS X st { D with nx := fun σ' H' => wSs X rest D σ' H' } σ H) : wSs X (st :: rest) D σ H := wSs_of (pss_cons ps_w pss_w) h
theorem ds_nil (h : A.nx Γ) : DS X Γ [] A := fun Hs H0 Hb tk σ Hd H r => wSs_of pss_nil ⟨Γ, Hd, r, h⟩
theorem ds_pass (h : DS X Γ rest A) : DS X Γ (.Pass pos :: rest) A := fun Hs H0 Hb tk σ Hd H r => wSs_cons (wS_of ps_pass (h Hs H0 Hb tk σ Hd H r))
theorem ds_doc {z : Str} {k : Nat} {p2 : Pos} (h : DS X Γ rest A) : DS X Γ (.Expr (.Constant (.str z) k p2) pos :: rest) A := fun Hs H0 Hb tk σ Hd H r => wSs_cons (wS_of ps_doc (h Hs H0 Hb tk σ Hd H r))
theorem ds_break (h : A.bk Γ) : DS X Γ (.Break pos :: rest) A := fun Hs H0 Hb tk σ Hd H r => wSs_cons (wS_of ps_break ⟨Γ, Hd, r, h⟩)
theorem ds_cont (h : A.ct Γ) : DS X Γ (.Continue pos :: rest) A := fun Hs H0 Hb tk σ Hd H r => wSs_cons (wS_of ps_continue ⟨Γ, Hd, r, h⟩)
/-- the way is not taken -/
theorem ds_absurd {sts : List Stmt} (h : False) : DS X Γ sts A := h.elim
/-- name = e -/
theorem ds_set (he : DE X Γ e d) (hp : PS X (.Assign [.Name x p] e pos) (tAsg (wE X e) (gName i))) (h : DS X (Γ.set i (.d d)) rest A) : DS X Γ (.Assign [.Name x p] e pos :: rest) A := fun Hs H0 Hb tk σ Hd H r =>
  wSs_cons (wS_of hp (he σ Hd H _ r.l fun v Hd1 H1 s1 i1 => h Hs H0 Hb tk _ Hd1 H1 ((r.stp s1).setD i1)))
theorem notown_new {K : PySem.W.Frag} {Hs H0 Hb Hd H : Hp} {σ : St} {l : Addr} (r : R K Hs H0 Hb Γ σ Hd H) (hl : H l = none) : ∀ (j : Nat) cj ov, Γ[j]? = some cj → σ[j]? = some ov → ¬ ownAt cj ov l := fun j cj ov h1 h2 o => by
  obtain ⟨_, u, q⟩ := own_ok (r.l.cell j cj ov h1 h2) o
  rw [hl] at q; cases q
theorem ds_setN (he : DN X Γ e ds) (hp : PS X (.Assign [.Name x p] e pos) (tAsg (wE X e) (gName i))) (h : DS X (Γ.set i (.ml ds)) rest A) : DS X Γ (.Assign [.Name x p] e pos :: rest) A := fun Hs H0 Hb tk σ Hd H r =>
  wSs_cons (wS_of hp (he σ Hd H _ r.l fun l vs Hd1 H1 s1 hl hd h1 i1 => h Hs H0 Hb tk _ Hd1 H1 ((r.stp s1).setOwn (c := .ml ds) ⟨l, vs, rfl, hd, h1, i1⟩ (ex_none r.e.h hl) fun j cj ov _ a b => notown_new r hl j cj ov a b)))
theorem ds_setM {es : List (D × D)} (he : DM X Γ e es) (hp : PS X (.Assign [.Name x p] e pos) (tAsg (wE X e) (gName i))) (h : DS X (Γ.set i (.md es)) rest A) : DS X Γ (.Assign [.Name x p] e pos :: rest) A := fun Hs H0 Hb tk σ Hd H r =>
  wSs_cons (wS_of hp (he σ Hd H _ r.l fun l vs Hd1 H1 s1 hl hd h1 i1 => h Hs H0 Hb tk _ Hd1 H1 ((r.stp s1).setOwn (c := .md es) ⟨l, vs, rfl, hd, h1, i1⟩ (ex_none r.e.h hl) fun j cj ov _ a b => notown_new r hl j cj ov a b)))
/-- target = e, the target a tuple of names -/
theorem ds_asg {sts : List (Nat × D)} (he : DE X Γ e d) (hg : DG X tg d sts) (hs : swapsWithSole [tg] e pos.line X.env = pure false := by rfl) (hw : swappedStores [tg] e X.env = pure none := by rfl)
    (h1 : (assignEach [tg] X.env).map (·.2) = [assign tg X.env] := by rfl) (h : DS X (setC Γ sts) rest A) : DS X Γ (.Assign [tg] e pos :: rest) A := fun Hs H0 Hb tk σ Hd H r =>
  wSs_cons (wS_of (ps_asg pe_w pg_w hs hw h1) (he σ Hd H _ r.l fun v Hd1 H1 s1 i1 => hg σ Hd1 H1 v _ i1 s1.s fun ws hw => h Hs H0 Hb tk _ Hd1 H1 ((r.stp s1).setV hw)))
/-- a, b = e1, e2 -/
theorem ds_par {y : Str} {px py pt : Pos} {kt k2 : Nat} {pt2 : Pos} {d1 d2 : D} (ha : DA X Γ [a, b] [d1, d2]) (hp : PS X (.Assign [.Tuple [.Name x px, .Name y py] kt pt] (.Tuple [a, b] k2 pt2) pos) (tPar i j (wA X [a, b])))
    (h : DS X ((Γ.set i (.d d1)).set j (.d d2)) rest A) : DS X Γ (.Assign [.Tuple [.Name x px, .Name y py] kt pt] (.Tuple [a, b] k2 pt2) pos :: rest) A := fun Hs H0 Hb tk σ Hd H r =>
  wSs_cons (wS_of hp (ha σ Hd H _ r.l fun vs Hd1 H1 s1 i1 => by
    obtain ⟨v, w, rfl, iv, iw⟩ := all2 i1
    exact ⟨v, w, rfl, h Hs H0 Hb tk _ Hd1 H1 (((r.stp s1).setD iv).setD iw)⟩))
theorem ds_expr (he : DE X Γ e d) (hs : swapsWith e none pos.line X.env = pure false := by rfl) (h : DS X Γ rest A) : DS X Γ (.Expr e pos :: rest) A := fun Hs H0 Hb tk σ Hd H r =>
  wSs_cons (wS_of (ps_expr pe_w hs) (he σ Hd H _ r.l fun v Hd1 H1 s1 i1 => h Hs H0 Hb tk _ Hd1 H1 (r.stp s1)))
theorem ds_ret (he : DE X Γ e d) (h : A.rt (.val d)) : DS X Γ (.Return (some e) pos :: rest) A := fun Hs H0 Hb tk σ Hd H r =>
  wSs_cons (wS_of (ps_ret pe_w) (he σ Hd H _ r.l fun v Hd1 H1 s1 i1 => ⟨_, h, Hd1, r.e.trans s1, i1⟩))
theorem ds_retN (he : DN X Γ e ds) (h : A.rt (.newL ds)) : DS X Γ (.Return (some e) pos :: rest) A := fun Hs H0 Hb tk σ Hd H r =>
  wSs_cons (wS_of (ps_ret pe_w) (he σ Hd H _ r.l fun l vs Hd1 H1 s1 hl hd h1 i1 => ⟨_, h, Hd1, l, vs, rfl, r.e.trans s1, ex_none r.e.h hl, hd, h1, i1⟩))
/-- return of a list of one's own -/
theorem ds_retL (hi : Γ[i]? = some (.ml ds)) (hp : PE X (.Name x p) (tVar i)) (h : A.rt (.newL ds)) : DS X Γ (.Return (some (.Name x p)) pos :: rest) A := fun Hs H0 Hb tk σ Hd H r => by
  have hl : i < σ.length := by rw [r.l.len]; exact (List.getElem?_eq_some_iff.mp hi).1
  have es := List.getElem?_eq_getElem hl
  obtain ⟨l, vs, e, hd, h1, i1⟩ := r.l.cell i _ _ hi es
  exact wSs_cons (wS_of (ps_ret hp) ⟨.ref l, by rw [es, e], _, h, Hd, l, vs, rfl, r.e, r.o i _ _ l hi es e, hd, h1, i1⟩)
theorem ds_retK {es : List (D × D)} (hi : Γ[i]? = some (.md es)) (hp : PE X (.Name x p) (tVar i)) (h : A.rt (.newM es)) : DS X Γ (.Return (some (.Name x p)) pos :: rest) A := fun Hs H0 Hb tk σ Hd H r => by
  have hl : i < σ.length := by rw [r.l.len]; exact (List.getElem?_eq_some_iff.mp hi).1
  have es := List.getElem?_eq_getElem hl
  obtain ⟨l, vs, e, hd, h1, i1⟩ := r.l.cell i _ _ hi es
  exact wSs_cons (wS_of (ps_ret hp) ⟨.ref l, by rw [es, e], _, h, Hd, l, vs, rfl, r.e, r.o i _ _ l hi es e, hd, h1, i1⟩)
theorem ds_retNone (h : A.rt (.val .none)) : DS X Γ (.Return none pos :: rest) A := fun Hs H0 Hb tk σ Hd H r => wSs_cons (wS_of ps_retN ⟨_, h, Hd, r.e, .non⟩)
theorem ds_if {m : Bool} (hc : DT X Γ c m) (h1 : m = true → DS X Γ body { A with nx := fun Γ' => DS X Γ' rest A }) (h2 : m = false → DS X Γ els { A with nx := fun Γ' => DS X Γ' rest A }) : DS X Γ (.If c body els pos :: rest) A := fun Hs H0 Hb tk σ Hd H r =>
  wSs_cons (wS_of (ps_if pt_w pss_w pss_w) (hc σ Hd H _ r.l fun Hd1 H1 s1 => by
    have key : ∀ sts, DS X Γ sts { A with nx := fun Γ' => DS X Γ' rest A } → wSs X sts { A.ends X.K Hs H0 Hb with nx := fun σ' H' => wSs X rest (A.ends X.K Hs H0 Hb) σ' H' } σ H1 := fun sts h pins s I =>
      thn (h Hs H0 Hb tk σ Hd1 H1 (r.stp s1) pins s I) fun f s' q => by
        cases f with
        | next =>
          obtain ⟨σ', H', I', Γ', Hd', r', q'⟩ := q
          exact ⟨σ', H', I', q' Hs H0 Hb tk σ' Hd' H' r'⟩
        | ret v => exact q
        | brk => exact q
        | cont => exact q
    cases m with
    | true => exact L2.iteT (key _ (h1 rfl))
    | false => exact L2.iteF (key _ (h2 rfl))))
/-- if t: (leaves, or goes on) -/
theorem ds_when {m : Bool} (hc : DT X Γ c m) (h1 : m = true → DS X Γ body { A with nx := fun Γ' => DS X Γ' rest A }) (h2 : m = false → DS X Γ rest A) : DS X Γ (.If c body [] pos :: rest) A := ds_if hc h1 fun q => ds_nil (h2 q)
theorem ds_imp {A' : AD} {sts : List Stmt} (h : DS X Γ sts A') (nx : ∀ Γ, A'.nx Γ → A.nx Γ) (rt : ∀ o, A'.rt o → A.rt o) (bk : ∀ Γ, A'.bk Γ → A.bk Γ) (ct : ∀ Γ, A'.ct Γ → A.ct Γ) (ex : ∀ C fs Γ, A'.ex C fs Γ → A.ex C fs Γ) : DS X Γ sts A := fun Hs H0 Hb tk σ Hd H r pins s I =>
  thn (h Hs H0 Hb (tk.imp fun c d σ H ⟨C, fs, G, Hd, e1, e2, e3⟩ => ⟨C, fs, G, Hd, e1, ex _ _ _ e2, e3⟩) σ Hd H r pins s I) fun f s' q => by
    cases f with
    | next =>
      obtain ⟨σ', H', I', Γ', Hd', r', q'⟩ := q
      exact ⟨σ', H', I', Γ', Hd', r', nx _ q'⟩
    | ret v =>
      obtain ⟨v', σ', H', I', rv, o, q1, q2⟩ := q
      exact ⟨v', σ', H', I', rv, o, rt _ q1, q2⟩
    | brk =>
      obtain ⟨σ', H', I', Γ', Hd', r', q'⟩ := q
      exact ⟨σ', H', I', Γ', Hd', r', bk _ q'⟩
    | cont =>
      obtain ⟨σ', H', I', Γ', Hd', r', q'⟩ := q
      exact ⟨σ', H', I', Γ', Hd', r', ct _ q'⟩
/-- a statement, with a word behind it -/
theorem ds_cut (M : List Cell → Prop) (h1 : DS X Γ [st] { A with nx := M }) (h2 : ∀ Γ', M Γ' → DS X Γ' rest A) : DS X Γ (st :: rest) A := fun Hs H0 Hb tk σ Hd H r pins s I => by
  have z := h1 Hs H0 Hb tk σ Hd H r
  have z2 : wS X st { A.ends X.K Hs H0 Hb with nx := fun σ H => ∃ Γ Hd, R X.K Hs H0 Hb Γ σ Hd H ∧ M Γ } σ H := fun pins s I => by
    have y := z pins s I
    exact exec_one y
  refine wSs_cons (D := A.ends X.K Hs H0 Hb) (fun pins s I => thn (z2 pins s I) fun f s' q => ?_) pins s I
  cases f with
  | next =>
    obtain ⟨σ', H', I', Γ', Hd', r', q'⟩ := q
    exact ⟨σ', H', I', h2 Γ' q' Hs H0 Hb tk σ' Hd' H' r'⟩
  | ret v => exact q
  | brk => exact q
  | cont => exact q
/-- a list of one's own becomes data -/
theorem ds_frz {sts : List Stmt} (i : Nat) (hi : Γ[i]? = some (.ml ds)) (h : DS X (Γ.set i (.d (.list ds))) sts A) : DS X Γ sts A := fun Hs H0 Hb tk σ Hd H r => by
  obtain ⟨Hd', r'⟩ := r.frz hi
  exact h Hs H0 Hb tk σ Hd' H r'
theorem ds_drop {sts : List Stmt} (i : Nat) (h : DS X (Γ.set i .no) sts A) : DS X Γ sts A := fun Hs H0 Hb tk σ Hd H r => h Hs H0 Hb tk σ Hd H r.drop
theorem ds_while (W : Nat → List Cell → Prop) (hp : PassesOwn (model X.prog X.w) X.A X.env X.xe) (m0 : Nat) (w0 : W m0 Γ)
    (h : ∀ m Γ', W m Γ' → ∃ t, DT X Γ' c t ∧ (t = true → DS X Γ' body { A with nx := fun Γ2 => ∃ m', m' < m ∧ W m' Γ2, ct := fun Γ2 => ∃ m', m' < m ∧ W m' Γ2, bk := fun Γ2 => DS X Γ2 rest A }) ∧ (t = false → DS X Γ' rest A)) :
    DS X Γ (.While c body [] pos :: rest) A := fun Hs H0 Hb tk σ Hd H r => by
  refine wSs_cons (wS_of (ps_while hp pt_w pss_w) ⟨fun m σ H => ∃ Γ' Hd, R X.K Hs H0 Hb Γ' σ Hd H ∧ W m Γ', ⟨m0, Γ, Hd, r, w0⟩, fun m σ1 H1 ⟨Γ1, Hd1, r1, w1⟩ => ?_⟩)
  obtain ⟨t, ht, hy, hn⟩ := h m Γ1 w1
  refine ht σ1 Hd1 H1 _ r1.l fun Hd2 H2 s2 => ?_
  cases t with
  | false => exact L2.iteF (hn rfl Hs H0 Hb tk σ1 Hd2 H2 (r1.stp s2))
  | true =>
    refine L2.iteT ⟨fun σ' H' => ∃ Γ' Hd', R X.K Hs H0 Hb Γ' σ' Hd' H' ∧ ∃ m', m' < m ∧ W m' Γ', fun σ' H' ⟨Γ', Hd', r', m', lt, w'⟩ => ⟨m', lt, Γ', Hd', r', w'⟩, fun pins s I => thn (hy rfl Hs H0 Hb tk σ1 Hd2 H2 (r1.stp s2) pins s I) fun f s' q => ?_⟩
    cases f with
    | next => exact q
    | ret v => exact q
    | cont => exact q
    | brk =>
      obtain ⟨σ', H', I', Γ', Hd', r', q'⟩ := q
      exact ⟨σ', H', I', q' Hs H0 Hb tk σ' Hd' H' r'⟩
theorem ds_for {items : List D} (Pv : Nat → List Cell → Prop) (stf : Nat → D → List (Nat × D)) (hp : PassesOwn (model X.prog X.w) X.A X.env X.xe) (hc : X.calm = true) (hi : DI X Γ tg it items)
    (hg : ∀ i d, items[i]? = some d → DG X tg d (stf i d)) (h0 : Pv 0 Γ)
    (hb : ∀ i d Γ', items[i]? = some d → Pv i Γ' → DS X (setC Γ' (stf i d)) body { A with nx := Pv (i + 1), ct := Pv (i + 1), bk := fun Γ2 => DS X Γ2 rest A })
    (hd : ∀ Γ', Pv items.length Γ' → DS X Γ' rest A) (hs : ∀ x, foldedSetIterable it X.env x = pure x := by intro _; rfl) : DS X Γ (.For tg it body [] pos :: rest) A := by
  obtain ⟨wi, hpi, hwi⟩ := hi
  intro Hs H0 Hb tk σ Hd H r
  refine wSs_cons (wS_of (ps_for hp hc hpi pg_w pss_w hs) (hwi σ Hd H _ r.l fun J Hd1 H1 s1 io => ?_))
  have rb1 : Ex Hb Hd1 := r.b.trans s1.d
  refine ⟨fun i m σ' H' => i + m = items.length ∧ ∃ Γ' Hd', R X.K Hs H0 Hb Γ' σ' Hd' H' ∧ Ex Hd1 Hd' ∧ Pv i Γ', ⟨items.length, by omega, Γ, Hd1, r.stp s1, Ex.refl _, h0⟩, ?_⟩
  rintro i m σ' H' ⟨em, Γ', Hd', r', e', q⟩
  obtain ⟨g1, g2⟩ := io i Hd' H' e' r'.l.sub
  by_cases hi : i < items.length
  · have e1 := List.getElem?_eq_getElem hi
    obtain ⟨go, yl⟩ := g1 _ e1
    refine .inr ⟨go, fun σ2 H2 => ∃ Γ2 Hd2, R X.K Hs H0 Hb Γ2 σ2 Hd2 H2 ∧ Ex Hd1 Hd2 ∧ Pv (i + 1) Γ2, fun σ2 H2 ⟨Γ2, Hd2, a, b, c⟩ => ⟨m - 1, by omega, by omega, Γ2, Hd2, a, b, c⟩, fun x H3 hy => ?_⟩
    obtain ⟨Hd3, s3, ix⟩ := yl x H3 hy
    refine hg i _ e1 σ' Hd3 H3 x _ ix s3.s fun ws hw => ?_
    have r3 := (r'.stp s3).setV hw
    -- the data heap grows within the body: the body's own end tells so by its entry, Hd3
    intro pins s I
    have r4 : R X.K Hs H0 Hd1 (setC Γ' (stf i items[i])) (setV σ' (stf i items[i]) ws) Hd3 H3 := ⟨r3.l, r3.e, e'.trans s3.d, r3.o⟩
    refine thn (hb i _ Γ' e1 q Hs H0 Hd1 (tk.imp fun c d σ H ⟨C, fs, G, Hx, e1, e2, e3, e4⟩ => ⟨C, fs, G, Hx, e1, e2, ⟨e3.l, e3.e, rb1.trans e3.b, e3.o⟩, e4⟩) _ Hd3 H3 r4 pins s I) fun f s' z => ?_
    have lo : ∀ {Γ2 σ2 Hd2 H2}, R X.K Hs H0 Hd1 Γ2 σ2 Hd2 H2 → R X.K Hs H0 Hb Γ2 σ2 Hd2 H2 := fun a => ⟨a.l, a.e, rb1.trans a.b, a.o⟩
    cases f with
    | next =>
      obtain ⟨σ2, H2, I2, Γ2, Hd2, a, b⟩ := z
      exact ⟨σ2, H2, I2, Γ2, Hd2, lo a, a.b, b⟩
    | cont =>
      obtain ⟨σ2, H2, I2, Γ2, Hd2, a, b⟩ := z
      exact ⟨σ2, H2, I2, Γ2, Hd2, lo a, a.b, b⟩
    | brk =>
      obtain ⟨σ2, H2, I2, Γ2, Hd2, a, b⟩ := z
      exact ⟨σ2, H2, I2, b Hs H0 Hb tk σ2 Hd2 H2 (lo a)⟩
    | ret v => exact z
  · refine .inl ⟨g2 (by omega), ?_⟩
    have ei : i = items.length := by omega
    subst ei
    exact hd Γ' q Hs H0 Hb tk σ' Hd' H' r'
end
end Hf

namespace Hf
open PySem PySem.Spec PyProof.Rows L2
open Evl (Ex)
section
variable {X : Cx} {Γ : List Cell} {A : AD} {st : Stmt} {rest body els : List Stmt} {e a b c tg it o : Expr} {d : D} {ds es : List D} {i j n : Nat} {x : Str} {pos p : Pos}
/-- the slot's own list -/
theorem own_list {K : PySem.W.Frag} {Hs H0 Hb Hd H : Hp} {σ : St} (r : R K Hs H0 Hb Γ σ Hd H) (hi : Γ[i]? = some (.ml ds)) : ∃ l vs, σ[i]? = some (some (.ref l)) ∧ Hd l = none ∧ H l = some (.lst vs) ∧ IsAll K Hd vs ds := by
  have hl : i < σ.length := by rw [r.l.len]; exact (List.getElem?_eq_some_iff.mp hi).1
  have es := List.getElem?_eq_getElem hl
  obtain ⟨l, vs, e, hd, h1, i1⟩ := r.l.cell i _ _ hi es
  exact ⟨l, vs, by rw [es, e], hd, h1, i1⟩
theorem own_dict {K : PySem.W.Frag} {Hs H0 Hb Hd H : Hp} {σ : St} {es : List (D × D)} (r : R K Hs H0 Hb Γ σ Hd H) (hi : Γ[i]? = some (.md es)) : ∃ l kvs, σ[i]? = some (some (.ref l)) ∧ Hd l = none ∧ H l = some (.dK kvs) ∧ IsKv K Hd kvs es := by
  have hl : i < σ.length := by rw [r.l.len]; exact (List.getElem?_eq_some_iff.mp hi).1
  have es := List.getElem?_eq_getElem hl
  obtain ⟨l, vs, e, hd, h1, i1⟩ := r.l.cell i _ _ hi es
  exact ⟨l, vs, by rw [es, e], hd, h1, i1⟩
/-- x.append(e), x one's own list -/
theorem ds_app {apos pos2 : Pos} (hi : Γ[i]? = some (.ml ds)) (hx : PE X (.Name x p) (tVar i)) (he : DE X Γ e d) (hz : ds.length < 100000)
    (hp : PS X (.Expr (.Call (.Attribute (.Name x p) "append" apos) [e] [] pos) pos2) (tDrop (tBM X.K "list" rAppend (wE X (.Name x p)) (tCons (wE X e) tNil))))
    (h : DS X (Γ.set i (.ml (ds ++ [d]))) rest A) : DS X Γ (.Expr (.Call (.Attribute (.Name x p) "append" apos) [e] [] pos) pos2 :: rest) A := fun Hs H0 Hb tk σ Hd H r =>
  wSs_cons (wS_of hp (by
    obtain ⟨l, vs, es, hd, h1, i1⟩ := own_list r hi
    refine wE_of hx ⟨_, es, .inl ⟨rfl, vs, SqL.of h1⟩, he σ Hd H _ r.l fun v Hd1 H1 s1 iv => ?_⟩
    have h2 := s1.h _ _ h1
    refine ⟨l, vs, v, rfl, rfl, h2, Evl.sz_lt (by rw [i1.len]; exact hz), ?_⟩
    exact h Hs H0 Hb tk σ Hd1 _ ((r.stp s1).chg hi es (show some (V.ref l) = some (.ref l) from rfl) ⟨l, _, rfl, s1.non hd h1, upd_same, (i1.mono s1.d).app (.one iv)⟩)))
/-- x.extend(e), x one's own list, e a tracked list -/
theorem ds_ext {apos pos2 : Pos} (hi : Γ[i]? = some (.ml ds)) (hx : PE X (.Name x p) (tVar i)) (he : DL X Γ e es) (hz : ds.length + es.length ≤ 100000)
    (hp : PS X (.Expr (.Call (.Attribute (.Name x p) "extend" apos) [e] [] pos) pos2) (tDrop (tBM X.K "list" rExtend (wE X (.Name x p)) (tCons (wE X e) tNil))))
    (h : DS X (Γ.set i (.ml (ds ++ es))) rest A) : DS X Γ (.Expr (.Call (.Attribute (.Name x p) "extend" apos) [e] [] pos) pos2 :: rest) A := fun Hs H0 Hb tk σ Hd H r =>
  wSs_cons (wS_of hp (by
    obtain ⟨l, vs, es, hd, h1, i1⟩ := own_list r hi
    refine wE_of hx ⟨_, es, .inl ⟨rfl, vs, SqL.of h1⟩, he σ Hd H _ r.l fun m us Hd1 H1 s1 hm iv => ?_⟩
    have h2 := s1.h _ _ h1
    refine ⟨l, m, vs, us, rfl, rfl, h2, hm, Evl.sz_of (by rw [i1.len, iv.len]; exact hz), ?_⟩
    exact h Hs H0 Hb tk σ Hd1 _ ((r.stp s1).chg hi es (show some (V.ref l) = some (.ref l) from rfl) ⟨l, _, rfl, s1.non hd h1, upd_same, (i1.mono s1.d).app iv⟩)))
theorem ixN_of {k : Int} {m n : Nat} (h : ixN n k = some m) : ixN n k = some m := h
/-- x[k] = e, x one's own list -/
theorem ds_put {spos : Pos} {k : Int} {m : Nat} (hi : Γ[i]? = some (.ml ds)) (hx : PE X (.Name x p) (tVar i)) (he : DE X Γ e d) (hk : DE X Γ b (.int k)) (hm : ixN ds.length k = some m)
    (hp : PS X (.Assign [.Subscript (.Name x p) b spos] e pos) (tAsg (wE X e) (gSub (wE X (.Name x p)) (wE X b) rSetL)))
    (h : DS X (Γ.set i (.ml (ds.set m d))) rest A) : DS X Γ (.Assign [.Subscript (.Name x p) b spos] e pos :: rest) A := fun Hs H0 Hb tk σ Hd H r =>
  wSs_cons (wS_of hp (he σ Hd H _ r.l fun v Hd1 H1 s1 iv => by
    have r1 := r.stp s1
    obtain ⟨l, vs, es, hd, h1, i1⟩ := own_list r1 hi
    refine wE_of hx ⟨_, es, hk σ Hd1 H1 _ r1.l fun u Hd2 H2 s2 iu => ?_⟩
    cases iu
    refine ⟨l, vs, k, m, rfl, rfl, s2.h _ _ h1, by rw [i1.len]; exact hm, ?_⟩
    exact h Hs H0 Hb tk σ Hd2 _ ((r1.stp s2).chg hi es (show some (V.ref l) = some (.ref l) from rfl) ⟨l, _, rfl, s2.non hd h1, upd_same, (i1.mono s2.d).set m (iv.mono s2.d)⟩)))
section
variable {elt iter : Expr} {scope : Scope} {own : List (Str × Nat)} {spos py : Pos} {items rs : List D} {y : Str}
theorem set_new {te : TE} {Hs H0 Hb : Hp} {σ : St} {Hd H : Hp} (h : DS X (Γ.set i (.ml rs)) rest A) (tk : L2N.Takes X (AD.W X.K Hs H0 Hb A.ex)) (r : R X.K Hs H0 Hb Γ σ Hd H) (hr : RN X Γ te rs) : tAsg te (gName i) { A.ends X.K Hs H0 Hb with nx := fun σ' H' => wSs X rest (A.ends X.K Hs H0 Hb) σ' H' } σ H :=
  hr σ Hd H _ r.l fun l vs Hd1 H1 s1 hl hd h1 i1 => h Hs H0 Hb tk _ Hd1 H1 ((r.stp s1).setOwn (c := .ml rs) ⟨l, vs, rfl, hd, h1, i1⟩ (ex_none r.e.h hl) fun j cj ov _ a b => notown_new r hl j cj ov a b)
theorem ds_setLc (hc : X.calm = true) (hN : X.N.Nodup) (hy : X.N[i]? = some y) (hyl : X.env.scope.names.lookup y = some .local) (hsw : swapsWith (.ListComp elt [⟨tg, iter, [], 0⟩] scope pos) (some (.Name y py)) spos.line X.env = pure true) (hi : DI X Γ tg iter items) (ok : BlkOk X.N X.env.scope scope own)
    (stf : Nat → D → List (Nat × D)) (hl : rs.length = items.length) (hsz : items.length ≤ 100000)
    (hin : ∀ i d, items[i]? = some d → ∀ p ∈ stf i d, p.1 ∈ own.map (·.2))
    (hg : ∀ i d, items[i]? = some d → ∀ (s : Shared) (H : Hp) (C : Addr) (cl : List (Str × Addr)) (fp : List Addr), DG (X.blk s H scope (compEnvC scope cl C X.env) fp) tg d (stf i d))
    (he : ∀ i d y, items[i]? = some d → rs[i]? = some y → ∀ (s : Shared) (H : Hp) (C : Addr) (cl : List (Str × Addr)) (fp : List Addr), DE (X.blk s H scope (compEnvC scope cl C X.env) fp) (setC (wipeC Γ (own.map (·.2))) (stf i d)) elt y)
    (h : DS X (Γ.set i (.ml rs)) rest A) (hs : ∀ x, foldedSetIterable iter X.env x = pure x := by intro _; rfl) : DS X Γ (.Assign [.Name y py] (.ListComp elt [⟨tg, iter, [], 0⟩] scope pos) spos :: rest) A := by
  obtain ⟨wi, hpi, hwi⟩ := hi
  exact fun Hs H0 Hb tk σ Hd H r => wSs_cons (wS_of (ps_setLc hc hN hy hyl hsw hpi ok pg_blk (fun _ _ _ _ _ => pts_nil) pe_blk hs) (set_new h tk r (rn_lc hwi stf hl hsz hin hg he)))
theorem ds_setLcIf {c : Expr} {outs : List (Option D)} (hc : X.calm = true) (hN : X.N.Nodup) (hy : X.N[i]? = some y) (hyl : X.env.scope.names.lookup y = some .local) (hsw : swapsWith (.ListComp elt [⟨tg, iter, [c], 0⟩] scope pos) (some (.Name y py)) spos.line X.env = pure true) (hi : DI X Γ tg iter items) (ok : BlkOk X.N X.env.scope scope own)
    (stf : Nat → D → List (Nat × D)) (hl : outs.length = items.length) (hsz : items.length ≤ 100000)
    (hin : ∀ i d, items[i]? = some d → ∀ p ∈ stf i d, p.1 ∈ own.map (·.2))
    (hg : ∀ i d, items[i]? = some d → ∀ (s : Shared) (H : Hp) (C : Addr) (cl : List (Str × Addr)) (fp : List Addr), DG (X.blk s H scope (compEnvC scope cl C X.env) fp) tg d (stf i d))
    (ht : ∀ i d o, items[i]? = some d → outs[i]? = some o → ∀ (s : Shared) (H : Hp) (C : Addr) (cl : List (Str × Addr)) (fp : List Addr), DT (X.blk s H scope (compEnvC scope cl C X.env) fp) (setC (wipeC Γ (own.map (·.2))) (stf i d)) c o.isSome)
    (he : ∀ i d y, items[i]? = some d → outs[i]? = some (some y) → ∀ (s : Shared) (H : Hp) (C : Addr) (cl : List (Str × Addr)) (fp : List Addr), DE (X.blk s H scope (compEnvC scope cl C X.env) fp) (setC (wipeC Γ (own.map (·.2))) (stf i d)) elt y)
    (h : DS X (Γ.set i (.ml (outs.filterMap id))) rest A) (hs : ∀ x, foldedSetIterable iter X.env x = pure x := by intro _; rfl) : DS X Γ (.Assign [.Name y py] (.ListComp elt [⟨tg, iter, [c], 0⟩] scope pos) spos :: rest) A := by
  obtain ⟨wi, hpi, hwi⟩ := hi
  exact fun Hs H0 Hb tk σ Hd H r => wSs_cons (wS_of (ps_setLc hc hN hy hyl hsw hpi ok pg_blk pts_blk pe_blk hs) (set_new h tk r (rn_lcIf (tt := fun _ => true) hwi stf hl hsz hin hg ht he)))
end
theorem ds_raise {C : Addr} (hc : X.calm = true) (he : L2N.PMk X e (fun _ H Q => Q (.ref C) none H)) (h : A.ex C [] Γ) : DS X Γ (.Raise (some e) none pos :: rest) A := fun Hs H0 Hb tk σ Hd H r =>
  wSs_cons (wS_of (L2N.ps_raise hc tk he) ⟨C, [], Γ, Hd, rfl, h, r, .inl ⟨rfl, rfl⟩⟩)
end
def startC (N : List Str) (ds : List D) : List Cell := ds.map Cell.d ++ List.replicate (N.length - ds.length) .no
def AD.ret (r : Res) : AD where
  nx := fun _ => r = .ok (.val .none)
  rt := fun o => r = .ok o
  ex := fun C fs _ => r = .exc C fs
theorem start_R {K : PySem.W.Frag} {N : List Str} {vs : List V} {ds : List D} {Hs H : Hp} (e : Ex Hs H) (h : IsAll K Hs vs ds) : R K Hs H Hs (startC N ds) (L2.start N vs) Hs H := by
  have hl := h.len
  have noown : ∀ (i : Nat) c ov l, (startC N ds)[i]? = some c → ¬ ownAt c ov l := fun i c ov l h1 o => by
    unfold startC at h1
    rw [List.getElem?_append] at h1
    split at h1
    · rw [List.getElem?_map] at h1
      obtain ⟨x, _, rfl⟩ := Option.map_eq_some_iff.mp h1
      cases o
    · rw [List.getElem?_replicate] at h1
      split at h1
      · cases h1; cases o
      · cases h1
  refine ⟨⟨by unfold L2.start startC; simp [hl], e, fun i c ov h1 h2 => ?_, fun i j ci cj oi oj l h1 _ _ _ q _ => (noown i ci oi l h1 q).elim⟩, ⟨Ex.refl _, Ex.refl _, e, fun a o h1 h2 => by rw [h2] at h1; cases h1⟩, Ex.refl _, fun i c ov l h1 _ q => (noown i c ov l h1 q).elim⟩
  unfold startC at h1
  unfold L2.start at h2
  rw [List.getElem?_append] at h1 h2
  rw [List.length_map] at h1 h2
  rw [hl] at h2
  split at h1
  · rename_i hi
    rw [if_pos hi] at h2
    rw [List.getElem?_map] at h1 h2
    obtain ⟨x, hx, rfl⟩ := Option.map_eq_some_iff.mp h1
    obtain ⟨v, hv, rfl⟩ := Option.map_eq_some_iff.mp h2
    obtain ⟨v', q1, q2⟩ := h.get hx
    rw [hv] at q1; cases q1
    exact ⟨v, rfl, q2⟩
  · rw [List.getElem?_replicate] at h1
    split at h1
    · cases h1; trivial
    · cases h1
section
variable {P : Program} {w : World} {K : PySem.W.Frag} {mg : Str → Option Value} {base : Heap}
theorem passN {X : Cx} : Passes (L2N.CX X.prog X.w) X E0 := fun _ _ _ _ _ _ _ h => by
  obtain ⟨_, _, _, _, _, _, _, _, _, _, _, _, z⟩ := h
  exact z.elim
theorem okN {x qual : Str} {st : Stmt} {f : Addr} {fd : FuncData} {N ps : List Str} {k : Nat} {sp : Sp} (F : Fun K x qual st f fd) (sc : FnScope N ps (defScope st)) (len : ∀ vs H Q E, sp vs H Q E → vs.length = ps.length)
    (body : ∀ (cdv : Value) (Ar : Around) (outer : List Env) (s : Shared) (H : Hp) (vs : List V) (Q : VK) (E : XK), Room k (Ar.deeper (envOfC qual (defScope st) s.heap.objs.size f cdv)) → sp vs H Q E →
      ∃ t, PSs (cxOf (L2N.CX P w) P w K mg base N qual (defScope st) f cdv Ar outer s H E) (defBody st) t ∧ t { nx := fun _ H' => Q .non H', rt := Q } (L2.start N vs) H) : FnOk P w K mg base (L2N.CX P w) (k + 1) f fd ps sp := by
  obtain ⟨oc, od, kV, doc, pm, an, cdv, ct, osl, rfl, lk, hcd⟩ := F.ex
  exact fn_of lk hcd sc len fun Ar outer s H vs Q E hr h => body cdv Ar outer s H vs Q E hr h
/-- THE RULE for a def: its body keeps the promise S -/
theorem fn_ok {x qual : Str} {st : Stmt} {f : Addr} {fd : FuncData} {N ps : List Str} {k : Nat} {S : List D → Res → Prop} (F : Fun K x qual st f fd) (sc : FnScope N ps (defScope st)) (len : ∀ ds r, S ds r → ds.length = ps.length)
    (body : ∀ (cdv : Value) (Ar : Around) (outer : List Env) (s : Shared) (H : Hp) (E : XK), Room k (Ar.deeper (envOfC qual (defScope st) s.heap.objs.size f cdv)) → ∀ ds r, S ds r →
      DS (cxOf (L2N.CX P w) P w K mg base N qual (defScope st) f cdv Ar outer s H E) (startC N ds) (defBody st) (AD.ret r)) : FnOk P w K mg base (L2N.CX P w) (k + 1) f fd ps (spF K S) := by
  refine okN F sc (fun vs H Q E ⟨Hs, ds, r, e, al, hs, _⟩ => by rw [al.len]; exact len ds r hs) (fun cdv Ar outer s H vs Q E hr ⟨Hs, ds, r, e, al, hs, hw⟩ => ⟨_, pss_w, fun pins s' I => ?_⟩)
  have tk : L2N.Takes (cxOf (L2N.CX P w) P w K mg base N qual (defScope st) f cdv Ar outer s H E) (AD.W K Hs H Hs (AD.ret r).ex) := (L2N.takes_of (X := cxOf (L2N.CX P w) P w K mg base N qual (defScope st) f cdv Ar outer s H E) (E := E) rfl rfl rfl rfl).imp fun cls d σ H' ⟨C, fs, G, Hd, e1, e2, e3, e4⟩ => by
    subst e1
    have e2' : r = .exc C fs := e2
    subst e2'
    exact hw d H' (e4.is e3.e)
  refine thn (body cdv Ar outer s H E hr ds r hs Hs H Hs tk _ Hs H (start_R e al) pins s' I) fun fl s2 q => ?_
  cases fl with
  | next =>
    obtain ⟨σ', H', I', Γ', Hd', r', q'⟩ := q
    have q2 : r = .ok (.val .none) := q'
    subst q2
    exact ⟨σ', H', I', hw .non H' ⟨Hd', r'.e, .non⟩⟩
  | ret v =>
    obtain ⟨v', σ', H', I', rv, o, q1, q2⟩ := q
    have q3 : r = .ok o := q1
    subst q3
    exact ⟨v', σ', H', I', rv, hw v' H' q2⟩
  | brk =>
    obtain ⟨_, _, _, _, _, _, z⟩ := q
    exact z.elim
  | cont =>
    obtain ⟨_, _, _, _, _, _, z⟩ := q
    exact z.elim
/-- a def that stands at the top by the name x, all parameters written -/
structure Has (P : Program) (w : World) (K : PySem.W.Frag) (mg : Str → Option Value) (base : Heap) (x : Str) (k : Nat) (S : List D → Res → Prop) : Prop where
  ok : ∃ f fd ps, FnOk P w K mg base (L2N.CX P w) k f fd ps (spF K S) ∧ mg x = some (.ref f) ∧ PySem.W.keepIn K (.ref f) = true ∧ Binds K fd ps []
end
section
variable {X : Cx} {Γ : List Cell} {e : Expr} {es : List Expr} {d : D} {ds rs : List D} {k : Nat} {x : Str} {S : List D → Res → Prop} {pos p : Pos}
theorem OutIs.stp {K : PySem.W.Frag} {Hs H0 : Hp} {o : Out} {v : V} {H : Hp} (h : OutIs K Hs H0 o v H) : ∃ Hd, Stp Hs H0 Hd H := by
  cases o with
  | val d => exact ⟨h.choose, h.choose_spec.1⟩
  | newL ds => obtain ⟨Hd, l, vs, _, s, _⟩ := h; exact ⟨Hd, s⟩
  | newM ds => obtain ⟨Hd, l, vs, _, s, _⟩ := h; exact ⟨Hd, s⟩
theorem call_core (h : Has X.prog X.w X.K X.mg X.base x k S) (hr : Room k X.A) (hg : Gl X x) (ha : DA X Γ (e :: es) ds) {o : Out} (hs : S ds (.ok o)) (hdb : (x == ("__debug__" : Str)) = false) (he : starEach (e :: es) X.env = (false, eval e X.env) :: starEach es X.env)
    (hpl : (backTo pos (starEach es X.env)).any (·.1) = false) {σ : St} {Hd H : Hp} {Q : VK} (r : Rl X.K Γ σ Hd H) (q : ∀ v Hd1 H1 H2, Stp Hd H Hd1 H1 → OutIs X.K Hd1 H1 o v H2 → Q v H2) : wE X (.Call (.Name x p) (e :: es) [] pos) σ H Q := by
  obtain ⟨f, fd, ps, F, hm, hk, hb⟩ := h.ok
  refine wE_of (pe_call F hr hg hm hk hb .nil passN pa_w hdb he hpl) (ha σ Hd H _ r fun vs Hd1 H1 s1 i1 => ?_)
  rw [List.append_nil]
  exact ⟨Hd1, ds, .ok o, s1.s, i1, hs, fun v H2 w => q v Hd1 H1 H2 s1 w⟩
/-- f(..): data -/
theorem de_call (h : Has X.prog X.w X.K X.mg X.base x k S) (hr : Room k X.A) (hg : Gl X x) (ha : DA X Γ (e :: es) ds) (hs : S ds (.ok (.val d))) (hdb : (x == ("__debug__" : Str)) = false := by decide)
    (he : starEach (e :: es) X.env = (false, eval e X.env) :: starEach es X.env := by rfl) (hpl : (backTo pos (starEach es X.env)).any (·.1) = false := by rfl) : DE X Γ (.Call (.Name x p) (e :: es) [] pos) d := fun σ Hd H Q r k =>
  call_core h hr hg ha hs hdb he hpl r fun v Hd1 H1 H2 s1 ⟨Hd2, s2, i2⟩ => k v Hd2 H2 (s1.trans s2) i2
/-- f(..): a new list -/
theorem dn_call (h : Has X.prog X.w X.K X.mg X.base x k S) (hr : Room k X.A) (hg : Gl X x) (ha : DA X Γ (e :: es) ds) (hs : S ds (.ok (.newL rs))) (hdb : (x == ("__debug__" : Str)) = false := by decide)
    (he : starEach (e :: es) X.env = (false, eval e X.env) :: starEach es X.env := by rfl) (hpl : (backTo pos (starEach es X.env)).any (·.1) = false := by rfl) : DN X Γ (.Call (.Name x p) (e :: es) [] pos) rs := fun σ Hd H Q r k =>
  call_core h hr hg ha hs hdb he hpl r fun v Hd1 H1 H2 s1 ⟨Hd2, l, vs, e1, s2, h0, hd, h1, i2⟩ => by
    subst e1
    exact k l vs Hd2 H2 (s1.trans s2) (ex_none s1.h h0) hd h1 i2
theorem dm_call {rs : List (D × D)} (h : Has X.prog X.w X.K X.mg X.base x k S) (hr : Room k X.A) (hg : Gl X x) (ha : DA X Γ (e :: es) ds) (hs : S ds (.ok (.newM rs))) (hdb : (x == ("__debug__" : Str)) = false := by decide)
    (he : starEach (e :: es) X.env = (false, eval e X.env) :: starEach es X.env := by rfl) (hpl : (backTo pos (starEach es X.env)).any (·.1) = false := by rfl) : DM X Γ (.Call (.Name x p) (e :: es) [] pos) rs := fun σ Hd H Q r k =>
  call_core h hr hg ha hs hdb he hpl r fun v Hd1 H1 H2 s1 ⟨Hd2, l, vs, e1, s2, h0, hd, h1, i2⟩ => by
    subst e1
    exact k l vs Hd2 H2 (s1.trans s2) (ex_none s1.h h0) hd h1 i2
/-- the law's own promise -/
theorem Has.mono {P : Program} {w : World} {K : PySem.W.Frag} {mg : Str → Option Value} {base : Heap} {j k : Nat} (h : Has P w K mg base x j S) (le : j ≤ k) : Has P w K mg base x k S := by
  obtain ⟨f, fd, ps, F, a, b, c⟩ := h.ok
  exact ⟨f, fd, ps, F.mono le, a, b, c⟩
/-- a module's constant -/
theorem de_glob {u : Value} {v : V} (hg : Gl X x) (hm : X.mg x = some u) (r : RelV v u) (q : ∀ Hd, Is X.K Hd v d) (hd : (x == ("__debug__" : Str)) = false := by decide) : DE X Γ (.Name x p) d := de_c (pe_glob hg hm r hd) q
end
end Hf

namespace Hf
open PySem PySem.Spec PyProof.Rows L2
open Evl (Ex)
section
variable {X : Cx} {Γ : List Cell} {A : AD} {rest : List Stmt} {e a b c tg : Expr} {es : List Expr} {d x y : D} {ds xs ys : List D} {i j n : Int} {pos p : Pos}
/-- a constant of the module -/
structure Kst (K : PySem.W.Frag) (mg : Str → Option Value) (x : Str) (d : D) : Prop where
  ok : ∃ v u, mg x = some u ∧ RelV v u ∧ ∀ Hd, Is K Hd v d
theorem Kst.de {x : Str} (k : Kst X.K X.mg x d) (hg : Gl X x) (hd : (x == ("__debug__" : Str)) = false := by decide) : DE X Γ (.Name x p) d := by
  obtain ⟨v, u, h1, h2, h3⟩ := k.ok
  exact de_glob hg h1 h2 h3 hd
/-- a written power -/
theorem de_powN (ha : DE X Γ a (.int i)) (hb : DE X Γ b (.int j)) (hc : CPow i j) (h : i ^ j.toNat = n) : DE X Γ (.BinOp a .Pow b pos) (.int n) := h ▸ de_pow ha hb hc
theorem de_cat {z w : Str} (ha : DE X Γ a (.str z)) (hb : DE X Γ b (.str w)) (hl : z.length + w.length ≤ 100000) : DE X Γ (.BinOp a .Add b pos) (.str (z ++ w)) :=
  fun σ Hd H Q r k => wE_of (pe_op op_add_str pe_w pe_w) (ha σ Hd H _ r fun v Hd1 H1 s1 i1 => hb σ Hd1 H1 _ (r.stp s1) fun u Hd2 H2 s2 i2 => by
    cases i1; cases i2
    exact ⟨z, w, rfl, rfl, Evl.sz_of hl, k _ Hd2 H2 (s1.trans s2) (.str _)⟩)
theorem de_catT (ha : DE X Γ a (.tuple xs)) (hb : DE X Γ b (.tuple ys)) (hl : xs.length + ys.length ≤ 1000) : DE X Γ (.BinOp a .Add b pos) (.tuple (xs ++ ys)) :=
  fun σ Hd H Q r k => wE_of (pe_op op_catA pe_w pe_w) (ha σ Hd H _ r fun v Hd1 H1 s1 i1 => hb σ Hd1 H1 _ (r.stp s1) fun u Hd2 H2 s2 i2 => by
    cases i1 with
    | tup t1 a1 =>
      cases i2 with
      | tup t2 a2 =>
        refine ⟨_, _, _, _, rfl, rfl, Evl.ex_t (s2.d.trans s2.s) t1, Evl.ex_t s2.s t2, by rw [a1.len, a2.len]; exact Nat.le_of_lt (small1000 hl), fun h1 => ?_, fun h1 h2 => ?_, fun h1 h2 p hp => ?_⟩
        · have : xs = [] := by
            have := a1.len; rw [h1] at this; exact List.eq_nil_of_length_eq_zero this.symm
          subst this
          exact k _ Hd2 H2 (s1.trans s2) (.tup t2 a2)
        · have : ys = [] := by
            have := a2.len; rw [h2] at this; exact List.eq_nil_of_length_eq_zero this.symm
          subst this
          rw [List.append_nil] at k
          exact k _ Hd2 H2 (s1.trans s2) (.tup (Evl.ex_t s2.d t1) (a1.mono s2.d))
        · exact k _ _ _ ((s1.trans s2).trans (Stp.newD s2.s hp)) (.tup (.inl (.inl upd_same)) (((a1.mono s2.d).app a2).mono (Ex.new (ex_none s2.s hp)))))
def tyS : D → String
  | .none => "NoneType"
  | .bool _ => "bool"
  | .int _ => "int"
  | .str _ => "str"
  | .list _ => "list"
  | .tuple _ => "tuple"
  | .dict _ => "dict"
def noDict : D → Bool
  | .dict _ => false
  | _ => true
theorem Is.tyx {K : PySem.W.Frag} {H : Hp} {v : V} {d : D} (h : Is K H v d) (nd : noDict d = true) : TyX K H v (.type (tyS d)) := by
  cases h with
  | non => exact .base .non
  | bl b => exact .base (.bl b)
  | int i => exact .base (.int i)
  | str x => exact .base (.str x)
  | lst s al =>
    rcases s with s | ⟨o, its, n, h1, h2, _⟩
    · rcases s with s | ⟨o, s⟩
      · exact .base (.lst s)
      · exact .base (.frz s)
    · exact .kList h1 h2
  | tup s al =>
    rcases s with s | ⟨o, its, n, h1, h2, _⟩
    · rcases s with s | ⟨o, s⟩
      · exact .base (.tup s)
      · exact .fTuple s
    · exact .kTuple h1 h2
  | dic _ _ => cases nd
  | obj _ => cases nd
  | ptr _ => cases nd
theorem de_isi {T : Str} {S : String} {m : Bool} (hg : Gl X "isinstance") (hm : NoMg X "isinstance") (hgT : Gl X T) (hmT : X.mg T = none) (hvT : bootBuiltins T = some (.type S)) (ha : DE X Γ a d) (hk : kitB (tyS d) S = some m ∧ noDict d = true) (hnT : T ≠ "__name__" := by decide) (hdT : (T == ("__debug__" : Str)) = false := by decide)
    (hs : starEach [a, .Name T p] X.env = (false, eval a X.env) :: starEach [.Name T p] X.env := by rfl) (hs2 : starEach [.Name T p] X.env = (false, eval (.Name T p) X.env) :: starEach [] X.env := by rfl) (hpl : (backTo pos (starEach [.Name T p] X.env)).any (·.1) = false := by rfl) {p2 : Pos} :
    DE X Γ (.Call (.Name "isinstance" p2) [a, .Name T p] [] pos) (.bool m) := fun σ Hd H Q r k =>
  wE_of (pe_callB call_isi hg hm (by decide +kernel) (pa_cons pe_w (pa_cons (pe_bltn (v := .ty S) hgT hmT hvT rfl hnT hdT) pa_nil hs2) hs) (by decide) (by decide) hs hpl) (ha σ Hd H _ r fun v Hd1 H1 s1 i1 =>
    ⟨v, .ty S, .type (tyS d), .type S, m, rfl, .ty S, (i1.mono s1.s).tyx hk.2, kit_ty hk.1, k _ Hd1 H1 s1 (.bl _)⟩)
/-- all of a list of bools -/
theorem IsAll.toBls {K : PySem.W.Frag} {H : Hp} : ∀ {vs : List V} {bs : List Bool}, IsAll K H vs (bs.map PyData.bool) → vs = bs.map V.bl
  | _, [], .nil => rfl
  | _, n :: ns, .cons a b => by cases a; rw [IsAll.toBls b]; rfl
theorem de_all {bs : List Bool} (hc : X.calm = true) (hg : Gl X "all") (hm : NoMg X "all") (ha : DE X Γ a (.list (bs.map PyData.bool))) (hs : starEach [a] X.env = (false, eval a X.env) :: starEach [] X.env := by rfl) : DE X Γ (.Call (.Name "all" p) [a] [] pos) (.bool (bs.all id)) :=
  de_B (cr_all hc) hg hm (by decide +kernel) (da_cons ha da_nil hs) (hn := by decide) (hdb := by decide) (he := hs) (hpl := rfl) (hr := fun vs Hd H Q s h k => by
    obtain ⟨v, rfl, i⟩ := all1 h
    cases i with | lst t al =>
      rw [al.toBls] at t
      exact ⟨_, bs, rfl, Evl.ex_l s t, k _ Hd H (Stp.refl s) (.bl _)⟩)
/-- the signs of a text -/
def signs (z : Str) : List D := z.cps.toList.map fun c => .str ⟨#[c]⟩
theorem di_str {z : Str} (h : DE X Γ e (.str z)) : DI X Γ tg e (signs z) := ⟨_, pi_str pe_w, fun σ Hd H Q r k => h σ Hd H _ r fun v Hd1 H1 s1 i1 => by
  cases i1
  refine ⟨z, rfl, k _ Hd1 H1 s1 <| itok fun i Hd2 H2 e1 e2 => ⟨fun d hd => ?_, fun hn => ?_⟩⟩
  · unfold signs at hd
    rw [List.getElem?_map] at hd
    obtain ⟨c, hc, rfl⟩ := Option.map_eq_some_iff.mp hd
    have hc' : z.cps[i]? = some c := by rw [← Array.getElem?_toList]; exact hc
    refine ⟨?_, fun y H3 hy => ?_⟩
    · exact (Array.getElem?_eq_some_iff.mp hc').1
    · obtain ⟨rfl, c', h1, rfl⟩ := hy
      rw [hc'] at h1; cases h1
      exact ⟨Hd2, Stp.refl e2, .str _⟩
  · have := List.getElem?_eq_none_iff.mp hn
    unfold signs at this
    show z.cps.size ≤ i
    simpa using this⟩
theorem di_zipL {elts : List Expr} {kk : Nat} {tpos : Pos} (hg : Gl X "zip") (hm : NoMg X "zip") (ha : DE X Γ a (.list xs)) (hb : DE X Γ b (.list ys))
    (hs : starEach [a, b] X.env = (false, eval a X.env) :: starEach [b] X.env := by rfl) (hs2 : starEach [b] X.env = (false, eval b X.env) :: starEach [] X.env := by rfl) (hpl : (backTo pos (starEach [b] X.env)).any (·.1) = false := by rfl) :
    DI X Γ (.Tuple elts kk tpos) (.Call (.Name "zip" p) [a, b] [] pos) ((xs.zip ys).map fun q => .tuple [q.1, q.2]) :=
  ⟨_, RZ.pi_zipA hg hm pa_w hs hpl, fun σ Hd H Q r k => da_cons ha (da_cons hb da_nil hs2) hs σ Hd H _ r fun vs Hd1 H1 s1 i1 => by
    obtain ⟨v, v', rfl, iv, iw⟩ := all2 i1
    cases iv with
    | lst t1 a1 =>
      cases iw with
      | lst t2 a2 =>
        refine ⟨_, _, _, _, rfl, .inl ⟨Evl.ex_l s1.s t1, Evl.ex_l s1.s t2, k _ Hd1 H1 s1 <| itok fun i Hd2 H2 e1 e2 => ⟨fun d hd => ?_, fun hn => ?_⟩⟩⟩
        · rw [List.getElem?_map] at hd
          obtain ⟨⟨x, y⟩, hxy, rfl⟩ := Option.map_eq_some_iff.mp hd
          obtain ⟨hx, hy⟩ := List.getElem?_zip_eq_some.mp hxy
          obtain ⟨u1, g1, g2⟩ := a1.get hx
          obtain ⟨u2, g3, g4⟩ := a2.get hy
          refine ⟨⟨_, _, u1, u2, Evl.ex_l (e1.trans e2) t1, Evl.ex_l (e1.trans e2) t2, g1, g3⟩, fun z H3 hz => ?_⟩
          obtain ⟨T, x', y', rfl, hT, rfl, f1, f2⟩ := hz
          have z1 := f1 _ (Evl.ex_l (e1.trans e2) t1)
          have z2 := f2 _ (Evl.ex_l (e1.trans e2) t2)
          rw [g1] at z1; rw [g3] at z2; cases z1; cases z2
          have m := e1.trans (Ex.new (o := .tup [u1, u2]) (ex_none e2 hT))
          exact ⟨upd Hd2 T _, Stp.newD e2 hT, .tup (.inl (.inl upd_same)) (.cons (g2.mono m) (.cons (g4.mono m) .nil))⟩
        · refine ⟨_, _, Evl.ex_l (e1.trans e2) t1, Evl.ex_l (e1.trans e2) t2, ?_⟩
          rw [a1.len, a2.len]
          have := List.getElem?_eq_none_iff.mp hn
          simp only [List.length_map, List.length_zip] at this
          omega⟩
theorem di_zipT {elts : List Expr} {kk : Nat} {tpos : Pos} (hg : Gl X "zip") (hm : NoMg X "zip") (ha : DE X Γ a (.tuple xs)) (hb : DE X Γ b (.tuple ys))
    (hs : starEach [a, b] X.env = (false, eval a X.env) :: starEach [b] X.env := by rfl) (hs2 : starEach [b] X.env = (false, eval b X.env) :: starEach [] X.env := by rfl) (hpl : (backTo pos (starEach [b] X.env)).any (·.1) = false := by rfl) :
    DI X Γ (.Tuple elts kk tpos) (.Call (.Name "zip" p) [a, b] [] pos) ((xs.zip ys).map fun q => .tuple [q.1, q.2]) :=
  ⟨_, RZ.pi_zipA hg hm pa_w hs hpl, fun σ Hd H Q r k => da_cons ha (da_cons hb da_nil hs2) hs σ Hd H _ r fun vs Hd1 H1 s1 i1 => by
    obtain ⟨v, v', rfl, iv, iw⟩ := all2 i1
    cases iv with
    | tup t1 a1 =>
      cases iw with
      | tup t2 a2 =>
        refine ⟨_, _, _, _, rfl, .inr ⟨Evl.ex_t s1.s t1, Evl.ex_t s1.s t2, k _ Hd1 H1 s1 <| itok fun i Hd2 H2 e1 e2 => ⟨fun d hd => ?_, fun hn => ?_⟩⟩⟩
        · rw [List.getElem?_map] at hd
          obtain ⟨⟨x, y⟩, hxy, rfl⟩ := Option.map_eq_some_iff.mp hd
          obtain ⟨hx, hy⟩ := List.getElem?_zip_eq_some.mp hxy
          obtain ⟨u1, g1, g2⟩ := a1.get hx
          obtain ⟨u2, g3, g4⟩ := a2.get hy
          refine ⟨⟨_, _, u1, u2, Evl.ex_t (e1.trans e2) t1, Evl.ex_t (e1.trans e2) t2, g1, g3⟩, fun z H3 hz => ?_⟩
          obtain ⟨T, x', y', rfl, hT, rfl, f1, f2⟩ := hz
          have z1 := f1 _ (Evl.ex_t (e1.trans e2) t1)
          have z2 := f2 _ (Evl.ex_t (e1.trans e2) t2)
          rw [g1] at z1; rw [g3] at z2; cases z1; cases z2
          have m := e1.trans (Ex.new (o := .tup [u1, u2]) (ex_none e2 hT))
          exact ⟨upd Hd2 T _, Stp.newD e2 hT, .tup (.inl (.inl upd_same)) (.cons (g2.mono m) (.cons (g4.mono m) .nil))⟩
        · refine ⟨_, _, Evl.ex_t (e1.trans e2) t1, Evl.ex_t (e1.trans e2) t2, ?_⟩
          rw [a1.len, a2.len]
          have := List.getElem?_eq_none_iff.mp hn
          simp only [List.length_map, List.length_zip] at this
          omega⟩
end
end Hf

namespace Hf
open PySem PySem.Spec PyProof.Rows L2
open Evl (Ex)
open PySem.Sem (wp)
inductive Src where
  | l (a : Addr) | t (a : Addr) | s (x : Str)
def sgs (x : Str) : List V := x.cps.toList.map fun c => .str ⟨#[c]⟩
def Src.At (K : PySem.W.Frag) (H : Hp) : Src → List V → Prop
  | .l a, xs => SqL K H a xs
  | .t a, xs => SqT K H a xs
  | .s x, xs => xs = sgs x
def Src.It : Src → Tok → Addr → Nat → Heap → Prop
  | .l a, _, it, i, h => h.IsListIter it a i
  | .t a, _, it, i, h => h.IsTupleIter it a i
  | .s x, k, it, i, h => h.IsStrIter it (strIterType x) x k i
def Src.v : Src → L2.V
  | .l a => .ref a
  | .t a => .ref a
  | .s x => .str x
def Src.val : Src → Tok → Value
  | .l a, _ => .ref a
  | .t a, _ => .ref a
  | .s x, k => .str x k
def Src.obj : Src → Tok → Obj
  | .l a, _ => { cls := .type "list_iterator", data := .fields #[.ref a, .int 0 0] }
  | .t a, _ => { cls := .type "tuple_iterator", data := .fields #[.ref a, .int 0 0] }
  | .s x, k => { cls := .type (strIterType x), data := .fields #[.str x k, .int 0 0] }
theorem Src.It.ob {src : Src} {t : Tok} {it : Addr} {i : Nat} {h : Heap} (q : src.It t it i h) : ∃ o, h.get? it = some o ∧ ∀ v, o.data ≠ .cell v := by
  cases src <;> · obtain ⟨o, e, _, d⟩ := q; exact ⟨o, e, fun v z => by rw [d] at z; cases z⟩
theorem Src.It.move {src : Src} {t : Tok} {it : Addr} {i : Nat} {h h' : Heap} (q : src.It t it i h) (k : ∀ o, h.get? it = some o → h'.get? it = some o) : src.It t it i h' := by
  cases src <;> · obtain ⟨o, e, r⟩ := q; exact ⟨o, k o e, r⟩
theorem Src.It.zero {src : Src} {t : Tok} {it : Addr} {h : Heap} (e : h.get? it = some (src.obj t)) : src.It t it 0 h := by
  cases src <;> exact ⟨_, e, rfl, rfl⟩
theorem Src.rel {src : Src} {u : Value} (r : RelV src.v u) : ∃ t, u = src.val t := by
  cases src with
  | l a => cases r; exact ⟨0, rfl⟩
  | t a => cases r; exact ⟨0, rfl⟩
  | s x => obtain ⟨t, rfl⟩ := r; exact ⟨t, rfl⟩
/-- what its iterator draws, as it stands -/
structure Drw (X : Cx) (pins : List (Addr × Obj)) (s : Shared) (H : Hp) (src : Src) (t : Tok) (it : Addr) (xs : List V) (fp : List Addr) (P : Nat → Value → Prop) (St : Nat → Heap → Prop) : Prop where
  D : Draws X.prog X.w X.A.in1 it fp xs.length P St
  val : ∀ i v, P i v → ∃ x, xs[i]? = some x ∧ RelV x v
  st : ∀ i, src.It t it i s.heap → St i s.heap
  fro : ∀ i h, St i h → src.It t it i h
  mem : it ∈ fp
  out : ∀ e, e ≠ it → FpOk X pins H e → e ∉ fp
section
variable {X : Cx} {pins : List (Addr × Obj)} {σ : L2.St} {H : Hp} {s : Shared} {xs : List V} {src : Src} {tk : Tok} {it : Addr}
theorem at_ne {a b : Addr} (I : Inv X pins σ H s) (hf : FpOk X pins H b) (h : SqL X.K H a xs ∨ SqT X.K H a xs) : a ≠ b := by
  rintro rfl
  have rd : ∀ {u : HO}, Rd H a u → False := fun r => by
    rcases r with r | ⟨_, r⟩ <;> · rw [hf.1] at r; cases r
  have kk : ∀ o, X.K.lookup a = some o → False := fun o hk => by
    have e := I.mod.kin a o hk
    rcases hf.2.2.2.1 with z | z
    · exact I.ok.noex _ _ e z
    · exact absurd (Heap.lt_size (I.ok.bs _ _ e).1) (Nat.not_lt.mpr z)
  rcases h with h | h
  · rcases h with h | ⟨o, _, _, hk, _⟩
    · exact rd h
    · exact kk o hk
  · rcases h with h | ⟨o, _, _, hk, _⟩
    · exact rd h
    · exact kk o hk
theorem vals_get {us : List Value} (r : Vals xs us) {i : Nat} {v : Value} (h : us.toArray[i]? = some v) : ∃ x, xs[i]? = some x ∧ RelV x v := by
  have e : us[i]? = some v := by simpa using h
  have hi : i < xs.length := by
    have := r.length
    have := (List.getElem?_eq_some_iff.mp e).1
    omega
  obtain ⟨u, hu, ru⟩ := r.get (List.getElem?_eq_getElem hi)
  rw [e] at hu
  cases hu
  exact ⟨_, List.getElem?_eq_getElem hi, ru⟩
theorem Src.draws (I : Inv X pins σ H s) (hc : X.calm = true) (h : src.At X.K H xs) (hf : FpOk X pins H it) : ∃ fp P St, Drw X pins s H src tk it xs fp P St := by
  have hh : X.A.in1.handled = none := I.ok.hd hc
  cases src with
  | l a =>
    obtain ⟨its, rv, p, _⟩ := I.list h
    have hne := at_ne I hf (.inl h)
    have D := Draws.list (prog := X.prog) (w := X.w) hh it a hne its.toArray
    have hl : its.toArray.size = xs.length := by have := rv.length; simp; omega
    rw [hl] at D
    exact ⟨_, _, _, D, fun i v q => vals_get rv q, fun i q => ⟨q, p.isList⟩, fun i h q => q.1, by simp, fun e he hfe => by simp only [List.mem_cons, List.not_mem_nil, or_false, not_or]; exact ⟨he, fun z => at_ne I hfe (.inl h) z.symm⟩⟩
  | t a =>
    obtain ⟨its, rv, p, _⟩ := I.tuple h
    have hne := at_ne I hf (.inr h)
    have D := Draws.tuple (prog := X.prog) (w := X.w) hh it a hne its.toArray
    have hl : its.toArray.size = xs.length := by have := rv.length; simp; omega
    rw [hl] at D
    exact ⟨_, _, _, D, fun i v q => vals_get rv q, fun i q => ⟨q, p⟩, fun i h q => q.1, by simp, fun e he hfe => by simp only [List.mem_cons, List.not_mem_nil, or_false, not_or]; exact ⟨he, fun z => at_ne I hfe (.inr h) z.symm⟩⟩
  | s x =>
    have D := Draws.text (prog := X.prog) (w := X.w) hh it x tk
    have e : xs = sgs x := h
    have hl : x.cps.size = xs.length := by rw [e]; unfold sgs; simp
    rw [hl] at D
    refine ⟨_, _, _, D, fun i v q => ?_, fun i q => q, fun i h q => q, by simp, fun e he hfe => by simpa using he⟩
    obtain ⟨c, u, hx, rfl⟩ := q
    refine ⟨.str ⟨#[c]⟩, ?_, u, rfl⟩
    rw [e]; unfold sgs
    rw [List.getElem?_map]
    have : x.cps.toList[i]? = some c := by simpa using hx
    rw [this]; rfl
end
def ItE (K : PySem.W.Frag) (src : Src) : L2.It :=
  ⟨fun i H => ∃ xs x, src.At K H xs ∧ xs[i]? = some x,
   fun i H v H' => ∃ T x, v = .ref T ∧ H T = none ∧ H' = upd H T (.tup [.int (i : Nat), x]) ∧ ∀ xs, src.At K H xs → xs[i]? = some x,
   fun i H => ∃ xs, src.At K H xs ∧ i = xs.length⟩
theorem at_inj {K : PySem.W.Frag} {H : Hp} {src : Src} {xs ys : List V} {X : Cx} {pins : List (Addr × Obj)} {σ : L2.St} {s : Shared} (I : Inv X pins σ H s) (hK : X.K = K) (h1 : src.At K H xs) (h2 : src.At K H ys) : xs = ys := by
  subst hK
  cases src with
  | l a => exact I.list_inj h1 h2
  | t a => exact I.tuple_inj h1 h2
  | s x => exact h1.trans h2.symm
section
variable {P : Program} {w : World} {K : PySem.W.Frag} {elts : List Expr} {kk : Nat} {tpos : Pos} {src src2 : Src} {tk tk2 : Tok}
theorem new_pair {X : Cx} {H : Hp} {h : Heap} {T : Addr} {x y : V} {u v : Value} (r1 : RelV x u) (r2 : RelV y v) (hT : h.IsTuple T #[u, v]) : ObjOk X.prog X.w (upd H T (.tup [x, y])) h T (.tup [x, y]) :=
  ⟨by show 2 ≤ sizeLine; decide, [u, v], .cons r1 (.cons r2 .nil), hT⟩
theorem turn_enumS (e it : Addr) :
    Turn P w K (.Tuple elts kk tpos) (ItE K src) [e, it] e (fun i h => (∃ old, IsEnum h e it ((i : Nat) : Int) old) ∧ src.It tk it i h ∧ e ≠ it) where
  mem := by simp
  obj := fun i h st b hb => by
    obtain ⟨⟨old, he⟩, hi, _⟩ := st
    rcases List.mem_cons.mp hb with rfl | hb
    · exact ⟨_, he, fun v q => nomatch q⟩
    · rw [List.mem_singleton.mp hb]; exact hi.ob
  keep := fun i h h' st k => let ⟨⟨old, he⟩, hi, hne⟩ := st; ⟨⟨old, k e (by simp) _ he⟩, hi.move fun o q => k it (by simp) o q, hne⟩
  item := by
    intro X hP hw hK hc i pins s σ H E I hf st hg
    subst hP hw hK
    obtain ⟨⟨old, he⟩, hit, hne⟩ := st
    obtain ⟨xs, x, hq, hx⟩ := hg
    have fe := hf e (by simp)
    have fi := hf it (by simp)
    obtain ⟨fp, Pd, St, d⟩ := Src.draws (tk := tk) I hc hq fi
    have W := WalksT.enumerateD d.D e hne (d.out e hne fe) d.mem
    have hi : i < xs.length := (List.getElem?_eq_some_iff.mp hx).1
    refine W.item i s _ _ hi ⟨⟨old, he⟩, d.st i hit⟩ fun T vals h' k' hp hT hTu hm hk => ?_
    refine ⟨_, rfl, W.go elts kk tpos i T { s with heap := h', toks := k' } _ _ hm fun h'' st' hk' => ?_⟩
    obtain ⟨t0, v, hp, rfl⟩ := hp
    obtain ⟨y, hy, ry⟩ := d.val i v hp
    rw [hx] at hy
    cases hy
    have hTn := W.apart i T h' hm
    have hT2 : h''.IsTuple T #[.int i t0, v] := hTu.at fun o q => hk' T o hTn q
    have lt : ∀ b, b = e ∨ b = it → b < s.heap.objs.size := fun b hb => by
      rcases hb with rfl | rfl
      · exact Heap.lt_size he
      · obtain ⟨_, q, _⟩ := hit.ob; exact Heap.lt_size q
    have I1 : Inv X pins σ (upd H T (.tup [.int (i : Nat), x])) { s with heap := h'', toks := k' } :=
      I.turnedNew (ch := [e, it]) (fun b ob hb q => hk' b ob hb (hk b ob hb q)) hf hT (new_pair ⟨_, rfl⟩ ry hT2)
    refine ⟨.ref T, _, I1, rfl, ⟨T, x, rfl, I.hok.fresh hT, rfl, fun ys hy => by rw [at_inj I rfl hy hq]; exact hx⟩, ⟨st'.1, d.fro _ _ st'.2, hne⟩, fun b hb => ?_⟩
    have hb' := lt b (by simpa using hb)
    rw [upd_ne (Nat.ne_of_lt (Nat.lt_of_lt_of_le hb' hT))]
    exact (hf b hb).1
  done := by
    intro X hP hw hK hc i pins s σ H E I hf st hg
    subst hP hw hK
    obtain ⟨⟨old, he⟩, hit, hne⟩ := st
    obtain ⟨xs, hq, rfl⟩ := hg
    have fe := hf e (by simp)
    obtain ⟨fp, Pd, St, d⟩ := Src.draws (tk := tk) I hc hq (hf it (by simp))
    have W := WalksT.enumerateD d.D e hne (d.out e hne fe) d.mem
    exact W.done s _ _ ⟨⟨old, he⟩, d.st _ hit⟩ fun h' k' hk => ⟨rfl, I.turnedL (ch := [e, it]) (fun b o hb q => hk b o hb q) hf⟩
  self := fun A i s Q E st h => let ⟨⟨_, he⟩, _⟩ := st; wpAny_pyIter_enum he h
def ItZ (K : PySem.W.Frag) (src src2 : Src) : L2.It :=
  ⟨fun i H => ∃ xs ys x y, src.At K H xs ∧ src2.At K H ys ∧ xs[i]? = some x ∧ ys[i]? = some y,
   fun i H v H' => ∃ T x y, v = .ref T ∧ H T = none ∧ H' = upd H T (.tup [x, y]) ∧ (∀ xs, src.At K H xs → xs[i]? = some x) ∧ ∀ ys, src2.At K H ys → ys[i]? = some y,
   fun i H => ∃ xs ys, src.At K H xs ∧ src2.At K H ys ∧ i = min xs.length ys.length⟩
theorem turn_zipS {z TI TO i1 i2 : Addr} (n1 : TI ≠ z) (n2 : TO ≠ z) (n3 : TI ≠ TO) (n4 : TI ≠ i1) (n5 : TI ≠ i2) (n6 : i1 ≠ z) (n7 : i2 ≠ z) (n8 : TO ≠ i1) (n9 : TO ≠ i2) (n0 : i1 ≠ i2) :
    Turn P w K (.Tuple elts kk tpos) (ItZ K src src2) [z, TI, TO, i1, i2] z (fun i h => IsZip h z TI TO .none ∧ IsTupOf2 h TI (.ref i1) (.ref i2) ∧ (∃ x y, IsTupOf2 h TO x y) ∧ src.It tk i1 i h ∧ src2.It tk2 i2 i h) where
  mem := by simp
  obj := fun i h st c hc => by
    obtain ⟨hz, hTI, ⟨x, y, hTO⟩, h1, h2⟩ := st
    have e' : c = z ∨ c = TI ∨ c = TO ∨ c = i1 ∨ c = i2 := by simpa using hc
    rcases e' with q | q | q | q | q <;> rw [q]
    · exact ⟨_, hz, fun v q => nomatch q⟩
    · exact ⟨_, hTI, fun v q => nomatch q⟩
    · exact ⟨_, hTO, fun v q => nomatch q⟩
    · exact h1.ob
    · exact h2.ob
  keep := fun i h h' st k => by
    obtain ⟨hz, hTI, ⟨x, y, hTO⟩, h1, h2⟩ := st
    exact ⟨k z (by simp) _ hz, k TI (by simp) _ hTI, ⟨x, y, k TO (by simp) _ hTO⟩, h1.move fun o q => k i1 (by simp) o q, h2.move fun o q => k i2 (by simp) o q⟩
  item := by
    intro X hP hw hK hc i pins s σ H E I hf st hg
    subst hP hw hK
    obtain ⟨hz, hTI, hTO, h1, h2⟩ := st
    obtain ⟨xs, ys, x, y, hqx, hqy, hx, hy⟩ := hg
    obtain ⟨fp1, P1, St1, d1⟩ := Src.draws (tk := tk) I hc hqx (hf i1 (by simp))
    obtain ⟨fp2, P2, St2, d2⟩ := Src.draws (tk := tk2) I hc hqy (hf i2 (by simp))
    have S : ZipSep2 z TI TO i1 i2 fp1 fp2 := ⟨n1, n2, n3, n4, d1.mem, d1.out z n6.symm (hf z (by simp)), d1.out TO n8 (hf TO (by simp)), n5, d2.mem, d2.out z n7.symm (hf z (by simp)), d2.out TO n9 (hf TO (by simp)), d2.out i1 n0 (hf i1 (by simp)), d1.out i2 n0.symm (hf i2 (by simp))⟩
    have W := WalksT.zipD2 S d1.D d2.D
    have hi1 : i < xs.length := (List.getElem?_eq_some_iff.mp hx).1
    have hi2 : i < ys.length := (List.getElem?_eq_some_iff.mp hy).1
    refine W.item i s _ _ (by omega) ⟨hz, hTI, hTO, d1.st i h1, d2.st i h2⟩ fun T vals h' k' hp hT hTu hm hk => ?_
    refine ⟨_, rfl, W.go elts kk tpos i T { s with heap := h', toks := k' } _ _ hm fun h'' st' hk' => ?_⟩
    obtain ⟨v1, v2, hp1, hp2, rfl⟩ := hp
    obtain ⟨x', hx', rx⟩ := d1.val i v1 hp1
    obtain ⟨y', hy', ry⟩ := d2.val i v2 hp2
    rw [hx] at hx'; rw [hy] at hy'
    cases hx'; cases hy'
    have hTn := W.apart i T h' hm
    have hT2 : h''.IsTuple T #[v1, v2] := hTu.at fun o q => hk' T o hTn q
    have sub : ∀ b, b ∉ [z, TI, TO, i1, i2] → b ∉ [z, TO, i1, i2] := fun b hb q => hb (by rcases (by simpa using q : b = z ∨ b = TO ∨ b = i1 ∨ b = i2) with q | q | q | q <;> simp [q])
    have lt : ∀ b ∈ [z, TI, TO, i1, i2], b < s.heap.objs.size := fun b hb => by
      have e' : b = z ∨ b = TI ∨ b = TO ∨ b = i1 ∨ b = i2 := by simpa using hb
      obtain ⟨_, _, hTO'⟩ := hTO
      rcases e' with q | q | q | q | q <;> rw [q]
      · exact Heap.lt_size hz
      · exact Heap.lt_size hTI
      · exact Heap.lt_size hTO'
      · obtain ⟨_, q, _⟩ := h1.ob; exact Heap.lt_size q
      · obtain ⟨_, q, _⟩ := h2.ob; exact Heap.lt_size q
    have I1 : Inv X pins σ (upd H T (.tup [x, y])) { s with heap := h'', toks := k' } :=
      I.turnedNew (ch := [z, TI, TO, i1, i2]) (fun b ob hb q => hk' b ob (sub b hb) (hk b ob (sub b hb) q)) hf hT (new_pair rx ry hT2)
    obtain ⟨a1, a2, a3, a4, a5⟩ := st'
    refine ⟨.ref T, _, I1, rfl, ⟨T, x, y, rfl, I.hok.fresh hT, rfl, fun l hl => by rw [at_inj I rfl hl hqx]; exact hx, fun l hl => by rw [at_inj I rfl hl hqy]; exact hy⟩, ⟨a1, a2, a3, d1.fro _ _ a4, d2.fro _ _ a5⟩, fun b hb => ?_⟩
    rw [upd_ne (Nat.ne_of_lt (Nat.lt_of_lt_of_le (lt b hb) hT))]
    exact (hf b hb).1
  done := by
    intro X hP hw hK hc i pins s σ H E I hf st hg
    subst hP hw hK
    obtain ⟨hz, hTI, hTO, h1, h2⟩ := st
    obtain ⟨xs, ys, hqx, hqy, rfl⟩ := hg
    obtain ⟨fp1, P1, St1, d1⟩ := Src.draws (tk := tk) I hc hqx (hf i1 (by simp))
    obtain ⟨fp2, P2, St2, d2⟩ := Src.draws (tk := tk2) I hc hqy (hf i2 (by simp))
    have S : ZipSep2 z TI TO i1 i2 fp1 fp2 := ⟨n1, n2, n3, n4, d1.mem, d1.out z n6.symm (hf z (by simp)), d1.out TO n8 (hf TO (by simp)), n5, d2.mem, d2.out z n7.symm (hf z (by simp)), d2.out TO n9 (hf TO (by simp)), d2.out i1 n0 (hf i1 (by simp)), d1.out i2 n0.symm (hf i2 (by simp))⟩
    have W := WalksT.zipD2 S d1.D d2.D
    have sub : ∀ b, b ∉ [z, TI, TO, i1, i2] → b ∉ [z, TO, i1, i2] := fun b hb q => hb (by rcases (by simpa using q : b = z ∨ b = TO ∨ b = i1 ∨ b = i2) with q | q | q | q <;> simp [q])
    exact W.done s _ _ ⟨hz, hTI, hTO, d1.st _ h1, d2.st _ h2⟩ fun h' k' hk => ⟨rfl, I.turnedL (ch := [z, TI, TO, i1, i2]) (fun b o hb q => hk b o (sub b hb) q) hf⟩
  self := fun A i s Q E st h => wpAny_pyIter_zip st.1 h
end
theorem Src.begins {X : Cx} {pins : List (Addr × Obj)} {σ : L2.St} {H : Hp} {s : Shared} {xs : List V} {src : Src} (I : Inv X pins σ H s) (h : src.At X.K H xs) (tk : Tok) : ∃ Q : Heap → Prop, Begins (src.val tk) (src.obj tk) Q ∧ Q s.heap := by
  cases src with
  | l a =>
    obtain ⟨its, _, p, _⟩ := I.list h
    exact ⟨_, begins_list a its.toArray, p.isList⟩
  | t a =>
    obtain ⟨its, _, p, _⟩ := I.tuple h
    exact ⟨_, begins_tuple a its.toArray, p⟩
  | s x => exact ⟨_, begins_text x tk, trivial⟩
theorem enum_new1 {v : Value} {o : Obj} {H : Heap → Prop} (B : Begins v o H) :
    Meets (Builtin.«enumerate.__new__» ⟨[.type "enumerate", v], []⟩) (fun _ R s => H s.heap ∧
      R (.ok (.ret (.ref (s.heap.push o).objs.size))) { s with heap := (s.heap.push o).push { cls := .type "enumerate", data := .fields #[.none, .bool false, .ref s.heap.objs.size, rawInt 0, .none, .none] } }) :=
  .of_wp fun prog w A R s hh => by
    obtain ⟨hp, g, d, tk, os⟩ := s
    obtain ⟨hH, hR⟩ := hh
    have hsub := sub_enumerate
    have step : ∀ {A' : Around} {E : Value → Shared → Prop} {Q : Value → Shared → Prop}, Q (.ref hp.objs.size) ⟨hp.push o, g, d, tk, os⟩ → wpAny (model prog w) A' (pyIter v) Q E ⟨hp, g, d, tk, os⟩ :=
      fun q => B.iter prog w _ _ ⟨hp, g, d, tk, os⟩ _ hH q
    wp_walk using step
    refine wpAny_stack_any fun st => wpAny_pure ?_
    split
    · rename_i cc _ _ _ _ _
      cases (cc == Value.type "enumerate") <;>
      · wp_walk using step
        exact ⟨_, rfl, hR⟩
    · wp_walk using step
      exact ⟨_, rfl, hR⟩
theorem enum_begins1 {prog : Program} {w : World} {A : Around} {E : Value → Shared → Prop} {s : Shared} {v : Value} {o : Obj} {H : Heap → Prop} {Q : Value → Shared → Prop} (B : Begins v o H) (h1 : H s.heap)
    (k : ∀ h', IsEnum h' (s.heap.objs.size + 1) s.heap.objs.size 0 .none → h'.get? s.heap.objs.size = some o → (∀ b ob, s.heap.get? b = some ob → h'.get? b = some ob) → Q (.ref (s.heap.objs.size + 1)) { s with heap := h' }) :
    wpAny (model prog w) A (call (.type "enumerate") [v]) Q E s := by
  refine callType_new F.called_enumerate (by decide) (F.typeCall_enumerate_1 _) (F.newCall_enumerate_1 _) (fun obj => F.args_object_init_2 obj _) F.entry_enumerate_new (enum_new1 B) ⟨h1, ?_⟩
  have hz : (s.heap.push o).objs.size = s.heap.objs.size + 1 := Heap.size_push ..
  show _ ∧ _
  rw [hz]
  have he := Heap.get?_push_size (s.heap.push o) (o := { cls := .type "enumerate", data := .fields #[.none, .bool false, .ref s.heap.objs.size, rawInt 0, .none, .none] }) rfl
  rw [hz] at he
  exact ⟨⟨_, he, rfl⟩, k _ he (Heap.get?_push_of_some _ (Heap.get?_push_size _ B.free)) fun b ob x => Heap.get?_push_of_some _ (Heap.get?_push_of_some _ x)⟩
def iEnS (K : PySem.W.Frag) (ta : TA) : TI := fun σ H R => ta σ H fun vs H1 => ∃ src xs, vs = [src.v] ∧ Src.At K H1 src xs ∧ R (ItE K src) H1
def iZpS (K : PySem.W.Frag) (ta : TA) : TI := fun σ H R => ta σ H fun vs H1 => ∃ s1 s2 xs ys, vs = [s1.v, s2.v] ∧ Src.At K H1 s1 xs ∧ Src.At K H1 s2 ys ∧ R (ItZ K s1 s2) H1
section
variable {X : Cx} {Γ : List Cell} {e e2 : Expr} {ta : TA} {p pos tpos : Pos} {elts : List Expr} {kk : Nat} {d d2 : D} {ds ds2 : List D}
theorem pi_enS (hg : Gl X "enumerate") (hm : NoMg X "enumerate") (ha : PA X [e] ta) (hs : starEach [e] X.env = [(false, eval e X.env)] := by rfl) :
    PI X (.Tuple elts kk tpos) (.Call (.Name "enumerate" p) [e] [] pos) (iEnS X.K ta) := by
  refine ⟨fun pins s σ H R I h => ?_⟩
  refine Call_ (ld_blt I hg hm boot_enumerate (PyProof.Rows.callWith_type1 (thn (ha.run pos pins s σ H _ I h) fun us s1 ⟨vs, H1, I1, r1, q1⟩ => ?_) hs rfl))
  obtain ⟨src, xs, rfl, hq, q⟩ := q1
  obtain ⟨u, rfl, ru⟩ := vals1 r1
  obtain ⟨tk, rfl⟩ := Src.rel ru
  obtain ⟨Q, B, hQ⟩ := Src.begins I1 hq tk
  refine enum_begins1 B hQ fun h' he hit hk => wpAny_pyIter_enum he ?_
  have I2 : Inv X pins σ H1 { s1 with heap := h' } := I1.kept (t' := s1.toks) hk
  refine ⟨s1.heap.objs.size + 1, [s1.heap.objs.size + 1, s1.heap.objs.size], _, _, H1, rfl, I2, turn_enumS (tk := tk) (s1.heap.objs.size + 1) s1.heap.objs.size, ⟨⟨.none, he⟩, Src.It.zero hit, Nat.succ_ne_self _⟩, fun b hb => ?_, q⟩
  have e' : b = s1.heap.objs.size + 1 ∨ b = s1.heap.objs.size := by simpa using hb
  have hle : s1.heap.objs.size ≤ b := by
    rcases e' with z | z <;> rw [z]
    · exact Nat.le_add_right _ _
    · exact Nat.le_refl _
  exact I1.fpOk hle (I1.hok.fresh hle)
theorem pi_zpS (hg : Gl X "zip") (hm : NoMg X "zip") (ha : PA X [e, e2] ta)
    (hs : starEach [e, e2] X.env = (false, eval e X.env) :: starEach [e2] X.env := by rfl) (hpl : (backTo pos (starEach [e2] X.env)).any (·.1) = false := by rfl) :
    PI X (.Tuple elts kk tpos) (.Call (.Name "zip" p) [e, e2] [] pos) (iZpS X.K ta) := by
  refine ⟨fun pins s σ H R I h => ?_⟩
  refine Call_ (ld_blt I hg hm PyProof.Rows.boot_zip (PyProof.Rows.callWith_type1 (thn (ha.run pos pins s σ H _ I h) fun us s1 ⟨vs, H1, I1, r1, q1⟩ => ?_) hs hpl))
  obtain ⟨sa, sb, xs, ys, rfl, hqx, hqy, q⟩ := q1
  cases r1 with
  | cons r rr =>
    obtain ⟨u2, rfl, r2⟩ := vals1 rr
    obtain ⟨tk, rfl⟩ := Src.rel r
    obtain ⟨tk2, rfl⟩ := Src.rel r2
    obtain ⟨Q1, B1, h1⟩ := Src.begins I1 hqx tk
    obtain ⟨Q2, B2, h2⟩ := Src.begins I1 hqy tk2
    refine zip_begins2 B1 B2 h1 h2 fun h' hz hTI hTO g1 g2 hsz hk => wpAny_pyIter_zip hz ?_
    have I2 : Inv X pins σ H1 { s1 with heap := h' } := I1.kept (t' := s1.toks) hk
    have ap : ∀ {i j : Nat}, i ≠ j → (s1.heap.objs.size + i : Nat) ≠ s1.heap.objs.size + j := fun h => by omega
    refine ⟨s1.heap.objs.size + 4, [s1.heap.objs.size + 4, s1.heap.objs.size + 2, s1.heap.objs.size + 3, s1.heap.objs.size, s1.heap.objs.size + 1], _, _, H1, rfl, I2,
      turn_zipS (tk := tk) (tk2 := tk2) (ap (by decide)) (ap (by decide)) (ap (by decide)) (ap (i := 2) (j := 0) (by decide)) (ap (by decide)) (ap (i := 0) (j := 4) (by decide)) (ap (by decide)) (ap (i := 3) (j := 0) (by decide)) (ap (by decide)) (ap (i := 0) (j := 1) (by decide)),
      ⟨hz, hTI, ⟨_, _, hTO⟩, Src.It.zero g1, Src.It.zero g2⟩, fun c hcm => ?_, q⟩
    have e' : c = s1.heap.objs.size + 4 ∨ c = s1.heap.objs.size + 2 ∨ c = s1.heap.objs.size + 3 ∨ c = s1.heap.objs.size ∨ c = s1.heap.objs.size + 1 := by simpa using hcm
    have hle : s1.heap.objs.size ≤ c := by
      rcases e' with z | z | z | z | z <;> rw [z] <;> first | exact Nat.le_add_right _ _ | exact Nat.le_refl _
    exact I1.fpOk hle (I1.hok.fresh hle)
/-- d is what ds stand in -/
inductive SrcD : D → List D → Prop
  | l (ds : List D) : SrcD (.list ds) ds
  | t (ds : List D) : SrcD (.tuple ds) ds
  | s (x : Str) : SrcD (.str x) (signs x)
theorem SrcD.at {K : PySem.W.Frag} {Hd : Hp} {v : V} (q : SrcD d ds) (i : Is K Hd v d) : ∃ src xs, v = Src.v src ∧ IsAll K Hd xs ds ∧ ∀ H, Ex Hd H → Src.At K H src xs := by
  cases q with
  | l => cases i with | lst t al => exact ⟨.l _, _, rfl, al, fun H e => Evl.ex_l e t⟩
  | t => cases i with | tup t al => exact ⟨.t _, _, rfl, al, fun H e => Evl.ex_t e t⟩
  | s x =>
    cases i
    refine ⟨.s x, sgs x, rfl, ?_, fun H e => rfl⟩
    unfold sgs signs
    induction x.cps.toList with
    | nil => exact .nil
    | cons c cs ih => exact .cons (.str _) ih
theorem di_enS (hg : Gl X "enumerate") (hm : NoMg X "enumerate") (h : DE X Γ e d) (sd : SrcD d ds) (hs : starEach [e] X.env = [(false, eval e X.env)] := by rfl) :
    DI X Γ (.Tuple elts kk tpos) (.Call (.Name "enumerate" p) [e] [] pos) (ds.mapIdx fun i d => .tuple [.int (i : Nat), d]) :=
  ⟨_, pi_enS hg hm pa_w hs, fun σ Hd H Q r k => da_cons (es := []) h da_nil hs σ Hd H _ r fun vs Hd1 H1 s1 i1 => by
    obtain ⟨v, rfl, iv⟩ := all1 i1
    obtain ⟨src, xs, rfl, al, ax⟩ := sd.at iv
    refine ⟨src, xs, rfl, ax _ s1.s, k _ Hd1 H1 s1 fun i Hd2 H2 e1 e2 => ⟨fun dd hd => ?_, fun hn => ⟨xs, ax _ (e1.trans e2), ?_⟩⟩⟩
    · rw [List.getElem?_mapIdx] at hd
      obtain ⟨d', hd', rfl⟩ := Option.map_eq_some_iff.mp hd
      obtain ⟨w, h1, h2⟩ := al.get hd'
      refine ⟨⟨xs, w, ax _ (e1.trans e2), h1⟩, fun y H3 hy => ?_⟩
      obtain ⟨T, x, rfl, hT, rfl, hx⟩ := hy
      have z := hx _ (ax _ (e1.trans e2))
      rw [h1] at z; cases z
      exact ⟨upd Hd2 T _, Stp.newD e2 hT, .tup (.inl (.inl upd_same)) (.cons (.int _) (.cons (h2.mono (e1.trans (Ex.new (ex_none e2 hT)))) .nil))⟩
    · rw [al.len, hn]; simp⟩
theorem di_zpS (hg : Gl X "zip") (hm : NoMg X "zip") (ha : DE X Γ e d) (hb : DE X Γ e2 d2) (sa : SrcD d ds) (sb : SrcD d2 ds2)
    (hs : starEach [e, e2] X.env = (false, eval e X.env) :: starEach [e2] X.env := by rfl) (hs2 : starEach [e2] X.env = (false, eval e2 X.env) :: starEach [] X.env := by rfl) (hpl : (backTo pos (starEach [e2] X.env)).any (·.1) = false := by rfl) :
    DI X Γ (.Tuple elts kk tpos) (.Call (.Name "zip" p) [e, e2] [] pos) ((ds.zip ds2).map fun q => .tuple [q.1, q.2]) :=
  ⟨_, pi_zpS hg hm pa_w hs hpl, fun σ Hd H Q r k => da_cons ha (da_cons hb da_nil hs2) hs σ Hd H _ r fun vs Hd1 H1 s1 i1 => by
    obtain ⟨v, v', rfl, iv, iw⟩ := all2 i1
    obtain ⟨s1', xs, rfl, a1, ax⟩ := sa.at iv
    obtain ⟨s2', ys, rfl, a2, ay⟩ := sb.at iw
    refine ⟨s1', s2', xs, ys, rfl, ax _ s1.s, ay _ s1.s, k _ Hd1 H1 s1 fun i Hd2 H2 e1 e2 => ⟨fun dd hd => ?_, fun hn => ⟨xs, ys, ax _ (e1.trans e2), ay _ (e1.trans e2), ?_⟩⟩⟩
    · rw [List.getElem?_map] at hd
      obtain ⟨⟨x, y⟩, hxy, rfl⟩ := Option.map_eq_some_iff.mp hd
      obtain ⟨hx, hy⟩ := List.getElem?_zip_eq_some.mp hxy
      obtain ⟨u1, g1, g2⟩ := a1.get hx
      obtain ⟨u2, g3, g4⟩ := a2.get hy
      refine ⟨⟨_, _, u1, u2, ax _ (e1.trans e2), ay _ (e1.trans e2), g1, g3⟩, fun z H3 hz => ?_⟩
      obtain ⟨T, x', y', rfl, hT, rfl, f1, f2⟩ := hz
      have z1 := f1 _ (ax _ (e1.trans e2))
      have z2 := f2 _ (ay _ (e1.trans e2))
      rw [g1] at z1; rw [g3] at z2; cases z1; cases z2
      have m := e1.trans (Ex.new (o := .tup [u1, u2]) (ex_none e2 hT))
      exact ⟨upd Hd2 T _, Stp.newD e2 hT, .tup (.inl (.inl upd_same)) (.cons (g2.mono m) (.cons (g4.mono m) .nil))⟩
    · rw [a1.len, a2.len, hn]; simp⟩
end
/-- the stores of a pair -/
def two (j k : Nat) : D → List (Nat × D)
  | .tuple [a, b] => [(j, a), (k, b)]
  | _ => []
theorem en_some {ds : List D} {i : Nat} {d : D} (h : (ds.mapIdx fun i d => PyData.tuple [.int (i : Nat), d])[i]? = some d) : ∃ y, ds[i]? = some y ∧ d = .tuple [.int (i : Nat), y] := by
  rw [List.getElem?_mapIdx] at h
  obtain ⟨y, hy, rfl⟩ := Option.map_eq_some_iff.mp h
  exact ⟨y, hy, rfl⟩
theorem zp_some {ds es : List D} {i : Nat} {d : D} (h : ((ds.zip es).map fun q => PyData.tuple [q.1, q.2])[i]? = some d) : ∃ x y, ds[i]? = some x ∧ es[i]? = some y ∧ d = .tuple [x, y] := by
  rw [List.getElem?_map] at h
  obtain ⟨⟨x, y⟩, hxy, rfl⟩ := Option.map_eq_some_iff.mp h
  obtain ⟨hx, hy⟩ := List.getElem?_zip_eq_some.mp hxy
  exact ⟨x, y, hx, hy, rfl⟩
def DV (X : Cx) (Γ : List Cell) (e : Expr) (d : D) : Prop := ∀ σ Hd H (Q : VK), Rl X.K Γ σ Hd H → (∀ v Hd' H', Stp Hd H Hd' H' → Is X.K H' v d → Q v H') → wE X e σ H Q
section
variable {X : Cx} {Γ : List Cell} {a b : Expr} {x y d : D} {ds : List D} {p pos : Pos}
theorem DE.v (h : DE X Γ a d) : DV X Γ a d := fun σ Hd H Q r k => h σ Hd H Q r fun v Hd' H' s i => k v Hd' H' s (i.mono s.s)
theorem DL.v (h : DL X Γ a ds) : DV X Γ a (.list ds) := fun σ Hd H Q r k => h σ Hd H Q r fun l vs Hd' H' s h1 i => k _ Hd' H' s (.lst (SqL.of h1) (i.mono s.s))
theorem dc_eqV (hu : Roomy X) (ha : DV X Γ a x) (hb : DV X Γ b y) (h1 : SeqAt.shaped x = true) (h2 : SeqAt.shaped y = true) : DC X Γ .Eq a b (PyData.eqv x y) :=
  fun σ Hd H Q r k => wC_of (op_eqD hu) (ha σ Hd H _ r fun v Hd1 H1 s1 i1 => hb σ Hd1 H1 _ (r.stp s1) fun u Hd2 H2 s2 i2 =>
    ⟨x, y, (i1.mono s2.h).dp (SeqAt.canLay_of_shaped h1), i2.dp (SeqAt.canLay_of_shaped h2), h1, h2, k Hd2 H2 (s1.trans s2)⟩)
theorem dc_neV (hu : Roomy X) (ha : DV X Γ a x) (hb : DV X Γ b y) (h1 : SeqAt.shaped x = true) (h2 : SeqAt.shaped y = true) : DC X Γ .NotEq a b (!PyData.eqv x y) :=
  fun σ Hd H Q r k => wC_of (op_neD hu) (ha σ Hd H _ r fun v Hd1 H1 s1 i1 => hb σ Hd1 H1 _ (r.stp s1) fun u Hd2 H2 s2 i2 =>
    ⟨x, y, (i1.mono s2.h).dp (SeqAt.canLay_of_shaped h1), i2.dp (SeqAt.canLay_of_shaped h2), h1, h2, k Hd2 H2 (s1.trans s2)⟩)
theorem de_isiV {T : Str} {S : String} {m : Bool} (hg : Gl X "isinstance") (hm : NoMg X "isinstance") (hgT : Gl X T) (hmT : X.mg T = none) (hvT : bootBuiltins T = some (.type S)) (ha : DV X Γ a d) (hk : kitB (tyS d) S = some m ∧ noDict d = true) (hnT : T ≠ "__name__" := by decide) (hdT : (T == ("__debug__" : Str)) = false := by decide)
    (hs : starEach [a, .Name T p] X.env = (false, eval a X.env) :: starEach [.Name T p] X.env := by rfl) (hs2 : starEach [.Name T p] X.env = (false, eval (.Name T p) X.env) :: starEach [] X.env := by rfl) (hpl : (backTo pos (starEach [.Name T p] X.env)).any (·.1) = false := by rfl) {p2 : Pos} :
    DE X Γ (.Call (.Name "isinstance" p2) [a, .Name T p] [] pos) (.bool m) := fun σ Hd H Q r k =>
  wE_of (pe_callB call_isi hg hm (by decide +kernel) (pa_cons pe_w (pa_cons (pe_bltn (v := .ty S) hgT hmT hvT rfl hnT hdT) pa_nil hs2) hs) (by decide) (by decide) hs hpl) (ha σ Hd H _ r fun v Hd1 H1 s1 i1 =>
    ⟨v, .ty S, .type (tyS d), .type S, m, rfl, .ty S, i1.tyx hk.2, kit_ty hk.1, k _ Hd1 H1 s1 (.bl _)⟩)
end
end Hf

namespace Hf
open PySem PySem.Spec PyProof.Rows L2
open Evl (Ex)
/-- the error at a, as a value -/
abbrev dPtr (a : Addr) : D := .dict [(.bool true, .int (a : Nat))]
/-- a class of one's own over ValueError, without __init__ -/
structure Ecl (K : PySem.W.Frag) (mg : Str → Option Value) (x : Str) (C : Addr) : Prop where
  q : ∃ bm, ExcBaseFacts "ValueError" "ValueError.__new__" "ValueError.__init__" bm ∧ PySem.W.excIn K C bm "ValueError.__new__" = true
  g : mg x = some (.ref C)
  k : PySem.W.keepIn K (.ref C) = true
  b : PySem.W.subIn K (.ref C) (.type "BaseException") = some true
  t : PySem.W.typeIn K (.ref C) = some (.type "type")
section
variable {X : Cx} {Γ : List Cell} {A : AD} {rest : List Stmt} {pos pos2 p p2 : Pos} {x m : Str} {j : Nat} {C : Addr}
theorem ds_raiseOwn (hc : X.calm = true) (e : Ecl X.K X.mg x C) (hg : Gl X x) (h : A.ex C [] Γ) (hdb : (x == ("__debug__" : Str)) = false := by decide) : DS X Γ (.Raise (some (.Call (.Name x p) [.Constant (.str m) j p2] [] pos)) none pos2 :: rest) A := by
  obtain ⟨bm, F, q⟩ := e.q
  exact ds_raise hc (L2N.pmk_own F q e.g e.k (raises_own e.b e.t) hg hdb) h
end
/-- the way out: the error (C, fs), the slots as they are -/
def DX (X : Cx) (Γ : List Cell) (e : Expr) (C : Addr) (fs : List (Str × D)) : Prop := ∀ Hs H0 Hb, L2N.Takes X (AD.W X.K Hs H0 Hb fun C' fs' Γ' => C' = C ∧ fs' = fs ∧ Γ' = Γ) → ∀ σ Hd H (Q : VK), R X.K Hs H0 Hb Γ σ Hd H → wE X e σ H Q
section
variable {X : Cx} {Γ : List Cell} {A : AD} {rest : List Stmt} {pos p : Pos} {x y : Str} {C : Addr} {fs : List (Str × D)} {e : Expr} {es : List Expr} {ds : List D} {k i : Nat} {S : List D → Res → Prop}
theorem ExcIs.fld {K : PySem.W.Frag} {Hs H0 Hb Hd Hd1 H H1 H2 : Hp} {σ : St} {d : Option Addr} (r : R K Hs H0 Hb Γ σ Hd H) (s : Stp Hd H Hd1 H1) (h : ExcIs K Hd1 H1 fs d H2) : ∃ Hd2, R K Hs H0 Hb Γ σ Hd2 H2 ∧ FldD K H0 Hd2 H2 fs d := by
  have r1 := r.stp s
  rcases h with ⟨h1, h2, Hd2, s2⟩ | ⟨h0, dd, vs, Hd2, h1, s2, h2, h3, h4, h5⟩
  · exact ⟨Hd2, r1.stp s2, .inl ⟨h1, h2⟩⟩
  · exact ⟨Hd2, r1.stp s2, .inr ⟨h0, dd, vs, h1, ex_none r1.e.h h2, h3, h4, h5⟩⟩
/-- f(..) that raises -/
theorem dx_call (h : Has X.prog X.w X.K X.mg X.base x k S) (hr : Room k X.A) (hg : Gl X x) (ha : DA X Γ (e :: es) ds) (hs : S ds (.exc C fs)) (hdb : (x == ("__debug__" : Str)) = false := by decide)
    (he : starEach (e :: es) X.env = (false, eval e X.env) :: starEach es X.env := by rfl) (hpl : (backTo pos (starEach es X.env)).any (·.1) = false := by rfl) : DX X Γ (.Call (.Name x p) (e :: es) [] pos) C fs := fun Hs H0 Hb tk σ Hd H Q r => by
  obtain ⟨f, fd, ps, F, hm, hk, hb⟩ := h.ok
  refine wE_of (pe_callS F hr hg hm hk hb (fun σ => L2N.passAt tk σ) pa_w hdb he hpl) (ha σ Hd H _ r.l fun vs Hd1 H1 s1 i1 => ?_)
  refine ⟨Hd1, ds, .exc C fs, s1.s, i1, hs, fun d H2 w => ?_⟩
  obtain ⟨Hd2, r2, q⟩ := w.fld r s1
  exact ⟨C, fs, Γ, Hd2, rfl, ⟨rfl, rfl, rfl⟩, r2, q⟩
theorem DX.take {Hs H0 Hb : Hp} (h : DX X Γ e C fs) (tk : L2N.Takes X (AD.W X.K Hs H0 Hb A.ex)) (q : A.ex C fs Γ) {σ : St} {Hd H : Hp} {Q : VK} (r : R X.K Hs H0 Hb Γ σ Hd H) : wE X e σ H Q :=
  h Hs H0 Hb (tk.imp fun c d σ H ⟨C', fs', G, Hx, e1, ⟨e2, e3, e4⟩, e5, e6⟩ => by subst e2 e3 e4; exact ⟨C', fs', G, Hx, e1, q, e5, e6⟩) σ Hd H Q r
theorem ds_retX (h : DX X Γ e C fs) (q : A.ex C fs Γ) : DS X Γ (.Return (some e) pos :: rest) A := fun Hs H0 Hb tk σ Hd H r => wSs_cons (wS_of (ps_ret pe_w) (h.take tk q r))
theorem ds_setX (h : DX X Γ e C fs) (hp : PS X (.Assign [.Name y p] e pos) (tAsg (wE X e) (gName i))) (q : A.ex C fs Γ) : DS X Γ (.Assign [.Name y p] e pos :: rest) A := fun Hs H0 Hb tk σ Hd H r => wSs_cons (wS_of hp (h.take tk q r))
theorem ds_exprX (h : DX X Γ e C fs) (q : A.ex C fs Γ) (hs : swapsWith e none pos.line X.env = pure false := by rfl) : DS X Γ (.Expr e pos :: rest) A := fun Hs H0 Hb tk σ Hd H r => wSs_cons (wS_of (ps_expr pe_w hs) (h.take tk q r))
end
structure HotE (Y : Cx) (a : Addr) (c : Value) : Prop where
  ex : ∃ oe : Obj, (a, oe) ∈ Y.pn ∧ Y.A.handled = some (.ref a) ∧ L2N.Zn c none oe ∧ ∃ vs, oe.data = .fields vs
section
variable {X : Cx} {Γ : List Cell} {A : AD} {rest body suite : List Stmt} {b₀ : Stmt} {pos pos' np : Pos} {x n : Str} {c : Value} {i : Nat}
theorem ds_try (HX : Addr → List (Str × D) → List Cell → Prop) (hs : X.stack = X.env :: X.outer) (hf : X.env.frame = some X.env.locals) (hN : X.N.Nodup) (hi : X.N[i]? = some n) (hln : X.env.kindOf n = some .local) (hc : Names X x c)
    (hb : ∀ (pn : List (Addr × Obj)) (xe : Value → Shared → Prop), DS (X.tr pn xe) Γ body { A with nx := fun Γ' => DS X Γ' rest A, ex := HX })
    (hsu : ∀ C fs Γ', HX C fs Γ' → fs = [] ∧ PySem.W.exmOne X.K (.ref C) c = some true ∧ ∀ (a : Addr) (oe : Obj) (pn : List (Addr × Obj)), HotE (X.suite a ((a, oe) :: pn)) a (.ref C) →
      DS (X.suite a ((a, oe) :: pn)) (Γ'.set i (.d (dPtr a))) (b₀ :: suite) { nx := fun Γ2 => DS X (Γ2.set i .no) rest A, rt := A.rt, bk := fun Γ2 => A.bk (Γ2.set i .no), ct := fun Γ2 => A.ct (Γ2.set i .no) }) :
    DS X Γ (.Try body [.ExceptHandler (some (.Name x np)) (some n) (b₀ :: suite) pos'] [] [] pos :: rest) A := fun Hs H0 Hb tk σ Hd H r => by
  refine wSs_cons (wS_of (L2N.ps_try_as (i := i) (tb := fun W D σ H => ∀ (pn : List (Addr × Obj)) (xe : Value → Shared → Prop), L2N.Takes (X.tr pn xe) W → wSs (X.tr pn xe) body D σ H)
    (ts := fun a cls d D σ H => ∀ (oe : Obj) (pn : List (Addr × Obj)), L2N.Zn cls d oe → (∃ vs, oe.data = .fields vs) → wSs (X.suite a ((a, oe) :: pn)) (b₀ :: suite) D σ H)
    hs hf hN hi hln hc tk (fun W pn xe tkW _ => ⟨fun pins s σ H D I h => h pn xe tkW pins s I⟩) (fun a oe cls d pn hz hd => ⟨fun pins s σ H D I h => h oe pn hz hd pins s I⟩)) ?_)
  intro pn xe tkW
  refine wSs_of (X := X.tr pn xe) (sts := body) pss_w ?_
  have tk2 : L2N.Takes (X.tr pn xe) (AD.W (X.tr pn xe).K Hs H0 Hb HX) := tkW.imp fun cls d σ' H' ⟨C, fs, Γ', Hd', e1, e2, r', e4⟩ => by
    subst e1
    obtain ⟨rfl, hm, q⟩ := hsu C fs Γ' e2
    refine ⟨true, hm, fun _ a ha oe pn2 hz hd => ?_, fun z => nomatch z⟩
    rcases e4 with ⟨_, rfl⟩ | ⟨h0, _⟩
    · have hot : HotE (X.suite a ((a, oe) :: pn2)) a (.ref C) := ⟨oe, List.mem_cons_self, rfl, hz, hd⟩
      have h := q a oe pn2 hot Hs H0 Hb (fun u s' ⟨_, _, _, _, _, _, _, _, _, _, _, _, _, _, _, _, C2, _, _, _, _, z, _⟩ => z.elim) _ Hd' H' (r'.setD (.ptr a))
      intro pins s I
      refine thn (h pins s I) fun f s2 z => ?_
      cases f with
      | next =>
        obtain ⟨σ2, H2, I2, Γ2, Hd2, r2, z2⟩ := z
        exact ⟨σ2, H2, I2, z2 Hs H0 Hb tk _ Hd2 H2 r2.setNo⟩
      | brk =>
        obtain ⟨σ2, H2, I2, Γ2, Hd2, r2, z2⟩ := z
        exact ⟨σ2, H2, I2, _, Hd2, r2.setNo, z2⟩
      | cont =>
        obtain ⟨σ2, H2, I2, Γ2, Hd2, r2, z2⟩ := z
        exact ⟨σ2, H2, I2, _, Hd2, r2.setNo, z2⟩
      | ret v => exact z
    · exact absurd rfl h0
  intro pins s I
  refine thn (hb pn xe Hs H0 Hb tk2 σ Hd H r pins s I) fun f s2 z => ?_
  cases f with
  | next =>
    obtain ⟨σ2, H2, I2, Γ2, Hd2, r2, z2⟩ := z
    exact ⟨σ2, H2, I2, z2 Hs H0 Hb tk σ2 Hd2 H2 r2⟩
  | brk => exact z
  | cont => exact z
  | ret v => exact z
end
theorem is_ptr {K : PySem.W.Frag} {H : Hp} {v : V} {a : Addr} (h : Is K H v (dPtr a)) : v = .ref a := by
  generalize e : dPtr a = d at h
  cases h with
  | dic _ kv =>
    cases kv with
    | nil => cases e
    | @cons k _ _ _ _ _ _ =>
      cases k <;> · exact absurd e (by simp [kD])
  | obj _ => exact absurd e (by simp)
  | ptr b =>
    simp only [PyData.dict.injEq, List.cons.injEq, Prod.mk.injEq, PyData.int.injEq, and_true, true_and] at e
    have e2 : a = b := Int.ofNat.inj e
    rw [e2]
  | _ => cases e
section
variable {Y : Cx} {Γ : List Cell} {a D : Addr} {x n : Str} {p p2 p3 pos : Pos} {k : Nat} {m : Bool} {cv : Value}
theorem call_isH (h : HotE Y a (.ref D)) (C : ExcC Y.K D) : CallR Y (.builtin "isinstance") (rIsE Y.K D a) := by
  intro pins s σ H xs us Q I r q
  obtain ⟨c, cv, b, rfl, hcv, e, q⟩ := q
  obtain ⟨u1, u2, rfl, ra, rc⟩ : ∃ u1 u2, us = [u1, u2] ∧ RelV (.ref a) u1 ∧ RelV c u2 := by
    cases r with
    | cons r1 r' =>
      cases r' with
      | cons r2 r'' => cases r''; exact ⟨_, _, rfl, r1, r2⟩
  obtain rfl := hcv _ rc
  cases ra
  obtain ⟨oe, hp, _, hz, vs, hv⟩ := h.ex
  have hget := (I.pin (a, oe) (List.mem_append_left _ hp)).1
  have J : PySem.W.InstAt s.heap a oe D none := by
    have hc := hz.1
    have hdd := hz.2.1
    cases oe with
    | mk oc od oda osl =>
      simp only at hc hdd hv
      subst hc hdd hv
      exact ⟨hget, rfl, rfl, trivial⟩
  exact PySem.W.kia_one (PySem.W.handS_kitx_exc C.hg C.hk C.hs C.hd C.ha C.hn C.ht C.hm) I.kIn J e (fun z => nomatch z) fun t => ⟨.bl b, H, I.kept (t' := t) fun _ _ w => w, rfl, q⟩
/-- isinstance(e, C), C a class of the program -/
theorem de_isH {C : Addr} (h : HotE Y a (.ref D)) (T : ExcC Y.K D) (hg : Gl Y "isinstance") (hm : NoMg Y "isinstance") (ha : DE Y Γ (.Name n p) (dPtr a)) (hgC : Gl Y x) (gC : Y.mg x = some (.ref C)) (hk : PySem.W.kitOne Y.K (.ref D) (.ref C) = some m) (hdb : (x == ("__debug__" : Str)) = false := by decide)
    (hs : starEach [.Name n p, .Name x p2] Y.env = (false, eval (.Name n p) Y.env) :: starEach [.Name x p2] Y.env := by rfl) (hs2 : starEach [.Name x p2] Y.env = (false, eval (.Name x p2) Y.env) :: starEach [] Y.env := by rfl) (hpl : (backTo pos (starEach [.Name x p2] Y.env)).any (·.1) = false := by rfl) :
    DE Y Γ (.Call (.Name "isinstance" p3) [.Name n p, .Name x p2] [] pos) (.bool m) := fun σ Hd H Q r q =>
  wE_of (pe_callB (call_isH h T) hg hm (by decide +kernel) (pa_cons pe_w (pa_cons (pe_glob (v := .ref C) hgC gC rfl hdb) pa_nil hs2) hs) (by decide) (by decide) hs hpl) (ha σ Hd H _ r fun v Hd1 H1 s1 i1 => by
    rw [is_ptr i1]
    exact ⟨.ref C, .ref C, m, rfl, fun u hu => hu, hk, q _ Hd1 H1 s1 (.bl _)⟩)
/-- isinstance(e, ValueError) -/
theorem de_isHB {T : Str} {S : String} (h : HotE Y a (.ref D)) (E : ExcC Y.K D) (hg : Gl Y "isinstance") (hm : NoMg Y "isinstance") (ha : DE Y Γ (.Name n p) (dPtr a)) (hgT : Gl Y T) (hmT : Y.mg T = none) (hvT : bootBuiltins T = some (.type S)) (hk : PySem.W.kitOne Y.K (.ref D) (.type S) = some m) (hnT : T ≠ "__name__" := by decide) (hdT : (T == ("__debug__" : Str)) = false := by decide)
    (hs : starEach [.Name n p, .Name T p2] Y.env = (false, eval (.Name n p) Y.env) :: starEach [.Name T p2] Y.env := by rfl) (hs2 : starEach [.Name T p2] Y.env = (false, eval (.Name T p2) Y.env) :: starEach [] Y.env := by rfl) (hpl : (backTo pos (starEach [.Name T p2] Y.env)).any (·.1) = false := by rfl) :
    DE Y Γ (.Call (.Name "isinstance" p3) [.Name n p, .Name T p2] [] pos) (.bool m) := fun σ Hd H Q r q =>
  wE_of (pe_callB (call_isH h E) hg hm (by decide +kernel) (pa_cons pe_w (pa_cons (pe_bltn (v := .ty S) hgT hmT hvT rfl hnT hdT) pa_nil hs2) hs) (by decide) (by decide) hs hpl) (ha σ Hd H _ r fun v Hd1 H1 s1 i1 => by
    rw [is_ptr i1]
    exact ⟨.ty S, .type S, m, rfl, fun u hu => hu, hk, q _ Hd1 H1 s1 (.bl _)⟩)
end
open L2H (RoomH Hot1 PinOk HotC cxH inv_startH)
/-- what the def promises there: S tells of the error's place and class, and of the arguments -/
structure FnP (P : Program) (w : World) (K : PySem.W.Frag) (mg : Str → Option Value) (base : Heap) (k : Nat) (f : Addr) (fd : FuncData) (ps : List Str) (S : Addr → Value → List D → Res → Prop) : Prop where
  len : ∀ a c ds r, S a c ds r → ds.length = ps.length
  run : ∀ (A : Around) (outer : List Env) (s : Shared) (H : Hp) (us : List Value) (vs : List V) (Q : VK) (E : XK) (a : Addr) (c : Value) (oe : Obj), RoomH k A → Hot1 A (a, oe) → PinOk outer H s (a, oe) → L2N.Zn c none oe → (∃ vs, oe.data = .fields vs) →
    Env0 P w K mg base A outer s H → BindsTo s fd ⟨us, []⟩ (ps.zip us) → Vals vs us → spF K (S a c) vs H Q E → codeAny (model P w) A (.call (.ref f) ⟨us, []⟩) (CR (L2N.CX P w) outer P w H s Q E) s
section
variable {P : Program} {w : World} {K : PySem.W.Frag} {mg : Str → Option Value} {base : Heap}
theorem ends_of {X : Cx} {Hs H : Hp} {r : Res} {Q : VK} {E : XK} {s2 : Shared} {pins : List (Addr × Obj)} (hw : ResW X.K Hs H Q E r) {fl : Flow} (q : SP X pins ((AD.ret r).ends X.K Hs H Hs) fl s2) : SP X pins { nx := fun _ H' => Q .non H', rt := Q } fl s2 := by
  cases fl with
  | next =>
    obtain ⟨σ', H', I', Γ', Hd', r', q'⟩ := q
    have q2 : r = .ok (.val .none) := q'
    subst q2
    exact ⟨σ', H', I', hw .non H' ⟨Hd', r'.e, .non⟩⟩
  | ret v =>
    obtain ⟨v', σ', H', I', rv, o, q1, q2⟩ := q
    have q3 : r = .ok o := q1
    subst q3
    exact ⟨v', σ', H', I', rv, hw v' H' q2⟩
  | brk =>
    obtain ⟨_, _, _, _, _, _, z⟩ := q
    exact z.elim
  | cont =>
    obtain ⟨_, _, _, _, _, _, z⟩ := q
    exact z.elim
theorem fnP_ok {x qual : Str} {st : Stmt} {f : Addr} {fd : FuncData} {N ps : List Str} {k : Nat} {S : Addr → Value → List D → Res → Prop} (F : Fun K x qual st f fd) (sc : FnScope N ps (defScope st)) (len : ∀ a c ds r, S a c ds r → ds.length = ps.length)
    (body : ∀ (cdv : Value) (Ar : Around) (outer : List Env) (s : Shared) (H : Hp) (E : XK) (p : Addr × Obj) (c : Value), HotE (cxH (L2N.CX P w) P w K mg base N qual (defScope st) f cdv Ar outer s H E p) p.1 c → RoomH k (Ar.deeper (envOfC qual (defScope st) s.heap.objs.size f cdv)) → ∀ ds r, S p.1 c ds r →
      DS (cxH (L2N.CX P w) P w K mg base N qual (defScope st) f cdv Ar outer s H E p) (startC N ds) (defBody st) (AD.ret r)) : FnP P w K mg base (k + 1) f fd ps S := by
  obtain ⟨oc, od, kV, doc, pm, an, cdv, ct, osl, rfl, lk, hcd⟩ := F.ex
  refine ⟨len, fun A outer s H us vs Q E a c oe hr hot hpin hz hd e0 hb rv ⟨Hs, ds, r, e, al, hs, hw⟩ => ?_⟩
  have hl : vs.length = ps.length := by rw [al.len]; exact len a c ds r hs
  have up : ∀ b o, base.get? b = some o → s.heap.get? b = some o := fun b o q => (e0.bs b o q).1
  have kin := e0.mod.kin.keeps up
  have tab : ∀ y ∈ ps.zip us, (defScope st).names.lookup y.1 = some .local ∨ ((defScope st).names.lookup y.1 = some .cell ∧ ((cellsFrom (s.heap.objs.size + 1) (defScope st).names []).lookup y.1).isSome = true) := by
    rintro ⟨n, v⟩ hy
    rcases sc.par n (List.of_mem_zip hy).1 with q | q
    · exact Or.inl q
    · exact Or.inr ⟨q, PySem.W.cellsFrom_some _ _ _ (Or.inl q)⟩
  refine codeAny_call_function hr.depth (kin _ _ lk) rfl sc.co sc.gen rfl (PySem.W.codeRec_of kin hcd) (hb _ _ _ _ (wpAny_newFunctionEnv_cells sc.kind tab fun env he s1 ic => ?_))
  subst he
  refine ⟨(e0.mod.nolimit.keeps up).keeps ic.toInCall.keep, codeAny_func ?_⟩
  let Y := cxH (L2N.CX P w) P w K mg base N qual (defScope st) f cdv A outer s H E (a, oe)
  have hotY : HotE Y a c := ⟨oe, List.mem_cons_self, hot.1, hz, hd⟩
  have tk : L2N.Takes Y (AD.W K Hs H Hs (AD.ret r).ex) := (L2N.takes_of (X := Y) (E := E) rfl rfl rfl rfl).imp fun cls d σ H' ⟨C, fs, G, Hd, e1, e2, e3, e4⟩ => by
    subst e1
    have e2' : r = .exc C fs := e2
    subst e2'
    exact hw d H' (e4.is e3.e)
  have I : Inv Y [] (L2.start N vs) H s1 := inv_startH sc hpin e0 hl rv ic
  refine wpAny_mono (thn (body cdv A outer s H E (a, oe) c hotY (hr.deeper _) ds r hs Hs H Hs tk _ Hs H (start_R e al) [] s1 I) fun fl s2 q => ends_of hw q) (fun fl s2 q => ?_) fun u s2 q => q
  have fin : ∀ {σ' : St} {H' : Hp} {v : V} {u : Value}, Inv Y [] σ' H' s2 → RelV v u → Q v H' → CE outer P w H s Q u s2 := fun {σ' H' v u} J rr qq => ⟨v, H', J.os, J.bare, J.base, J.hok, rr, qq⟩
  cases fl with
  | ret u => obtain ⟨v, σ', H', J, rr, qq⟩ := q; exact fin J rr qq
  | next => obtain ⟨σ', H', J, qq⟩ := q; exact fin (v := V.non) (u := Value.none) J rfl qq
  | brk => obtain ⟨_, _, _, z⟩ := q; exact z.elim
  | cont => obtain ⟨_, _, _, z⟩ := q; exact z.elim
structure HasP (P : Program) (w : World) (K : PySem.W.Frag) (mg : Str → Option Value) (base : Heap) (x : Str) (k : Nat) (S : Addr → Value → List D → Res → Prop) : Prop where
  ok : ∃ f fd ps, FnP P w K mg base k f fd ps S ∧ mg x = some (.ref f) ∧ PySem.W.keepIn K (.ref f) = true ∧ Binds K fd ps []
theorem HasP.mono {x : Str} {j k : Nat} {S : Addr → Value → List D → Res → Prop} (h : HasP P w K mg base x j S) (le : j ≤ k) : HasP P w K mg base x k S := by
  obtain ⟨f, fd, ps, F, a, b, c⟩ := h.ok
  exact ⟨f, fd, ps, ⟨F.len, fun A outer s H us vs Q E a c oe hr => F.run A outer s H us vs Q E a c oe (hr.mono le)⟩, a, b, c⟩
end
section
variable {X : Cx} {Γ : List Cell} {e : Expr} {es : List Expr} {d : D} {ds rs : List D} {k : Nat} {x : Str} {S : Addr → Value → List D → Res → Prop} {pos p : Pos} {a : Addr} {c : Value}
theorem callP_core (h : HasP X.prog X.w X.K X.mg X.base x k S) (hot : HotE X a c) (hr : RoomH k X.A) (hg : Gl X x) (ha : DA X Γ (e :: es) ds) {o : Out} (hs : S a c ds (.ok o)) (hdb : (x == ("__debug__" : Str)) = false) (he : starEach (e :: es) X.env = (false, eval e X.env) :: starEach es X.env)
    (hpl : (backTo pos (starEach es X.env)).any (·.1) = false) {σ : St} {Hd H : Hp} {Q : VK} (r : Rl X.K Γ σ Hd H) (q : ∀ v Hd1 H1 H2, Stp Hd H Hd1 H1 → OutIs X.K Hd1 H1 o v H2 → Q v H2) : wE X (.Call (.Name x p) (e :: es) [] pos) σ H Q := by
  obtain ⟨f, fd, ps, F, hm, hk, hb⟩ := h.ok
  intro pins s I
  refine wpAny_Call_Name_kw (ld_glob I hg hm ?_ hdb)
  refine PySem.W.callWith_K (h₀ := X.base) I.ok.mod.kin hk (thn (pa_w.run pos pins s σ H (fun vs H1 => ∃ Hd1, Stp Hd H Hd1 H1 ∧ IsAll X.K Hd1 vs ds) I (ha σ Hd H _ r fun vs Hd1 H1 s1 i1 => ⟨Hd1, s1, i1⟩)) fun us s1 ⟨vs, H1, I1, rv, Hd1, s1', i1⟩ => ⟨I1.kIn, ?_⟩) he hpl
  obtain ⟨oe, hp, hh, hz, vs0, hv⟩ := hot.ex
  have hl : us.length = ps.length := by rw [← rv.length, i1.len]; exact F.len a c ds _ hs
  have b := hb s1 us I1.kIn (by rw [List.append_nil]; exact hl)
  rw [List.append_nil] at b
  obtain ⟨g1, g2, g3, g4, g5⟩ := I1.pin (a, oe) (List.mem_append_left _ hp)
  have hpin : PinOk X.stack H1 s1 (a, oe) := ⟨g1, g2, fun hm => by
    rcases List.mem_cons.mp (I1.stkSub a hm) with z | z
    · exact g3 z
    · exact g4 z, g5⟩
  have sp : spF X.K (S a c) vs H1 Q (fun _ _ _ => False) := ⟨Hd1, ds, .ok o, s1'.s, i1, hs, fun v H2 w => q v Hd1 H1 H2 s1' w⟩
  refine wpAny_call (codeAny_mono (F.run X.A X.stack s1 H1 us vs Q (fun _ _ _ => False) a c oe hr ⟨hh, vs0, hv, hz.2.2 vs0 hv⟩ hpin hz ⟨vs0, hv⟩ I1.env0 b rv sp) fun res s2 hq => ?_)
  cases res with
  | error u =>
    obtain ⟨_, _, _, _, _, _, _, _, _, _, _, _, z⟩ := hq
    exact z.elim
  | ok fl =>
    cases fl with
    | ret u => exact I1.after hq
    | next => exact hq.elim
    | brk => exact hq.elim
    | cont => exact hq.elim
theorem de_callP (h : HasP X.prog X.w X.K X.mg X.base x k S) (hot : HotE X a c) (hr : RoomH k X.A) (hg : Gl X x) (ha : DA X Γ (e :: es) ds) (hs : S a c ds (.ok (.val d))) (hdb : (x == ("__debug__" : Str)) = false := by decide)
    (he : starEach (e :: es) X.env = (false, eval e X.env) :: starEach es X.env := by rfl) (hpl : (backTo pos (starEach es X.env)).any (·.1) = false := by rfl) : DE X Γ (.Call (.Name x p) (e :: es) [] pos) d := fun σ Hd H Q r k =>
  callP_core h hot hr hg ha hs hdb he hpl r fun v Hd1 H1 H2 s1 ⟨Hd2, s2, i2⟩ => k v Hd2 H2 (s1.trans s2) i2
theorem dn_callP (h : HasP X.prog X.w X.K X.mg X.base x k S) (hot : HotE X a c) (hr : RoomH k X.A) (hg : Gl X x) (ha : DA X Γ (e :: es) ds) (hs : S a c ds (.ok (.newL rs))) (hdb : (x == ("__debug__" : Str)) = false := by decide)
    (he : starEach (e :: es) X.env = (false, eval e X.env) :: starEach es X.env := by rfl) (hpl : (backTo pos (starEach es X.env)).any (·.1) = false := by rfl) : DN X Γ (.Call (.Name x p) (e :: es) [] pos) rs := fun σ Hd H Q r k =>
  callP_core h hot hr hg ha hs hdb he hpl r fun v Hd1 H1 H2 s1 ⟨Hd2, l, vs, e1, s2, h0, hd, h1, i2⟩ => by
    subst e1
    exact k l vs Hd2 H2 (s1.trans s2) (ex_none s1.h h0) hd h1 i2
end
theorem room_hot {X : Cx} {a : Addr} {pn : List (Addr × Obj)} {j k : Nat} (r : Room k X.A) (h : j ≤ k) : RoomH j (X.suite a pn).A := by
  have q := (L2H.roomH_of r).mono h
  exact ⟨q.dp, q.un⟩
/-- which of eighteen are 0 or j -/
def onlyB (j : Int) : List D := (List.range 18).map fun k : Nat => .bool (inD (.int (k : Int)) [.int 0, .int j])
section
variable {K : PySem.W.Frag} {D C : Addr} {b : Bool}
theorem kcls_of (i : PySem.W.isClsIn K C = true) (t : PySem.W.typeIn K (.ref C) = some (.type "type")) (s : PySem.W.subIn K (.ref D) (.ref C) = some b) : PySem.W.kitCls K (.ref D) (.ref C) = some b := by
  have i' : (PySem.W.clsIn K C).isSome = true := i
  unfold PySem.W.kitCls
  simp only [i', t]
  exact s
theorem kone_of (self : PySem.W.subIn K (.ref D) (.ref D) = some true) (i : PySem.W.isClsIn K C = true) (t : PySem.W.typeIn K (.ref C) = some (.type "type")) (s : PySem.W.subIn K (.ref D) (.ref C) = some b) : PySem.W.kitOne K (.ref D) (.ref C) = some b := by
  unfold PySem.W.kitOne
  by_cases h : D = C
  · subst h
    rw [self] at s
    cases s
    simp
  · rw [if_neg (by simpa using h)]
    exact kcls_of i t s
theorem kone_ve (s : PySem.W.subIn K (.ref D) (.type "ValueError") = some b) : PySem.W.kitOne K (.ref D) (.type "ValueError") = some b := by
  unfold PySem.W.kitOne
  rw [if_neg (by simp)]
  exact s
theorem exm_by (e : PySem.W.subIn K (.ref C) (.type "BaseException") = some true) (i : PySem.W.isClsIn K C = true) (t : PySem.W.typeIn K (.ref C) = some (.type "type")) (s : PySem.W.subIn K (.ref D) (.ref C) = some b) : PySem.W.exmOne K (.ref D) (.ref C) = some b := by
  unfold PySem.W.exmOne
  rw [if_pos (by rw [e]; rfl)]
  exact kcls_of i t s
end
end Hf

namespace Mf
open PySem Hf
def dI (n : Int) : D := .int n
abbrev dFr (q : Rat) : D := .tuple [.int q.num, .int (q.den : Int)]
/-- below 2 ^ n -/
def Bt (n : Nat) (i : Int) : Prop := i.natAbs < 2 ^ n
structure Sz (n : Nat) (q : Rat) : Prop where
  nu : q.num.natAbs < 2 ^ n
  de : q.den < 2 ^ n
theorem Bt.mono {m n : Nat} {i : Int} (h : Bt m i) (le : m ≤ n) : Bt n i := Nat.lt_of_lt_of_le h (Nat.pow_le_pow_right (by decide) le)
theorem Sz.mono {m n : Nat} {q : Rat} (h : Sz m q) (le : m ≤ n) : Sz n q := ⟨Nat.lt_of_lt_of_le h.1 (Nat.pow_le_pow_right (by decide) le), Nat.lt_of_lt_of_le h.2 (Nat.pow_le_pow_right (by decide) le)⟩
theorem Bt.log {n : Nat} {i : Int} (h : Bt n i) (hn : 0 < n) : i.natAbs.log2 < n := PySem.Flt.log2_lt_of hn h
theorem Bt.mul {m n : Nat} {i j : Int} (h : Bt m i) (g : Bt n j) : Bt (m + n) (i * j) := L2.wide_lt h g
theorem Bt.neg {n : Nat} {i : Int} (h : Bt n i) : Bt n (-i) := by unfold Bt at *; rw [Int.natAbs_neg]; exact h
theorem Bt.add {m n : Nat} {i j : Int} (h : Bt m i) (g : Bt n j) (k : Nat) (hm : m ≤ k) (hn : n ≤ k) : Bt (k + 1) (i + j) := by
  have h1 := h.mono hm
  have h2 := g.mono hn
  unfold Bt at *
  have := Int.natAbs_add_le i j
  rw [Nat.pow_succ]
  omega
theorem Bt.sub {m n : Nat} {i j : Int} (h : Bt m i) (g : Bt n j) (k : Nat) (hm : m ≤ k) (hn : n ≤ k) : Bt (k + 1) (i - j) := by
  rw [Int.sub_eq_add_neg]
  exact h.add g.neg k hm hn
theorem Bt.cast {n : Nat} {k : Nat} (h : k < 2 ^ n) : Bt n (k : Int) := by unfold Bt; simpa using h
theorem Sz.btn {n : Nat} {q : Rat} (h : Sz n q) : Bt n q.num := h.nu
theorem Sz.btd {n : Nat} {q : Rat} (h : Sz n q) : Bt n (q.den : Int) := Bt.cast h.de
theorem mul_ok {m n : Nat} {i j : Int} (h : Bt m i) (g : Bt n j) (le : m + n ≤ 100000000) : CMulB i j := by
  have a : i.natAbs.log2 < m + 1 := (h.mono (Nat.le_succ m)).log (Nat.succ_pos _)
  have b : j.natAbs.log2 < n + 1 := (g.mono (Nat.le_succ n)).log (Nat.succ_pos _)
  unfold CMulB
  omega
theorem div_ok {n : Nat} {i j : Int} (h0 : 0 < j) (g : Bt n j) (le : n ≤ 8999) : L2.CDivW i j := ⟨h0, by
  have b : j.natAbs.log2 < n + 1 := (g.mono (Nat.le_succ n)).log (Nat.succ_pos _)
  omega⟩
theorem divX_ok {n : Nat} {i j : Int} (h0 : j ≠ 0) (g : Bt n j) (le : n ≤ 8999) : CDivX i j := ⟨h0, by
  have b : j.natAbs.log2 < n + 1 := (g.mono (Nat.le_succ n)).log (Nat.succ_pos _)
  omega⟩
theorem gcd_turn (x y : Int) : Int.gcd y (x % y) = Int.gcd x y := by
  rw [Int.emod_def, Int.gcd_sub_mul_left_right, Int.gcd_comm]
/-- what fraction reckons -/
theorem fr_parts {t b by_ : Int} (hb : b ≠ 0) (hy : by_ = if b < 0 then -((Int.gcd t b : Nat) : Int) else ((Int.gcd t b : Nat) : Int)) : t.fdiv by_ = (Rat.divInt t b).num ∧ b.fdiv by_ = ((Rat.divInt t b).den : Int) := by
  have gp : 0 < Int.gcd t b := Int.gcd_pos_of_ne_zero_right t hb
  have d1 : ((Int.gcd t b : Nat) : Int) ∣ t := Int.gcd_dvd_left t b
  have d2 : ((Int.gcd t b : Nat) : Int) ∣ b := Int.gcd_dvd_right t b
  have gc : Int.gcd b t = Int.gcd t b := Int.gcd_comm b t
  rw [Rat.num_divInt, Rat.den_divInt, if_neg hb, gc]
  obtain ⟨u, hu⟩ := d1
  obtain ⟨v, hv⟩ := d2
  generalize hg : ((Int.gcd t b : Nat) : Int) = g at *
  have gp' : 0 < g := by omega
  have hgn : Int.gcd t b = g.toNat := by omega
  have e1 : b.sign * t / g = b.sign * u := by
    rw [hu, ← Int.mul_assoc, Int.mul_right_comm, Int.mul_ediv_cancel _ (by omega)]
  have e2 : ((b.natAbs / Int.gcd t b : Nat) : Int) = v.natAbs := by
    rw [hgn]
    have : b.natAbs = g.toNat * v.natAbs := by rw [hv, Int.natAbs_mul]; congr 1; omega
    rw [this, Nat.mul_div_cancel_left _ (by omega)]
  rw [e1, e2]
  by_cases hn : b < 0
  · rw [if_pos hn] at hy
    have vn : v < 0 := by
      rw [hv] at hn
      by_cases z : 0 ≤ v
      · have := Int.mul_nonneg (Int.le_of_lt gp') z; omega
      · omega
    rw [hy, Int.sign_eq_neg_one_of_neg hn]
    constructor
    · rw [hu, show g * u = (-u) * (-g) by rw [Int.neg_mul_neg, Int.mul_comm], Int.mul_fdiv_cancel _ (by omega)]; omega
    · rw [hv, show g * v = (-v) * (-g) by rw [Int.neg_mul_neg, Int.mul_comm], Int.mul_fdiv_cancel _ (by omega)]; omega
  · rw [if_neg hn] at hy
    have vn : 0 < v := by
      have hb' : 0 < b := by omega
      rw [hv] at hb'
      by_cases z : 0 < v
      · exact z
      · have := Int.mul_nonpos_of_nonneg_of_nonpos (Int.le_of_lt gp') (show v ≤ 0 by omega); omega
    rw [hy, Int.sign_eq_one_of_pos (by omega)]
    constructor
    · rw [hu, show g * u = u * g from Int.mul_comm _ _, Int.mul_fdiv_cancel _ (by omega)]; omega
    · rw [hv, show g * v = v * g from Int.mul_comm _ _, Int.mul_fdiv_cancel _ (by omega)]; omega
theorem gcd_bt {n : Nat} {t b : Int} (hb : b ≠ 0) (h : Bt n b) : Bt n ((Int.gcd t b : Nat) : Int) := by
  have := Int.gcd_le_natAbs_right t hb
  unfold Bt at *
  simp only [Int.natAbs_natCast]
  omega
theorem fr_add (q r : Rat) : Rat.divInt (q.num * r.den + r.num * q.den) (q.den * r.den) = q + r := by
  rw [Rat.add_def', show ((q.den : Int) * (r.den : Int)) = ((q.den * r.den : Nat) : Int) by simp, Rat.divInt_ofNat]
theorem fr_sub (q r : Rat) : Rat.divInt (q.num * r.den - r.num * q.den) (q.den * r.den) = q - r := by
  rw [Rat.sub_def', show ((q.den : Int) * (r.den : Int)) = ((q.den * r.den : Nat) : Int) by simp, Rat.divInt_ofNat]
theorem fr_mul (q r : Rat) : Rat.divInt (q.num * r.num) (q.den * r.den) = q * r := by
  rw [Rat.mul_def', show ((q.den : Int) * (r.den : Int)) = ((q.den * r.den : Nat) : Int) by simp, Rat.divInt_ofNat]
theorem fr_div (q r : Rat) : Rat.divInt (q.num * r.den) (q.den * r.num) = q / r := by
  rw [Rat.div_def, Rat.inv_def]
  have h : q = Rat.divInt q.num q.den := (Rat.num_divInt_den q).symm
  conv => rhs; rw [h]
  rw [Rat.divInt_mul_divInt]
theorem sz_divInt {n : Nat} {t b : Int} (h1 : Bt n t) (h2 : Bt n b) (h0 : 0 < n) : Sz n (Rat.divInt t b) := by
  constructor
  · rw [Rat.num_divInt]
    have h3 : (b.sign * t / ((Int.gcd b t : Nat) : Int)).natAbs ≤ t.natAbs := by
      refine Nat.le_trans (Int.natAbs_ediv_le_natAbs _ _) ?_
      rw [Int.natAbs_mul]
      have : b.sign.natAbs ≤ 1 := by
        rcases Int.sign_trichotomy b with h | h | h <;> rw [h] <;> decide
      exact Nat.le_trans (Nat.mul_le_mul_right _ this) (by omega)
    unfold Bt at h1
    omega
  · rw [Rat.den_divInt]
    split
    · exact Nat.one_lt_two_pow (by omega)
    · have := Nat.div_le_self b.natAbs (Int.gcd b t)
      unfold Bt at h2
      omega
theorem sz_add {m n k : Nat} {q r : Rat} (h : Sz m q) (g : Sz n r) (le : m + n + 1 ≤ k) : Sz k (q + r) := by
  rw [← fr_add]
  refine (sz_divInt (n := m + n + 1) ?_ ?_ (by omega)).mono le
  · exact (h.btn.mul g.btd).add (g.btn.mul h.btd) (m + n) (by omega) (by omega)
  · exact (h.btd.mul g.btd).mono (by omega)
theorem sz_sub {m n k : Nat} {q r : Rat} (h : Sz m q) (g : Sz n r) (le : m + n + 1 ≤ k) : Sz k (q - r) := by
  rw [← fr_sub]
  refine (sz_divInt (n := m + n + 1) ?_ ?_ (by omega)).mono le
  · exact (h.btn.mul g.btd).sub (g.btn.mul h.btd) (m + n) (by omega) (by omega)
  · exact (h.btd.mul g.btd).mono (by omega)
theorem sz_mul {m n k : Nat} {q r : Rat} (h : Sz m q) (g : Sz n r) (h0 : 0 < m + n) (le : m + n ≤ k) : Sz k (q * r) := by
  rw [← fr_mul]
  exact (sz_divInt (n := m + n) (h.btn.mul g.btn) (h.btd.mul g.btd) h0).mono le
theorem sz_int {n : Nat} {i : Int} (h : Bt n i) (h0 : 0 < n) : Sz n (i : Rat) := ⟨h, Nat.one_lt_two_pow (by omega)⟩
theorem den_pos (q : Rat) : (0 : Int) < (q.den : Int) := by have := q.den_pos; omega
theorem den_ne (q : Rat) : (q.den : Int) ≠ 0 := Int.ne_of_gt (den_pos q)
mutual
def plain : D → Bool
  | .bool _ => false
  | .dict _ => false
  | .list xs => plainAll xs
  | .tuple xs => plainAll xs
  | _ => true
def plainAll : List D → Bool
  | [] => true
  | x :: xs => plain x && plainAll xs
end
mutual
theorem eqv_iff : ∀ (a b : D), plain a = true → plain b = true → (PyData.eqv a b = true ↔ a = b)
  | .none, b, _, _ => by cases b <;> simp [PyData.eqv]
  | .bool _, _, h, _ => by simp [plain] at h
  | .int i, b, _, h => by cases b <;> simp [PyData.eqv, plain] at *
  | .str s, b, _, _ => by cases b <;> simp [PyData.eqv]
  | .dict _, _, h, _ => by simp [plain] at h
  | .list xs, b, h1, h2 => by
    cases b with
    | list ys =>
      have := eqvAll_iff xs ys (by simpa [plain] using h1) (by simpa [plain] using h2)
      simp [PyData.eqv, this]
    | _ => simp [PyData.eqv]
  | .tuple xs, b, h1, h2 => by
    cases b with
    | tuple ys =>
      have := eqvAll_iff xs ys (by simpa [plain] using h1) (by simpa [plain] using h2)
      simp [PyData.eqv, this]
    | _ => simp [PyData.eqv]
theorem eqvAll_iff : ∀ (a b : List D), plainAll a = true → plainAll b = true → (PyData.eqvAll a b = true ↔ a = b)
  | [], [], _, _ => by simp [PyData.eqvAll]
  | [], _ :: _, _, _ => by simp [PyData.eqvAll]
  | _ :: _, [], _, _ => by simp [PyData.eqvAll]
  | x :: xs, y :: ys, h1, h2 => by
    have a1 := Bool.and_eq_true_iff.mp (by simpa [plainAll] using h1)
    have a2 := Bool.and_eq_true_iff.mp (by simpa [plainAll] using h2)
    have e1 := eqv_iff x y a1.1 a2.1
    have e2 := eqvAll_iff xs ys a1.2 a2.2
    simp [PyData.eqvAll, e1, e2]
end
theorem plainAll_map {α : Type} (f : α → D) (h : ∀ x, plain (f x) = true) : ∀ xs : List α, plainAll (xs.map f) = true
  | [] => by simp [plainAll]
  | x :: xs => by simp [plainAll, h, plainAll_map f h xs]
theorem eqv_self {d : D} (h : plain d = true) : PyData.eqv d d = true := (eqv_iff d d h h).mpr rfl
theorem plain_fr (q : Rat) : plain (dFr q) = true := by simp [plain, plainAll]
theorem fr_inj {q r : Rat} : dFr q = dFr r ↔ q = r := by
  constructor
  · intro h
    simp only [PyData.tuple.injEq, List.cons.injEq, PyData.int.injEq, and_true] at h
    exact Rat.ext h.1 (by omega)
  · rintro rfl; rfl
theorem map_inj {α : Type} {f : α → D} (h : ∀ x y, f x = f y → x = y) : ∀ {xs ys : List α}, xs.map f = ys.map f → xs = ys
  | [], [], _ => rfl
  | [], _ :: _, e => by simp at e
  | _ :: _, [], e => by simp at e
  | x :: xs, y :: ys, e => by
    simp only [List.map_cons, List.cons.injEq] at e
    rw [h _ _ e.1, map_inj h e.2]
abbrev dFrs (f : List Rat) : List D := f.map dFr
theorem frs_inj {f g : List Rat} (h : dFrs f = dFrs g) : f = g := map_inj (fun _ _ => fr_inj.mp) h
/-- the depth and the signs of data: fit for == -/
def depthLe (n : Nat) (d : D) : Prop := PyData.canLay0 d = true ∧ PyData.depth d ≤ n
theorem shaped_of {d : D} {n : Nat} (h : depthLe n d) (hn : n ≤ 64) : SeqAt.shaped d = true := by
  unfold SeqAt.shaped
  rw [h.1, decide_eq_true (Nat.le_trans h.2 hn)]; rfl
theorem dl_int {n : Nat} (i : Int) (h : 1 ≤ n) : depthLe n (.int i) := ⟨rfl, by simp [PyData.depth]⟩
theorem canLayAll_of : ∀ {ds : List D}, (∀ d ∈ ds, PyData.canLay0 d = true) → PyData.canLayAll0 ds = true
  | [], _ => by simp [PyData.canLayAll0]
  | d :: ds, h => by
    simp [PyData.canLayAll0, h d List.mem_cons_self, canLayAll_of fun x hx => h x (List.mem_cons_of_mem _ hx)]
theorem depthAll_of {n : Nat} : ∀ {ds : List D}, (∀ d ∈ ds, PyData.depth d ≤ n) → PyData.depthAll ds ≤ n
  | [], _ => by simp [PyData.depthAll]
  | d :: ds, h => by
    have h1 := h d List.mem_cons_self
    have h2 := depthAll_of fun x hx => h x (List.mem_cons_of_mem _ hx)
    simp only [PyData.depthAll]
    omega
theorem dl_tup {n : Nat} {ds : List D} (h : ∀ d ∈ ds, depthLe n d) : depthLe (n + 1) (.tuple ds) := ⟨by
  simp only [PyData.canLay0]
  exact canLayAll_of fun d hd => (h d hd).1, by
  simp only [PyData.depth]
  have := depthAll_of (n := n) fun d hd => (h d hd).2
  omega⟩
theorem dl_lst {n : Nat} {ds : List D} (h : ∀ d ∈ ds, depthLe n d) : depthLe (n + 1) (.list ds) := ⟨by
  simp only [PyData.canLay0]
  exact canLayAll_of fun d hd => (h d hd).1, by
  simp only [PyData.depth]
  have := depthAll_of (n := n) fun d hd => (h d hd).2
  omega⟩
theorem dl_fr {n : Nat} (q : Rat) (h : 2 ≤ n) : depthLe n (dFr q) := by
  obtain ⟨m, rfl⟩ : ∃ m, n = m + 1 := ⟨n - 1, by omega⟩
  refine dl_tup fun d hd => ?_
  simp only [List.mem_cons, List.not_mem_nil, or_false] at hd
  rcases hd with rfl | rfl <;> exact dl_int _ (by omega)
theorem dl_map {α : Type} {n : Nat} {f : α → D} (h : ∀ x, depthLe n (f x)) (xs : List α) : ∀ d ∈ xs.map f, depthLe n d := fun d hd => by
  obtain ⟨x, _, rfl⟩ := List.mem_map.mp hd
  exact h x
theorem sh_fr (q : Rat) : SeqAt.shaped (dFr q) = true := shaped_of (dl_fr (n := 2) q (by decide)) (by decide)
theorem sh_frsT (f : List Rat) : SeqAt.shaped (.tuple (dFrs f)) = true := shaped_of (dl_tup (dl_map (fun q => dl_fr (n := 2) q (by decide)) f)) (by decide)
theorem sh_frsL (f : List Rat) : SeqAt.shaped (.list (dFrs f)) = true := shaped_of (dl_lst (dl_map (fun q => dl_fr (n := 2) q (by decide)) f)) (by decide)
theorem sh_frsLL (f : List (List Rat)) : SeqAt.shaped (.list (f.map fun g => .list (dFrs g))) = true := shaped_of (dl_lst (dl_map (fun g => dl_lst (dl_map (fun q => dl_fr (n := 2) q (by decide)) g)) f)) (by decide)
theorem eqv_fr (q r : Rat) : PyData.eqv (dFr q) (dFr r) = decide (q = r) := by
  rw [Bool.eq_iff_iff, eqv_iff _ _ (plain_fr q) (plain_fr r), fr_inj, decide_eq_true_eq]
theorem eqv_frsT (f g : List Rat) : PyData.eqv (.tuple (dFrs f)) (.tuple (dFrs g)) = decide (f = g) := by
  rw [Bool.eq_iff_iff, eqv_iff _ _ (by simpa [plain] using plainAll_map _ plain_fr f) (by simpa [plain] using plainAll_map _ plain_fr g), decide_eq_true_eq]
  constructor
  · intro h; exact frs_inj (PyData.tuple.inj h)
  · rintro rfl; rfl
theorem eqv_frsL (f g : List Rat) : PyData.eqv (.list (dFrs f)) (.list (dFrs g)) = decide (f = g) := by
  rw [Bool.eq_iff_iff, eqv_iff _ _ (by simpa [plain] using plainAll_map _ plain_fr f) (by simpa [plain] using plainAll_map _ plain_fr g), decide_eq_true_eq]
  constructor
  · intro h; exact frs_inj (PyData.list.inj h)
  · rintro rfl; rfl
theorem Bt.lit {n : Nat} {i : Int} (h : i.natAbs < 2 ^ n) : Bt n i := h
theorem de_frI {X : L2.Cx} {Γ : List Cell} {e : Expr} {i : Int} {j x1 : Nat} {p pos : Pos} (h : DE X Γ e (.int i)) (hs : starEach [e, .Constant (.int 1) j p] X.env = (false, eval e X.env) :: starEach [.Constant (.int 1) j p] X.env := by rfl) : DE X Γ (.Tuple [e, .Constant (.int 1) j p] x1 pos) (dFr (i : Rat)) := (de_tup (da_cons h (da_cons de_int da_nil) hs) (Nat.le_of_ble_eq_true rfl)).of rfl
theorem at_map {α : Type} {f : α → D} {xs : List α} {k : Int} {n : Nat} {x : α} (hk : k = (n : Int)) (hx : xs[n]? = some x) : L2.atI (xs.map f) k = some (f x) := by
  rw [hk]
  exact L2.atI_nat (by rw [List.getElem?_map, hx]; rfl)
theorem at_ints {xs : List Int} {k : Int} {n : Nat} {x : Int} (hk : k = (n : Int)) (hx : xs[n]? = some x) : L2.atI (xs.map PyData.int) k = some (.int x) := at_map hk hx
theorem plain_frsT (f : List Rat) : plain (.tuple (dFrs f)) = true := by simpa [plain] using plainAll_map _ plain_fr f
theorem plain_frsL (f : List Rat) : plain (.list (dFrs f)) = true := by simpa [plain] using plainAll_map _ plain_fr f
theorem plain_LL (f g : List Rat) : plain (.list [.list (dFrs f), .list (dFrs g)]) = true := by
  have a := plain_frsL f
  have b := plain_frsL g
  simp only [plain, plainAll] at *
  simp [a, b]
theorem sh_LL (f g : List Rat) : SeqAt.shaped (.list [.list (dFrs f), .list (dFrs g)]) = true := sh_frsLL [f, g]
end Mf

namespace Mf
open PySem Hf
def trim : List Rat → List Rat
  | [] => []
  | a :: f => if trim f = [] then (if a = 0 then [] else [a]) else a :: trim f
theorem trim_snoc0 : ∀ f : List Rat, trim (f ++ [0]) = trim f
  | [] => by simp [trim]
  | a :: f => by
    show trim (a :: (f ++ [0])) = trim (a :: f)
    unfold trim
    rw [trim_snoc0 f]
theorem trim_snoc {a : Rat} (h : a ≠ 0) : ∀ f : List Rat, trim (f ++ [a]) = f ++ [a]
  | [] => by simp [trim, h]
  | b :: f => by
    show trim (b :: (f ++ [a])) = b :: (f ++ [a])
    unfold trim
    rw [trim_snoc h f, if_neg (by simp)]
theorem trim_get : ∀ (f : List Rat) (k : Nat), (trim f).getD k 0 = f.getD k 0
  | [], _ => by simp [trim]
  | a :: f, k => by
    unfold trim
    have ih := trim_get f
    by_cases h : trim f = []
    · rw [if_pos h]
      have z : ∀ k, f.getD k 0 = 0 := fun k => by rw [← ih, h]; rfl
      by_cases ha : a = 0
      · rw [if_pos ha]
        cases k with
        | zero => simp [ha]
        | succ k => have := z k; simpa using this.symm
      · rw [if_neg ha]
        cases k with
        | zero => simp
        | succ k => have := z k; simpa using this.symm
    · rw [if_neg h]
      cases k with
      | zero => simp
      | succ k => simpa using ih k
theorem trim_ext : ∀ {f g : List Rat}, (∀ k, f.getD k 0 = g.getD k 0) → trim f = trim g
  | [], [], _ => rfl
  | [], b :: g, h => by
    have h0 : b = 0 := by simpa using (h 0).symm
    have e : trim g = trim [] := (trim_ext (f := []) (g := g) fun k => by simpa using h (k + 1)).symm
    have e' : trim g = [] := e
    show [] = trim (b :: g)
    unfold trim
    rw [if_pos e', if_pos h0]
  | a :: f, [], h => by
    have h0 : a = 0 := by simpa using (h 0)
    have e' : trim f = [] := trim_ext (f := f) (g := []) fun k => by simpa using h (k + 1)
    show trim (a :: f) = []
    unfold trim
    rw [if_pos e', if_pos h0]
  | a :: f, b :: g, h => by
    have h0 : a = b := by simpa using h 0
    have e : trim f = trim g := trim_ext fun k => by simpa using h (k + 1)
    unfold trim
    rw [e, h0]
theorem trim_trim (f : List Rat) : trim (trim f) = trim f := trim_ext (trim_get f)
theorem trim_len : ∀ f : List Rat, (trim f).length ≤ f.length
  | [] => Nat.le_refl _
  | a :: f => by
    unfold trim
    have := trim_len f
    split
    · split <;> simp
    · simp; omega
theorem trim_sub : ∀ (f : List Rat) (q : Rat), q ∈ trim f → q ∈ f
  | [], q, h => h
  | a :: f, q, h => by
    unfold trim at h
    have ih := trim_sub f q
    split at h
    · split at h
      · cases h
      · simp at h; simp [h]
    · simp at h
      rcases h with h | h
      · simp [h]
      · simp [ih h]
theorem trim_last {f : List Rat} (h : trim f = f) {a : Rat} (g : f.getLast? = some a) : a ≠ 0 := by
  intro z
  subst z
  obtain ⟨l, rfl⟩ := List.getLast?_eq_some_iff.mp g
  rw [trim_snoc0] at h
  have := trim_len l
  rw [h] at this
  simp at this
  omega
/-- one number less at the end -/
theorem trim_take {f : List Rat} {m : Nat} (h : f[m]? = some 0) : trim (f.take (m + 1)) = trim (f.take m) := by
  rw [List.take_add_one, h]
  exact trim_snoc0 _
theorem trim_stop {f : List Rat} {m : Nat} {a : Rat} (h : f[m]? = some a) (ha : a ≠ 0) : trim (f.take (m + 1)) = f.take (m + 1) := by
  rw [List.take_add_one, h]
  exact trim_snoc ha _
theorem cut_take {α : Type} (xs : List α) (m : Nat) (h : m ≤ xs.length) : cutD xs none (some (m : Int)) = xs.take m := by
  unfold cutD
  rw [HT.sIx_none, HT.sIx_nat]
  simp [Nat.min_eq_left h]
theorem cut_drop {α : Type} (xs : List α) (m : Nat) (h : m ≤ xs.length) : cutD xs (some (m : Int)) none = xs.drop m := by
  unfold cutD
  rw [HT.sIx_none, HT.sIx_nat, Nat.min_eq_left h]
  apply List.take_of_length_le
  simp
abbrev dPo (f : List Rat) : D := .tuple (dFrs f)
def cAdd (f g : List Rat) : List Rat := (List.range (max f.length g.length)).map fun k => f.getD k 0 + g.getD k 0
def cSub (f g : List Rat) : List Rat := (List.range (max f.length g.length)).map fun k => f.getD k 0 - g.getD k 0
def pAdd (f g : List Rat) : List Rat := trim (cAdd f g)
def pSub (f g : List Rat) : List Rat := trim (cSub f g)
def SzA (n : Nat) (f : List Rat) : Prop := ∀ q ∈ f, Sz n q
theorem SzA.mono {m n : Nat} {f : List Rat} (h : SzA m f) (le : m ≤ n) : SzA n f := fun q hq => (h q hq).mono le
theorem SzA.trim {n : Nat} {f : List Rat} (h : SzA n f) : SzA n (trim f) := fun q hq => h q (trim_sub f q hq)
theorem sz0 {n : Nat} (h : 0 < n) : Sz n 0 := ⟨Nat.pow_pos (by decide), Nat.one_lt_two_pow (by omega)⟩
theorem SzA.get {n : Nat} {f : List Rat} (h : SzA n f) (h0 : 0 < n) (k : Nat) : Sz n (f.getD k 0) := by
  rw [List.getD_eq_getElem?_getD]
  cases e : f[k]? with
  | none => exact sz0 h0
  | some q => exact h q (List.mem_of_getElem? e)
theorem getD_range_map {n : Nat} {f : Nat → Rat} {k : Nat} : ((List.range n).map f).getD k 0 = if k < n then f k else 0 := by
  rw [List.getD_eq_getElem?_getD, List.getElem?_map]
  by_cases h : k < n
  · rw [List.getElem?_range h, if_pos h]; rfl
  · rw [List.getElem?_eq_none (by simpa using h), if_neg h]; rfl
theorem getD_ge {f : List Rat} {k : Nat} (h : f.length ≤ k) : f.getD k 0 = 0 := by
  rw [List.getD_eq_getElem?_getD, List.getElem?_eq_none h]; rfl
theorem cAdd_get (f g : List Rat) (k : Nat) : (cAdd f g).getD k 0 = f.getD k 0 + g.getD k 0 := by
  unfold cAdd
  rw [getD_range_map]
  split
  · rfl
  · rw [getD_ge (f := f) (by omega), getD_ge (f := g) (by omega)]; grind
theorem cSub_get (f g : List Rat) (k : Nat) : (cSub f g).getD k 0 = f.getD k 0 - g.getD k 0 := by
  unfold cSub
  rw [getD_range_map]
  split
  · rfl
  · rw [getD_ge (f := f) (by omega), getD_ge (f := g) (by omega)]; grind
theorem pSub_self (f : List Rat) : pSub f f = [] := by
  have : trim (cSub f f) = trim [] := trim_ext fun k => by rw [cSub_get]; simp [Rat.sub_self]
  exact this
theorem cAdd_sz {m n k : Nat} {f g : List Rat} (h : SzA m f) (h' : SzA n g) (h0 : 0 < m) (h1 : 0 < n) (le : m + n + 1 ≤ k) : SzA k (cAdd f g) := fun q hq => by
  obtain ⟨i, _, rfl⟩ := List.mem_map.mp hq
  exact sz_add (h.get h0 i) (h'.get h1 i) le
theorem cSub_sz {m n k : Nat} {f g : List Rat} (h : SzA m f) (h' : SzA n g) (h0 : 0 < m) (h1 : 0 < n) (le : m + n + 1 ≤ k) : SzA k (cSub f g) := fun q hq => by
  obtain ⟨i, _, rfl⟩ := List.mem_map.mp hq
  exact sz_sub (h.get h0 i) (h'.get h1 i) le
theorem cAdd_len (f g : List Rat) : (cAdd f g).length = max f.length g.length := by simp [cAdd]
theorem cSub_len (f g : List Rat) : (cSub f g).length = max f.length g.length := by simp [cSub]
theorem getD_at {f : List Rat} {k : Nat} (h : k < f.length) : f[k]? = some (f.getD k 0) := by rw [List.getD_eq_getElem?_getD, List.getElem?_eq_getElem h]; rfl
theorem get_frs {f : List Rat} {k : Nat} (h : k < f.length) : L2.atI (dFrs f) (k : Int) = some (dFr (f.getD k 0)) := at_map rfl (by rw [List.getD_eq_getElem?_getD, List.getElem?_eq_getElem h]; rfl)
theorem cutD_len {α : Type} (xs : List α) (a b : Option Int) : (cutD xs a b).length ≤ xs.length := by
  unfold cutD
  rw [List.length_take, List.length_drop]
  omega
theorem flat_rep {α : Type} (x : α) : ∀ n : Nat, (List.replicate n [x]).flatten = List.replicate n x
  | 0 => rfl
  | n + 1 => by rw [List.replicate_succ, List.flatten_cons, flat_rep x n]; rfl
/-- turns of a loop that tells a list -/
theorem map_range_succ {α : Type} (f : Nat → α) (n : Nat) : (List.range (n + 1)).map f = (List.range n).map f ++ [f n] := by rw [List.range_succ, List.map_append]; rfl
end Mf

namespace Mf
open PySem Hf
theorem mul_sm {i j : Int} (h : -(10 ^ 90 : Int) < i ∧ i < 10 ^ 90) (g : -(10 ^ 90 : Int) < j ∧ j < 10 ^ 90) : CMulB i j := by
  have a : Bt 300 i := by unfold Bt; omega
  have b : Bt 300 j := by unfold Bt; omega
  exact mul_ok a b (by decide)
theorem div_sm {i j : Int} (g : 0 < j ∧ j < 10 ^ 90) : L2.CDivW i j := by
  have b : Bt 300 j := by unfold Bt; omega
  exact div_ok g.1 b (by decide)
def vCell (ns : List Int) (k : Int) : Int := ns.getD k.toNat 0
def vMix (c k : Int) : Int := c % 10000000000000000000000000000000000000000 + 1 + 13 * k + 7 * k * k
def vLow (c k : Int) : Int := vMix c k * 48271 % 2147483647 * 69621 % 1000000007
def vStir (c k : Int) : Int := vLow c k + 1000000007 * (vMix c k * vLow c k * 2862933555777941757 % (1000000000000000000000000000000 + 57))
def gdiv (g : Int) : Nat → Int
  | 0 => g
  | n + 1 => gdiv g n / 1000000000000000000000000000000000000000000000000000000000000
def vDrawn (ns : List Int) (k : Int) : Int :=
  if vCell ns 0 % 2 = 1 ∧ 10000000000000000000000000000000000000000 ≤ vCell ns 1 then gdiv (vCell ns 1) k.toNat % 1000000000000000000000000000000000000000000000000000000000000 else vStir (vCell ns k) k
theorem vMix_bd {c k : Int} (h0 : 0 ≤ k) (h1 : k ≤ 1000) : 0 < vMix c k ∧ vMix c k ≤ 10000000000000000000000000000000000000000 + 8000000 := by
  have a : 0 ≤ k * k := Int.mul_nonneg h0 h0
  have b : k * k ≤ 1000 * 1000 := Int.mul_le_mul h1 h1 h0 (by decide)
  have e : 7 * k * k = 7 * (k * k) := Int.mul_assoc _ _ _
  unfold vMix
  rw [e]
  generalize k * k = z at *
  omega
theorem vLow_bd (c k : Int) : 0 ≤ vLow c k ∧ vLow c k < 1000000007 := by
  unfold vLow
  omega
theorem vStir_bd (c k : Int) : 0 ≤ vStir c k ∧ vStir c k < 10 ^ 60 := by
  have h := vLow_bd c k
  unfold vStir
  generalize vMix c k * vLow c k * 2862933555777941757 = z
  generalize vLow c k = l at *
  omega
theorem vDrawn_bd (ns : List Int) (k : Int) : 0 ≤ vDrawn ns k ∧ vDrawn ns k < 10 ^ 60 := by
  unfold vDrawn
  split
  · omega
  · exact vStir_bd _ _
theorem dz (a : Int) {b : Int} (h : 0 ≤ a) (g : 0 < b) : 0 ≤ a / b ∧ a / b ≤ a := by
  constructor
  · exact Int.ediv_nonneg h (by omega)
  · exact Int.ediv_le_self _ h
theorem low_parts {t b : Int} (hb : 0 < b) : t / ((Int.gcd t b : Nat) : Int) = (Rat.divInt t b).num ∧ b / ((Int.gcd t b : Nat) : Int) = ((Rat.divInt t b).den : Int) := by
  have := fr_parts (t := t) (b := b) (by omega) (by_ := ((Int.gcd t b : Nat) : Int)) (by rw [if_neg (by omega)])
  rw [Int.fdiv_eq_ediv_of_nonneg _ (by omega), Int.fdiv_eq_ediv_of_nonneg _ (by omega)] at this
  exact this
theorem sz_low {t b : Int} (ht : -(10 ^ 29 + 1 : Int) < t ∧ t < (10 ^ 29 + 1)) (hb : -(10 ^ 29 + 1 : Int) < b ∧ b < (10 ^ 29 + 1)) : Sz 97 (Rat.divInt t b) := sz_divInt (by unfold Bt; omega) (by unfold Bt; omega) (by decide)
theorem sz_small {t : Int} (ht : -(10 ^ 29 + 1 : Int) < t ∧ t < (10 ^ 29 + 1)) : Sz 97 (t : Rat) := sz_int (by unfold Bt; omega) (by decide)
theorem vNum_aux {c m : Int} (h : 0 ≤ c) (hm : 0 < m) : 0 ≤ c % m ∧ c % m < m := ⟨Int.emod_nonneg _ (by omega), Int.emod_lt_of_pos _ hm⟩
def vNum (c : Int) : Rat :=
  if c % 4 = 0 then ((c / 4 % 9 - 4 : Int) : Rat)
  else if c % 4 = 1 then Rat.divInt (c / 4 % 41 - 20) (1 + c / 164 % 12)
  else if c % 4 = 2 then Rat.divInt (c / 4 % 1999999 - 999999) (1 + c / 7 % 12)
  else Rat.divInt (c / 4 % (2 * 100000000000000000000000000000 + 1) - 100000000000000000000000000000) (1 + c / 11 % 100000000000000000000000000000)
theorem vNum_sz (c : Int) : Sz 97 (vNum c) := by
  unfold vNum
  split
  · exact sz_small ⟨by omega, by omega⟩
  · split
    · exact sz_low ⟨by omega, by omega⟩ ⟨by omega, by omega⟩
    · split
      · exact sz_low ⟨by omega, by omega⟩ ⟨by omega, by omega⟩
      · exact sz_low ⟨by omega, by omega⟩ ⟨by omega, by omega⟩
def vRaw (ns : List Int) (first : Int) (k : Nat) : Rat :=
  vNum (if 2 < k ∧ vDrawn ns (first + k) / 3 % 4 = 3 then vDrawn ns (first + k) / 3 - 2 else vDrawn ns (first + k) / 3)
def vBase (ns : List Int) (first : Int) (many : Nat) : List Rat := (List.range many).map (vRaw ns first)
def vPo1 (ns : List Int) (first : Int) (many : Nat) (way : Int) : List Rat := if way % 3 = 1 then (vBase ns first many).map (fun q => ((q.num % 3 : Int) : Rat)) else vBase ns first many
def vPoly (ns : List Int) (first : Int) (many : Nat) (way : Int) : List Rat :=
  if way % 3 = 2 then (vPo1 ns first many way).take (many / 2) ++ List.replicate (many - many / 2) 0 else vPo1 ns first many way
theorem vBase_len (ns : List Int) (first : Int) (many : Nat) : (vBase ns first many).length = many := by simp [vBase]
theorem vPo1_len (ns : List Int) (first : Int) (many : Nat) (way : Int) : (vPo1 ns first many way).length = many := by
  unfold vPo1; split <;> simp [vBase_len]
theorem vPoly_len (ns : List Int) (first : Int) (many : Nat) (way : Int) : (vPoly ns first many way).length = many := by
  unfold vPoly
  split
  · simp [vPo1_len]; omega
  · exact vPo1_len _ _ _ _
theorem vBase_sz (ns : List Int) (first : Int) (many : Nat) : SzA 97 (vBase ns first many) := fun q hq => by
  obtain ⟨i, _, rfl⟩ := List.mem_map.mp hq
  exact vNum_sz _
theorem vPo1_sz (ns : List Int) (first : Int) (many : Nat) (way : Int) : SzA 97 (vPo1 ns first many way) := by
  unfold vPo1
  split
  · intro q hq
    obtain ⟨x, _, rfl⟩ := List.mem_map.mp hq
    exact sz_small ⟨by omega, by omega⟩
  · exact vBase_sz _ _ _
theorem vPoly_s (ns : List Int) (first : Int) (many : Nat) (way : Int) : SzA 97 (vPoly ns first many way) := by
  unfold vPoly
  split
  · intro q hq
    rcases List.mem_append.mp hq with h | h
    · exact vPo1_sz _ _ _ _ q (List.mem_of_mem_take h)
    · rw [List.eq_of_mem_replicate h]; exact sz0 (by decide)
  · exact vPo1_sz _ _ _ _
theorem vPoly_sz (ns : List Int) (first : Int) (many : Nat) (way : Int) : SzA 200 (vPoly ns first many way) := (vPoly_s ns first many way).mono (by decide)
theorem at_lastD {f : List Rat} (h : f ≠ []) : L2.atI (dFrs f) (-1) = some (dFr (f.getLast h)) := by
  have e : dFrs f = (f.dropLast.map dFr) ++ [dFr (f.getLast h)] := by
    conv => lhs; rw [← List.dropLast_concat_getLast h]
    simp
  rw [e]
  exact L2.atI_last _ _
theorem trim_last' {f : List Rat} (ht : trim f = f) (h : f ≠ []) : f.getLast h ≠ 0 := trim_last ht (List.getLast?_eq_some_getLast h)
theorem last_getD {f : List Rat} (h : f ≠ []) : f.getD (f.length - 1) 0 = f.getLast h := by
  rw [List.getLast_eq_getElem, List.getD_eq_getElem?_getD, List.getElem?_eq_getElem (by have := List.length_pos_iff.mpr h; omega)]; rfl
theorem at_lastG {f : List Rat} (h : f ≠ []) : L2.atI (dFrs f) (-1) = some (dFr (f.getD (f.length - 1) 0)) := by rw [last_getD h]; exact at_lastD h
theorem trim_lastG {f : List Rat} (ht : trim f = f) (h : f ≠ []) : f.getD (f.length - 1) 0 ≠ 0 := by rw [last_getD h]; exact trim_last' ht h
theorem SzA.neg {n : Nat} {f : List Rat} (h : SzA n f) (k : Nat) : SzA n (f.take k ++ (f.drop k).map (fun q => -q)) := fun q hq => by
  rcases List.mem_append.mp hq with z | z
  · exact h q (List.mem_of_mem_take z)
  · obtain ⟨x, hx, rfl⟩ := List.mem_map.mp z
    have := h x (List.mem_of_mem_drop hx)
    exact ⟨by rw [Rat.neg_num, Int.natAbs_neg]; exact this.nu, this.de⟩
theorem cut_neg (one : List Rat) {kk : Nat} (lk : kk ≤ one.length) : cutD (dFrs one) none (some (kk : Int)) ++ dFrs ((one.drop kk).map (fun q => -q)) = dFrs (one.take kk ++ (one.drop kk).map (fun q => -q)) := by
  rw [cut_take _ _ (by simp; omega)]
  simp
theorem frs_snoc (f : List Rat) (q : Rat) : dFrs (f ++ [q]) = dFrs f ++ [dFr q] := by simp
theorem gcd_fr (q : Rat) : Int.gcd q.num (q.den : Int) = 1 := by
  have := q.reduced
  simpa [Int.gcd, Nat.Coprime] using this
theorem num_ne {q : Rat} (h : q ≠ 0) : q.num ≠ 0 := fun z => h (Rat.num_eq_zero.mp z)
end Mf

namespace Mf
open PySem Hf
def SS : Nat → (Nat → Rat) → Rat
  | 0, _ => 0
  | n + 1, F => SS n F + F n
theorem SS_ext {F G : Nat → Rat} : ∀ {n : Nat}, (∀ i, i < n → F i = G i) → SS n F = SS n G
  | 0, _ => rfl
  | n + 1, h => by
    show SS n F + F n = SS n G + G n
    rw [SS_ext (n := n) fun i hi => h i (by omega), h n (by omega)]
theorem SS_zero {F : Nat → Rat} : ∀ {n : Nat}, (∀ i, i < n → F i = 0) → SS n F = 0
  | 0, _ => rfl
  | n + 1, h => by
    show SS n F + F n = 0
    rw [SS_zero (n := n) fun i hi => h i (by omega), h n (by omega)]
    grind
theorem SS_add (F G : Nat → Rat) : ∀ n : Nat, SS n (fun i => F i + G i) = SS n F + SS n G
  | 0 => by simp [SS] <;> grind
  | n + 1 => by
    show SS n (fun i => F i + G i) + (F n + G n) = (SS n F + F n) + (SS n G + G n)
    rw [SS_add F G n]
    grind
theorem SS_mul (c : Rat) (F : Nat → Rat) : ∀ n : Nat, SS n (fun i => c * F i) = c * SS n F
  | 0 => by simp [SS]
  | n + 1 => by
    show SS n (fun i => c * F i) + c * F n = c * (SS n F + F n)
    rw [SS_mul c F n]
    grind
theorem SS_front (F : Nat → Rat) : ∀ n : Nat, SS (n + 1) F = F 0 + SS n (fun i => F (i + 1))
  | 0 => by simp [SS]; grind
  | n + 1 => by
    show SS (n + 1) F + F (n + 1) = F 0 + (SS n (fun i => F (i + 1)) + F (n + 1))
    rw [SS_front F n]
    grind
theorem SS_rev (F : Nat → Rat) : ∀ n : Nat, SS (n + 1) F = SS (n + 1) (fun i => F (n - i))
  | 0 => rfl
  | n + 1 => by
    rw [SS_front (fun i => F (n + 1 - i)) (n + 1)]
    show SS (n + 1) F + F (n + 1) = _
    rw [SS_rev F n, SS_ext (n := n + 1) (F := fun i => F (n + 1 - (i + 1))) (G := fun i => F (n - i)) fun i _ => by rw [show n + 1 - (i + 1) = n - i by omega]]
    simp only [Nat.sub_zero]
    grind
theorem SS_more {F : Nat → Rat} {m n : Nat} (h : m ≤ n) (z : ∀ i, m ≤ i → F i = 0) : SS n F = SS m F := by
  induction n with
  | zero => rw [show m = 0 by omega]
  | succ n ih =>
    by_cases e : m = n + 1
    · rw [e]
    · show SS n F + F n = _
      rw [ih (by omega), z n (by omega)]
      grind
def cv : List Rat → List Rat → Nat → Rat
  | [], _, _ => 0
  | c :: f, g, 0 => c * g.getD 0 0
  | c :: f, g, k + 1 => c * g.getD (k + 1) 0 + cv f g k
theorem cv_SS : ∀ (f g : List Rat) (k : Nat), cv f g k = SS (k + 1) (fun i => f.getD i 0 * g.getD (k - i) 0)
  | [], g, k => by
    show (0 : Rat) = _
    rw [SS_zero]
    intro i _
    simp
  | c :: f, g, 0 => by
    show c * g.getD 0 0 = SS 0 _ + _
    simp [SS] <;> grind
  | c :: f, g, k + 1 => by
    rw [SS_front]
    show c * g.getD (k + 1) 0 + cv f g k = _
    rw [cv_SS f g k]
    have : SS (k + 1) (fun i => f.getD i 0 * g.getD (k - i) 0) = SS (k + 1) (fun i => (c :: f).getD (i + 1) 0 * g.getD (k + 1 - (i + 1)) 0) := SS_ext fun i _ => by
      rw [show k + 1 - (i + 1) = k - i by omega]; simp
    rw [this]
    simp
theorem cv_comm (f g : List Rat) (k : Nat) : cv f g k = cv g f k := by
  rw [cv_SS, cv_SS, SS_rev]
  refine SS_ext fun i hi => ?_
  rw [show k - (k - i) = i by omega]
  exact Rat.mul_comm _ _
theorem cv_addR {f g h p : List Rat} (e : ∀ k, p.getD k 0 = g.getD k 0 + h.getD k 0) (k : Nat) : cv f p k = cv f g k + cv f h k := by
  rw [cv_SS, cv_SS, cv_SS, ← SS_add]
  refine SS_ext fun i hi => ?_
  rw [e]
  grind
theorem cv_extR {f g h : List Rat} (e : ∀ k, g.getD k 0 = h.getD k 0) (k : Nat) : cv f g k = cv f h k := by
  rw [cv_SS, cv_SS]
  exact SS_ext fun i hi => by rw [e]
theorem cv_extL {f g h : List Rat} (e : ∀ k, g.getD k 0 = h.getD k 0) (k : Nat) : cv g f k = cv h f k := by rw [cv_comm, cv_extR e, cv_comm]
theorem cv_nilR (f : List Rat) (k : Nat) : cv f [] k = 0 := by rw [cv_comm]; rfl
theorem cv_snoc : ∀ (f : List Rat) (c : Rat) (g : List Rat) (k : Nat), cv (f ++ [c]) g k = cv f g k + (if f.length ≤ k then c * g.getD (k - f.length) 0 else 0)
  | [], c, g, 0 => by simp [cv] <;> grind
  | [], c, g, k + 1 => by simp [cv]; grind
  | b :: f, c, g, 0 => by simp [cv] <;> grind
  | b :: f, c, g, k + 1 => by
    show b * g.getD (k + 1) 0 + cv (f ++ [c]) g k = b * g.getD (k + 1) 0 + cv f g k + _
    rw [cv_snoc f c g k]
    simp only [List.length_cons, Nat.add_le_add_iff_right, Nat.add_sub_add_right]
    grind
theorem cv_take (f g : List Rat) (i k : Nat) (h : i < f.length) : cv (f.take (i + 1)) g k = cv (f.take i) g k + (if i ≤ k then f.getD i 0 * g.getD (k - i) 0 else 0) := by
  rw [List.take_add_one, getD_at h]
  have := cv_snoc (f.take i) (f.getD i 0) g k
  rw [List.length_take, Nat.min_eq_left (by omega)] at this
  exact this
theorem cv_ge {f g : List Rat} {k : Nat} (h : f.length + g.length ≤ k + 1) : cv f g k = 0 := by
  rw [cv_SS]
  refine SS_zero fun i hi => ?_
  by_cases h1 : f.length ≤ i
  · rw [getD_ge h1]; grind
  · rw [getD_ge (f := g) (by omega)]; grind
def cMul (f g : List Rat) : List Rat := (List.range (f.length + g.length)).map (cv f g)
theorem cMul_get (f g : List Rat) (k : Nat) : (cMul f g).getD k 0 = cv f g k := by
  unfold cMul
  rw [getD_range_map]
  split
  · rfl
  · rw [cv_ge (by omega)]
theorem cMul_len (f g : List Rat) : (cMul f g).length = f.length + g.length := by simp [cMul]
def pMul (f g : List Rat) : List Rat := trim (cMul f g)
theorem pMul_get (f g : List Rat) (k : Nat) : (pMul f g).getD k 0 = cv f g k := by rw [pMul, trim_get, cMul_get]
theorem pAdd_get (f g : List Rat) (k : Nat) : (pAdd f g).getD k 0 = f.getD k 0 + g.getD k 0 := by rw [pAdd, trim_get, cAdd_get]
theorem pSub_get (f g : List Rat) (k : Nat) : (pSub f g).getD k 0 = f.getD k 0 - g.getD k 0 := by rw [pSub, trim_get, cSub_get]
theorem pMul_comm (f g : List Rat) : pMul f g = pMul g f := trim_ext fun k => by rw [cMul_get, cMul_get, cv_comm]
theorem pMul_add (f g h : List Rat) : pMul f (pAdd g h) = pAdd (pMul f g) (pMul f h) := trim_ext fun k => by
  rw [cMul_get, cAdd_get, pMul_get, pMul_get, cv_addR (pAdd_get g h)]
theorem pMul_nil (f : List Rat) : pMul f [] = [] := by
  have : pMul f [] = trim [] := trim_ext fun k => by rw [cMul_get, cv_nilR]; rfl
  exact this
theorem pMul_len (f g : List Rat) : (pMul f g).length ≤ f.length + g.length := by
  have := trim_len (cMul f g)
  rw [cMul_len] at this
  exact this
/-- what stands after i rows and j of the next -/
def cvP (f g : List Rat) (i j k : Nat) : Rat := cv (f.take i) g k + (if i ≤ k ∧ k < i + j then f.getD i 0 * g.getD (k - i) 0 else 0)
theorem cvP_row (f g : List Rat) (i k : Nat) (h : i < f.length) : cvP f g i g.length k = cvP f g (i + 1) 0 k := by
  unfold cvP
  rw [cv_take f g i k h, if_neg (show ¬ (i + 1 ≤ k ∧ k < i + 1 + 0) by omega)]
  by_cases h1 : i ≤ k
  · by_cases h2 : k < i + g.length
    · rw [if_pos ⟨h1, h2⟩, if_pos h1]; grind
    · rw [if_neg (by omega), if_pos h1, getD_ge (f := g) (by omega)]; grind
  · rw [if_neg (by omega), if_neg h1]; grind
theorem cvP_zero (f g : List Rat) (k : Nat) : cvP f g 0 0 k = 0 := by
  unfold cvP
  rw [if_neg (by omega)]
  simp [cv] <;> grind
theorem cvP_done (f g : List Rat) (k : Nat) : cvP f g f.length 0 k = cv f g k := by
  unfold cvP
  rw [if_neg (by omega), List.take_length]
  grind
theorem cvP_next (f g : List Rat) (i j k : Nat) : cvP f g i (j + 1) k = cvP f g i j k + (if k = i + j then f.getD i 0 * g.getD j 0 else 0) := by
  unfold cvP
  by_cases h : k = i + j
  · subst h
    rw [if_pos (by omega), if_neg (by omega), if_pos rfl, show i + j - i = j by omega]; grind
  · rw [if_neg h]
    by_cases h2 : i ≤ k ∧ k < i + j
    · rw [if_pos (by omega), if_pos h2]; grind
    · rw [if_neg (by omega), if_neg h2]; grind
theorem cvP_set {f g L : List Rat} {i j : Nat} (hl : i + j < L.length) (h : ∀ k, L.getD k 0 = cvP f g i j k) (k : Nat) : (L.set (i + j) (L.getD (i + j) 0 + f.getD i 0 * g.getD j 0)).getD k 0 = cvP f g i (j + 1) k := by
  rw [cvP_next, List.getD_eq_getElem?_getD]
  by_cases e : k = i + j
  · subst e
    rw [List.getElem?_set_self hl, if_pos rfl, ← h]; rfl
  · rw [List.getElem?_set_ne (fun z => e z.symm), if_neg e, ← List.getD_eq_getElem?_getD, h]; grind
theorem trim_cv {f g L : List Rat} (h : ∀ k, L.getD k 0 = cvP f g f.length 0 k) : trim L = pMul f g := trim_ext fun k => by rw [h, cvP_done, cMul_get]
def pScale (f : List Rat) (a : Rat) : List Rat := trim (f.map (· * a))
theorem pScale_zero (f : List Rat) : pScale f 0 = [] := by
  have : pScale f 0 = trim [] := trim_ext fun k => by
    rw [List.getD_eq_getElem?_getD, List.getElem?_map]
    cases f[k]? with
    | none => rfl
    | some q => show q * 0 = _; simp
  exact this
def ev : List Rat → Rat → Rat
  | [], _ => 0
  | c :: f, a => ev f a * a + c
theorem ev_SS : ∀ (f : List Rat) (a : Rat) (n : Nat), f.length ≤ n → ev f a = SS n (fun k => f.getD k 0 * a ^ k)
  | [], a, n, _ => by
    show (0 : Rat) = _
    rw [SS_zero]; intro i _; simp
  | c :: f, a, 0, h => by simp at h
  | c :: f, a, n + 1, h => by
    rw [SS_front]
    have ih := ev_SS f a n (by simpa using h)
    have : SS n (fun i => (c :: f).getD (i + 1) 0 * a ^ (i + 1)) = a * SS n (fun k => f.getD k 0 * a ^ k) := by
      rw [← SS_mul]
      refine SS_ext fun i _ => ?_
      rw [Rat.pow_succ]
      simp
      grind
    rw [this, ← ih]
    show ev f a * a + c = (c :: f).getD 0 0 * a ^ 0 + a * ev f a
    simp [Rat.pow_zero]
    grind
theorem ev_ext {f g : List Rat} (h : ∀ k, f.getD k 0 = g.getD k 0) (a : Rat) : ev f a = ev g a := by
  rw [ev_SS f a (max f.length g.length) (by omega), ev_SS g a (max f.length g.length) (by omega)]
  exact SS_ext fun k _ => by rw [h]
theorem ev_cv : ∀ (f g : List Rat) (a : Rat) (n : Nat), f.length + g.length ≤ n → SS n (fun k => cv f g k * a ^ k) = ev f a * ev g a
  | [], g, a, n, _ => by
    rw [SS_zero (fun i _ => by simp [cv])]
    simp [ev]
  | c :: f, g, a, 0, h => by simp at h
  | c :: f, g, a, n + 1, h => by
    rw [SS_front]
    have ih := ev_cv f g a n (by simp at h; omega)
    have h1 : SS n (fun i => cv (c :: f) g (i + 1) * a ^ (i + 1)) = c * SS n (fun i => g.getD (i + 1) 0 * a ^ (i + 1)) + a * SS n (fun k => cv f g k * a ^ k) := by
      rw [← SS_mul, ← SS_mul, ← SS_add]
      refine SS_ext fun i _ => ?_
      show (c * g.getD (i + 1) 0 + cv f g i) * a ^ (i + 1) = _
      rw [Rat.pow_succ]
      grind
    have h2 := ev_SS g a (n + 1) (by simp at h; omega)
    rw [SS_front] at h2
    rw [h1, ih]
    show c * g.getD 0 0 * a ^ 0 + _ = (ev f a * a + c) * ev g a
    rw [h2]
    grind
theorem ev_pMul (f g : List Rat) (a : Rat) : ev (pMul f g) a = ev f a * ev g a := by
  rw [ev_SS (pMul f g) a (f.length + g.length) (pMul_len f g), ← ev_cv f g a _ (Nat.le_refl _)]
  exact SS_ext fun k _ => by rw [pMul_get]
theorem ev_drop {f : List Rat} {i : Nat} {a : Rat} (h : i < f.length) : ev (f.drop i) a = ev (f.drop (i + 1)) a * a + f.getD i 0 := by
  rw [List.drop_eq_getElem_cons h]
  show ev (f.drop (i + 1)) a * a + f[i] = _
  rw [List.getD_eq_getElem?_getD, List.getElem?_eq_getElem h]; rfl
/-- n of B bits over D -/
def Dv (D B : Nat) (q : Rat) : Prop := ∃ n : Int, Bt B n ∧ q = Rat.divInt n (D : Int)
theorem cast_ne {D : Nat} (h : 0 < D) : ((D : Int) : Rat) ≠ 0 := fun z => by
  have : (D : Int) = 0 := Rat.intCast_inj.mp (by rw [z]; rfl)
  omega
theorem Dv.mono {D B C : Nat} {q : Rat} (h : Dv D B q) (le : B ≤ C) : Dv D C q := let ⟨n, b, e⟩ := h; ⟨n, b.mono le, e⟩
theorem Dv.zero (D B : Nat) : Dv D B 0 := ⟨0, by unfold Bt; exact Nat.pow_pos (by decide), by simp⟩
theorem di_eq {a b : Int} : Rat.divInt a b = (a : Rat) / (b : Rat) := Rat.divInt_eq_div a b
theorem Dv.add {D B C k : Nat} {q r : Rat} (h : Dv D B q) (g : Dv D C r) (hb : B + 1 ≤ k) (hc : C + 1 ≤ k) : Dv D k (q + r) := by
  obtain ⟨n, b, rfl⟩ := h
  obtain ⟨m, c, rfl⟩ := g
  refine ⟨n + m, (Bt.add b c (k - 1) (by omega) (by omega)).mono (by omega), ?_⟩
  rw [di_eq, di_eq, di_eq]
  have : ((n + m : Int) : Rat) = (n : Rat) + (m : Rat) := by simp
  rw [this]
  grind
theorem Dv.neg {D B : Nat} {q : Rat} (h : Dv D B q) : Dv D B (-q) := by
  obtain ⟨n, b, rfl⟩ := h
  refine ⟨-n, b.neg, ?_⟩
  rw [di_eq, di_eq]
  have : ((-n : Int) : Rat) = -(n : Rat) := by simp
  rw [this]
  grind
theorem Dv.sub {D B C k : Nat} {q r : Rat} (h : Dv D B q) (g : Dv D C r) (hb : B + 1 ≤ k) (hc : C + 1 ≤ k) : Dv D k (q - r) := by
  have := h.add g.neg hb hc
  have e : q - r = q + -r := by grind
  rw [e]; exact this
theorem Dv.mul {D E B C : Nat} {q r : Rat} (h : Dv D B q) (g : Dv E C r) (hD : 0 < D) (hE : 0 < E) : Dv (D * E) (B + C) (q * r) := by
  obtain ⟨n, b, rfl⟩ := h
  obtain ⟨m, c, rfl⟩ := g
  refine ⟨n * m, b.mul c, ?_⟩
  rw [di_eq, di_eq, di_eq]
  have e1 : ((n * m : Int) : Rat) = (n : Rat) * (m : Rat) := by simp
  have e2 : (((D * E : Nat) : Int) : Rat) = ((D : Int) : Rat) * ((E : Int) : Rat) := by rw [Int.natCast_mul, Rat.intCast_mul]
  have h1 := cast_ne hD
  have h2 := cast_ne hE
  rw [e1, e2]
  grind
theorem Dv.one {D : Nat} (h : 0 < D) {A : Nat} (hA : D < 2 ^ A) : Dv D A 1 := ⟨D, Bt.cast hA, by
  rw [di_eq]
  have h1 := cast_ne h
  grind⟩
theorem Dv.wide {D E B A : Nat} {q : Rat} (h : Dv D B q) (hD : 0 < D) (hE : 0 < E) (hA : E < 2 ^ A) : Dv (D * E) (B + A) q := by
  have := h.mul (Dv.one hE hA) hD hE
  rw [Rat.mul_one] at this
  exact this
theorem Dv.sz {D B A n : Nat} {q : Rat} (h : Dv D B q) (hD : 0 < D) (hA : D < 2 ^ A) (h1 : B ≤ n) (h2 : A ≤ n) (h0 : 0 < n) : Sz n q := by
  obtain ⟨m, b, rfl⟩ := h
  exact sz_divInt (b.mono h1) ((Bt.cast hA).mono h2) h0
theorem Dv.of {n : Nat} {q : Rat} (h : Sz n q) : Dv q.den n q := ⟨q.num, h.nu, (Rat.num_divInt_den q).symm⟩
theorem lt_mul {A B D E : Nat} (h : D < 2 ^ A) (g : E < 2 ^ B) : D * E < 2 ^ (A + B) := by
  rw [Nat.pow_add]
  exact Nat.mul_lt_mul_of_lt_of_le h (Nat.le_of_lt g) (Nat.pow_pos (by decide))
/-- all numbers over one bottom of A bits, tops of B bits -/
def Pz (A B : Nat) (f : List Rat) : Prop := ∃ D, 0 < D ∧ D < 2 ^ A ∧ ∀ q ∈ f, Dv D B q
theorem Pz.mono {A B A' B' : Nat} {f : List Rat} (h : Pz A B f) (h1 : A ≤ A') (h2 : B ≤ B') : Pz A' B' f := by
  obtain ⟨D, d0, da, h⟩ := h
  exact ⟨D, d0, Nat.lt_of_lt_of_le da (Nat.pow_le_pow_right (by decide) h1), fun q hq => (h q hq).mono h2⟩
theorem Pz.sz {A B n : Nat} {f : List Rat} (h : Pz A B f) (h1 : A ≤ n) (h2 : B ≤ n) (h0 : 0 < n) : SzA n f := by
  obtain ⟨D, d0, da, h⟩ := h
  exact fun q hq => (h q hq).sz d0 da h2 h1 h0
theorem Pz.trim {A B : Nat} {f : List Rat} (h : Pz A B f) : Pz A B (trim f) := let ⟨D, d0, da, h⟩ := h; ⟨D, d0, da, fun q hq => h q (trim_sub f q hq)⟩
theorem Pz.nil {A B : Nat} (h : 0 < A) : Pz A B [] := ⟨1, by decide, Nat.one_lt_two_pow (by omega), fun q hq => nomatch hq⟩
theorem dv_get {D B : Nat} {f : List Rat} (h : ∀ q ∈ f, Dv D B q) (k : Nat) : Dv D B (f.getD k 0) := by
  rw [List.getD_eq_getElem?_getD]
  cases e : f[k]? with
  | none => exact Dv.zero D B
  | some q => exact h q (List.mem_of_getElem? e)
theorem pz_all {n : Nat} (h0 : 0 < n) : ∀ {f : List Rat}, SzA n f → Pz (n * f.length + 1) (n * f.length + 1) f
  | [], _ => Pz.nil (by omega)
  | c :: f, h => by
    obtain ⟨D, d0, da, hd⟩ := pz_all h0 (f := f) fun q hq => h q (List.mem_cons_of_mem _ hq)
    have hc := h c List.mem_cons_self
    have e : n * (c :: f).length + 1 = (n * f.length + 1) + n := by simp [Nat.mul_add]; omega
    rw [e]
    refine ⟨D * c.den, Nat.mul_pos d0 c.den_pos, lt_mul da hc.de, fun q hq => ?_⟩
    rcases List.mem_cons.mp hq with rfl | hq
    · have := (Dv.of hc).wide q.den_pos d0 da
      rw [Nat.mul_comm]
      exact this.mono (by omega)
    · exact (hd q hq).wide d0 c.den_pos hc.de
theorem Pz.add {A B A' B' : Nat} {f g : List Rat} (h : Pz A B f) (h' : Pz A' B' g) : Pz (A + A') (max (B + A') (B' + A) + 1) (pAdd f g) := by
  obtain ⟨D, d0, da, h⟩ := h
  obtain ⟨E, e0, ea, g'⟩ := h'
  refine ⟨D * E, Nat.mul_pos d0 e0, lt_mul da ea, fun q hq => ?_⟩
  obtain ⟨i, _, rfl⟩ := List.mem_map.mp (trim_sub _ q hq)
  have h2 := (dv_get g' i).wide e0 d0 da
  rw [Nat.mul_comm] at h2
  exact ((dv_get h i).wide d0 e0 ea).add h2 (by omega) (by omega)
theorem Pz.sub {A B A' B' : Nat} {f g : List Rat} (h : Pz A B f) (h' : Pz A' B' g) : Pz (A + A') (max (B + A') (B' + A) + 1) (pSub f g) := by
  obtain ⟨D, d0, da, h⟩ := h
  obtain ⟨E, e0, ea, g'⟩ := h'
  refine ⟨D * E, Nat.mul_pos d0 e0, lt_mul da ea, fun q hq => ?_⟩
  obtain ⟨i, _, rfl⟩ := List.mem_map.mp (trim_sub _ q hq)
  have h2 := (dv_get g' i).wide e0 d0 da
  rw [Nat.mul_comm] at h2
  exact ((dv_get h i).wide d0 e0 ea).sub h2 (by omega) (by omega)
theorem dv_cv {D E B C : Nat} {g : List Rat} (hD : 0 < D) (hE : 0 < E) (hg : ∀ q ∈ g, Dv E C q) : ∀ {f : List Rat}, (∀ q ∈ f, Dv D B q) → ∀ k, Dv (D * E) (B + C + f.length) (cv f g k)
  | [], _, k => Dv.zero _ _
  | c :: f, h, 0 => ((h c List.mem_cons_self).mul (dv_get hg 0) hD hE).mono (by omega)
  | c :: f, h, k + 1 => by
    have ih := dv_cv hD hE hg (f := f) (fun q hq => h q (List.mem_cons_of_mem _ hq)) k
    exact ((h c List.mem_cons_self).mul (dv_get hg (k + 1)) hD hE).add ih (by simp <;> omega) (by simp <;> omega)
theorem Pz.mul {A B A' B' : Nat} {f g : List Rat} (h : Pz A B f) (h' : Pz A' B' g) : Pz (A + A') (B + B' + f.length) (pMul f g) := by
  obtain ⟨D, d0, da, h⟩ := h
  obtain ⟨E, e0, ea, g'⟩ := h'
  refine ⟨D * E, Nat.mul_pos d0 e0, lt_mul da ea, fun q hq => ?_⟩
  obtain ⟨i, _, rfl⟩ := List.mem_map.mp (trim_sub _ q hq)
  exact dv_cv d0 e0 g' h i
theorem Pz.cvP {A B A' B' n : Nat} {f g : List Rat} (h : Pz A B f) (h' : Pz A' B' g) (hn : A + A' ≤ n) (hb : B + B' + f.length + 1 ≤ n) (i j k : Nat) : Sz n (cvP f g i j k) := by
  obtain ⟨D, d0, da, h⟩ := h
  obtain ⟨E, e0, ea, g'⟩ := h'
  have h1 := dv_cv d0 e0 g' (f := f.take i) (fun q hq => h q (List.mem_of_mem_take hq)) k
  have h2 : Dv (D * E) (B + B') (if i ≤ k ∧ k < i + j then f.getD i 0 * g.getD (k - i) 0 else 0) := by
    split
    · exact (dv_get h i).mul (dv_get g' (k - i)) d0 e0
    · exact Dv.zero _ _
  have hl : (f.take i).length ≤ f.length := by rw [List.length_take]; omega
  exact (h1.add h2 (k := n) (by omega) (by omega)).sz (Nat.mul_pos d0 e0) (lt_mul da ea) (Nat.le_refl _) hn (by omega)
theorem Pz.get {A B : Nat} {f : List Rat} (h : Pz A B f) (n : Nat) (h1 : A ≤ n) (h2 : B ≤ n) (h0 : 0 < n) (k : Nat) : Sz n (f.getD k 0) := (h.sz h1 h2 h0).get h0 k
/-- Horner's way: what stands behind i numbers -/
theorem dv_ev {D B A m : Nat} {a : Rat} (hD : 0 < D) (hA : D < 2 ^ A) (ha : Sz m a) : ∀ {f : List Rat}, (∀ q ∈ f, Dv D B q) → Dv (D * a.den ^ f.length) (B + (m + 1) * f.length) (ev f a)
  | [], _ => Dv.zero _ _
  | c :: f, h => by
    have ih := dv_ev hD hA ha (f := f) fun q hq => h q (List.mem_cons_of_mem _ hq)
    have dp : 0 < a.den ^ f.length := Nat.pow_pos a.den_pos
    have dp1 : 0 < a.den ^ (f.length + 1) := Nat.pow_pos a.den_pos
    have e1 := ih.mul (Dv.of ha) (Nat.mul_pos hD dp) a.den_pos
    rw [Nat.mul_assoc, ← Nat.pow_succ] at e1
    have lp : a.den ^ (f.length + 1) < 2 ^ (m * (f.length + 1)) := by
      rw [Nat.pow_mul]
      exact Nat.pow_lt_pow_left ha.de (by omega)
    have e2 := (h c List.mem_cons_self).wide hD dp1 lp
    have e3 : (c :: f).length = f.length + 1 := rfl
    rw [e3]
    refine e1.add e2 ?_ ?_
    · rw [Nat.mul_add]; omega
    · have : (m + 1) * (f.length + 1) = m * (f.length + 1) + (f.length + 1) := by rw [Nat.add_mul, Nat.one_mul]
      omega
theorem Pz.ev {A B m n : Nat} {a : Rat} {f : List Rat} (h : Pz A B f) (ha : Sz m a) (h1 : A + m * f.length ≤ n) (h2 : B + (m + 1) * f.length ≤ n) (h0 : 0 < n) : Sz n (ev f a) := by
  obtain ⟨D, d0, da, h⟩ := h
  have e1 := dv_ev d0 da ha h
  by_cases hf : f.length = 0
  · rw [List.length_eq_zero_iff.mp hf]; exact sz0 h0
  have lp : a.den ^ f.length < 2 ^ (m * f.length) := by
    rw [Nat.pow_mul]
    exact Nat.pow_lt_pow_left ha.de hf
  exact e1.sz (Nat.mul_pos d0 (Nat.pow_pos a.den_pos)) (lt_mul da lp) h2 h1 h0
theorem Pz.drop {A B : Nat} {f : List Rat} (h : Pz A B f) (i : Nat) : Pz A B (f.drop i) := let ⟨D, d0, da, h⟩ := h; ⟨D, d0, da, fun q hq => h q (List.mem_of_mem_drop hq)⟩
theorem Pz.take {A B : Nat} {f : List Rat} (h : Pz A B f) (i : Nat) : Pz A B (f.take i) := let ⟨D, d0, da, h⟩ := h; ⟨D, d0, da, fun q hq => h q (List.mem_of_mem_take hq)⟩
/-- the powers' way -/
theorem sz_pow {m : Nat} {a : Rat} (ha : Sz m a) : ∀ k : Nat, Sz (m * k + 1) (a ^ k)
  | 0 => by
    rw [Rat.pow_zero]
    exact ⟨show (1 : Int).natAbs < 2 ^ 1 by decide, show 1 < 2 ^ 1 by decide⟩
  | k + 1 => by
    rw [Rat.pow_succ]
    exact sz_mul (sz_pow ha k) ha (by omega) (by rw [Nat.mul_add]; omega)
/-- the sum of the first i numbers times powers -/
def evT (f : List Rat) (a : Rat) (i : Nat) : Rat := SS i (fun k => f.getD k 0 * a ^ k)
theorem evT_all (f : List Rat) (a : Rat) : evT f a f.length = ev f a := (ev_SS f a f.length (Nat.le_refl _)).symm
theorem dv_pow {m : Nat} {a : Rat} (ha : Sz m a) : ∀ k : Nat, Dv (a.den ^ k) (m * k + 1) (a ^ k)
  | 0 => by
    rw [Rat.pow_zero]
    exact Dv.one (by rw [Nat.pow_zero]; decide) (by rw [Nat.pow_zero, Nat.mul_zero]; decide)
  | k + 1 => by
    rw [Rat.pow_succ, Nat.pow_succ]
    exact ((dv_pow ha k).mul (Dv.of ha) (Nat.pow_pos a.den_pos) a.den_pos).mono (by rw [Nat.mul_add]; omega)
theorem dv_evT {D B m : Nat} {a : Rat} {f : List Rat} (hD : 0 < D) (ha : Sz m a) (h : ∀ q ∈ f, Dv D B q) : ∀ i : Nat, Dv (D * a.den ^ i) (B + (m + 2) * i + 1) (evT f a i)
  | 0 => Dv.zero _ _
  | i + 1 => by
    have e1 := (dv_evT hD ha h i).wide (Nat.mul_pos hD (Nat.pow_pos a.den_pos)) a.den_pos ha.de
    rw [Nat.mul_assoc, ← Nat.pow_succ] at e1
    have e2 := ((dv_get h i).mul (dv_pow ha i) hD (Nat.pow_pos a.den_pos)).wide (Nat.mul_pos hD (Nat.pow_pos a.den_pos)) a.den_pos ha.de
    rw [Nat.mul_assoc, ← Nat.pow_succ] at e2
    have e3 : (m + 2) * (i + 1) = m * i + m + 2 * i + 2 := by rw [Nat.mul_add, Nat.add_mul]; omega
    have e4 : (m + 2) * i = m * i + 2 * i := Nat.add_mul ..
    exact e1.add e2 (by omega) (by omega)
theorem Pz.evT {A B m n : Nat} {a : Rat} {f : List Rat} (h : Pz A B f) (ha : Sz m a) (i : Nat) (h1 : A + m * i + 1 ≤ n) (h2 : B + (m + 2) * i + 1 ≤ n) : Sz n (evT f a i) := by
  obtain ⟨D, d0, da, h⟩ := h
  have lp : a.den ^ i < 2 ^ (m * i + 1) := by
    rw [Nat.pow_succ, Nat.pow_mul]
    have : a.den ^ i ≤ (2 ^ m) ^ i := Nat.pow_le_pow_left (Nat.le_of_lt ha.de) i
    have : 0 < (2 ^ m) ^ i := Nat.pow_pos (Nat.pow_pos (by decide))
    omega
  exact (dv_evT d0 ha h i).sz (Nat.mul_pos d0 (Nat.pow_pos a.den_pos)) (lt_mul da lp) h2 h1 (by omega)
/-- tops and bottom of at most C bits -/
abbrev Pc (C : Nat) (f : List Rat) : Prop := Pz C C f
theorem mul_le' {m a b : Nat} (h : a ≤ b) : m * a ≤ m * b := Nat.mul_le_mul_left m h
theorem Pz.evd {C m n : Nat} {a : Rat} {f : List Rat} (h : Pc C f) (ha : Sz m a) (hn : C + (m + 1) * f.length ≤ n) (h0 : 0 < n) (i : Nat) : Sz n (Mf.ev (f.drop i) a) := by
  have hl : (f.drop i).length ≤ f.length := by rw [List.length_drop]; omega
  have h1 := mul_le' (m := m + 1) hl
  have h2 : m * (f.drop i).length ≤ (m + 1) * (f.drop i).length := Nat.mul_le_mul_right _ (by omega)
  exact (h.drop i).ev ha (by omega) (by omega) h0
theorem Pz.evt {C m n : Nat} {a : Rat} {f : List Rat} (h : Pc C f) (ha : Sz m a) (hn : C + (m + 2) * f.length + 1 ≤ n) {i : Nat} (hi : i ≤ f.length) : Sz n (Mf.evT f a i) := by
  have h1 := mul_le' (m := m + 2) hi
  have h2 : m * i ≤ (m + 2) * i := Nat.mul_le_mul_right _ (by omega)
  exact h.evT ha i (by omega) (by omega)
theorem pow_szle {m n : Nat} {a : Rat} (ha : Sz m a) {k l : Nat} (h : k ≤ l) (hn : m * l + 1 ≤ n) : Sz n (a ^ k) := by
  have h1 : m * k ≤ m * l := Nat.mul_le_mul_left m h
  exact (sz_pow ha k).mono (by omega)
theorem frs_set (L : List Rat) (m : Nat) (q : Rat) : (dFrs L).set m (dFr q) = dFrs (L.set m q) := List.map_set.symm
theorem ixN_at {n m : Nat} {k : Int} (hk : k = (m : Int)) (h : m < n) : L2.ixN n k = some m := hk ▸ Evl.ixN_nat h
theorem rep_get (n k : Nat) : (List.replicate n (0 : Rat)).getD k 0 = 0 := by
  rw [List.getD_eq_getElem?_getD, List.getElem?_replicate]
  split <;> rfl
theorem rev_some {f : List Rat} {i : Nat} {d : D} (h : (dFrs f).reverse[i]? = some d) : i < f.length ∧ d = dFr (f.getD (f.length - 1 - i) 0) := by
  have hi : i < (dFrs f).length := by
    have := (List.getElem?_eq_some_iff.mp h).1
    simpa using this
  rw [List.getElem?_reverse hi] at h
  rw [List.getElem?_map] at h
  simp only [List.length_map] at hi h
  obtain ⟨x, hx, rfl⟩ := Option.map_eq_some_iff.mp h
  refine ⟨hi, ?_⟩
  rw [List.getD_eq_getElem?_getD, hx]; rfl
theorem frs_some {f : List Rat} {i : Nat} {d : D} (h : (dFrs f)[i]? = some d) : i < f.length ∧ d = dFr (f.getD i 0) := by
  rw [List.getElem?_map] at h
  obtain ⟨x, hx, rfl⟩ := Option.map_eq_some_iff.mp h
  refine ⟨(List.getElem?_eq_some_iff.mp hx).1, ?_⟩
  rw [List.getD_eq_getElem?_getD, hx]; rfl
theorem rep_frs {n m : Nat} (h : m = n) : List.replicate m (dFr 0) = dFrs (List.replicate n 0) := by subst h; simp
theorem cross {t b : Int} (h : b ≠ 0) : (Rat.divInt t b).num * b = t * ((Rat.divInt t b).den : Int) := by
  have e := Rat.num_divInt_den (Rat.divInt t b)
  exact (Rat.divInt_eq_divInt_iff (den_ne _) h).mp e
theorem cross' {t b : Int} {x : Rat} (h : b ≠ 0) (e : Rat.divInt t b = x) : x.num * b = t * (x.den : Int) := e ▸ cross h
end Mf

namespace Tk
open PySem PySem.Spec PyProof.Rows L2 Hf Mf
def topS (i : Nat) : Stmt := PySem.Challenge.pw_heightfractions_k01_fractions_made.main.body.getD i (.Pass ⟨0, 0, 0, 0⟩)
local macro_rules | `(tactic| walk_at "bt") => `(tactic| first | assumption | exact Mf.Sz.btn (by assumption) | exact Mf.Sz.btd (by assumption) | exact Mf.Bt.lit (by decide +kernel) | exact Mf.Bt.neg (by walk_at "bt") | exact Mf.Bt.mul (by walk_at "bt") (by walk_at "bt"))
local macro_rules | `(tactic| walk_at "hf_bt") => `(tactic| exact Mf.Bt.mono (by walk_at "bt") (by omega))
local macro_rules | `(tactic| walk_at "hf_mul") => `(tactic| exact Mf.mul_ok (by walk_at "bt") (by walk_at "bt") (by omega))
local macro_rules | `(tactic| walk_at "hf_sz") => `(tactic| first | exact Mf.Sz.mono (by assumption) (by omega) | exact Mf.Sz.mono (by assumption) (by decide))
local macro_rules | `(tactic| walk_at "hf_sza") => `(tactic| first | assumption | exact Mf.SzA.mono (by assumption) (by decide))
local macro_rules | `(tactic| walk_at "hf_pl") => `(tactic| first | omega | (simp; omega))
local macro_rules | `(tactic| walk_at "hf_pc") => `(tactic| first | assumption | exact Mf.Pz.mono (by assumption) (by omega) (by omega))
local macro_rules | `(tactic| walk_at "hf_trim") => `(tactic| first | exact Mf.trim_trim _ | assumption)
local macro_rules | `(tactic| walk_at "hf_omega") => `(tactic| omega)
local macro_rules | `(tactic| walk_at "hf_mod") => `(tactic| first | decide | omega)
local macro_rules | `(tactic| walk_at "hf_rng") => `(tactic| first | decide | omega)
local macro_rules | `(tactic| walk_at "hf_len") => `(tactic| first | decide | (simp; done) | (simp; omega))
local macro_rules | `(tactic| walk_at "hf_len5") => `(tactic| first | decide | (simp; done) | (simp; omega))
local macro_rules | `(tactic| walk_at "hf_hin") => `(tactic| (intro i d hd p hp; simp only [List.mem_cons, List.not_mem_nil, or_false] at hp; first | (subst hp; simp; done) | (rcases hp with hp | hp <;> subst hp <;> simp; done)))
local macro_rules | `(tactic| walk_at "hf_lchl") => `(tactic| first | rfl | (simp; done) | (simp [rng_len]; done))
local macro_rules | `(tactic| walk_at "hf_rep") => `(tactic| first | decide | omega | (show 1 * _ ≤ 1000; omega) | (simp; omega))
local macro_rules | `(tactic| walk_at "hf_isi") => `(tactic| exact ⟨by decide +kernel, rfl⟩)
local macro_rules | `(tactic| walk_at "hf_ret") => `(tactic| rfl)
local macro_rules | `(tactic| walk_at "hf_no") => `(tactic| (exfalso; omega))
local macro_rules | `(tactic| walk_at "hf_shape") => `(tactic| first | rfl | exact Mf.sh_fr _ | exact Mf.sh_frsT _ | exact Mf.sh_frsL _ | exact Mf.sh_frsLL _)

abbrev S_shared_by (ds : List D) (r : Res) : Prop := ∃ a b : Int, ds = [.int a, .int b] ∧ r = .ok (.val (.int (Int.gcd a b : Nat)))
abbrev S_fraction (ds : List D) (r : Res) : Prop := ∃ t b : Int, ds = [.int t, .int b] ∧ b ≠ 0 ∧ Bt 8999 b ∧ r = .ok (.val (dFr (Rat.divInt t b)))
abbrev S_fraction0 (C_NoFraction : Addr) (ds : List D) (r : Res) : Prop := ∃ t : Int, ds = [.int t, .int 0] ∧ r = .exc C_NoFraction []
abbrev S_law_cell_at (ds : List D) (r : Res) : Prop := ∃ (ns : List Int) (k : Int), ds = [.list (ns.map PyData.int), .int k] ∧ 0 ≤ k ∧ r = .ok (.val (.int (vCell ns k)))
abbrev S_law_stir (ds : List D) (r : Res) : Prop := ∃ c k : Int, ds = [.int c, .int k] ∧ 0 ≤ k ∧ k ≤ 1000 ∧ r = .ok (.val (.int (vStir c k)))
abbrev S_law_drawn (ds : List D) (r : Res) : Prop := ∃ (ns : List Int) (k : Int), ds = [.list (ns.map PyData.int), .int k] ∧ 0 ≤ k ∧ k ≤ 1000 ∧ r = .ok (.val (.int (vDrawn ns k)))
abbrev S_law_whole (ds : List D) (r : Res) : Prop := ∃ i : Int, ds = [.int i] ∧ r = .ok (.val (.bool true))
abbrev S_law_divisor (ds : List D) (r : Res) : Prop := ∃ a b : Int, ds = [.int a, .int b] ∧ r = .ok (.val (.int (Int.gcd a b : Nat)))
abbrev S_law_is_fraction (ds : List D) (r : Res) : Prop := ∃ q : Rat, ds = [dFr q] ∧ r = .ok (.val (.bool true))
abbrev S_law_marks_NoFraction (C_NoFraction : Addr) (a : Addr) (c : Value) (ds : List D) (r : Res) : Prop := ds = [dPtr a] ∧ c = .ref C_NoFraction ∧ r = .ok (.newL ([.bool true, .bool true, .bool false, .bool false, .bool false, .bool false, .bool false, .bool false, .bool false, .bool false, .bool false, .bool false, .bool false, .bool false, .bool false, .bool false, .bool false, .bool false]))
abbrev S_law_only (ds : List D) (r : Res) : Prop := ∃ j : Int, ds = [.int j] ∧ r = .ok (.newL (onlyB j))
abbrev S_law_asked (ds : List D) (r : Res) : Prop := ∃ t b : Int, ds = [.int t, .int b] ∧ b ≠ 0 ∧ Bt 8999 b ∧ r = .ok (.val (dFr (Rat.divInt t b)))
abbrev S_law_asked0 (C_NoFraction : Addr) (ds : List D) (r : Res) : Prop := ∃ t : Int, ds = [.int t, .int 0] ∧ r = .ok (.newL ([.bool true, .bool true, .bool false, .bool false, .bool false, .bool false, .bool false, .bool false, .bool false, .bool false, .bool false, .bool false, .bool false, .bool false, .bool false, .bool false, .bool false, .bool false]))
abbrev S_law (ds : List D) (r : Res) : Prop := ∃ ns : List Int, ds = [.list (ns.map PyData.int)] ∧ ns.length ≤ 63 ∧ r = .ok (.val (.bool true))
section
variable {P : Program} {w : World} {K : PySem.W.Frag} {mg : Str → Option Value} {base : Heap}
theorem sc_shared_by : FnScope ["one", "other", "rest"] ["one", "other"] (defScope (topS 20)) := ⟨rfl, rfl, rfl, by decide +kernel, rfl, by decide +kernel, by decide +kernel⟩
theorem ok_shared_by  {zf : Addr} {zfd : FuncData} (zF : Fun K "shared_by" "shared_by" (topS 20) zf zfd) (m_abs : mg "abs" = none)    : FnOk P w K mg base (L2N.CX P w) 1 zf zfd ["one", "other"] (spF K (S_shared_by)) := by
  have sc := sc_shared_by
  refine fn_ok zF sc (by rintro ds r ⟨a, b, rfl, rfl⟩; rfl) ?_
  rintro zcd zAr zou zs zH zE hr ds r ⟨a, b, rfl, rfl⟩
  have hpo : PassesOwn (model P w) (cxOf (L2N.CX P w) P w K mg base ["one", "other", "rest"] "shared_by" (defScope (topS 20)) zf zcd zAr zou zs zH zE).A (cxOf (L2N.CX P w) P w K mg base ["one", "other", "rest"] "shared_by" (defScope (topS 20)) zf zcd zAr zou zs zH zE).env (cxOf (L2N.CX P w) P w K mg base ["one", "other", "rest"] "shared_by" (defScope (topS 20)) zf zcd zAr zou zs zH zE).xe := passes_of rfl
  have hu : Roomy (cxOf (L2N.CX P w) P w K mg base ["one", "other", "rest"] "shared_by" (defScope (topS 20)) zf zcd zAr zou zs zH zE) := hr.units
  refine ds_set (i := 0) (de_abs (by rfl) m_abs (de_var (n := 0) rfl (pv 0))) (ps_set sc.nd rfl (.inl rfl) pe_w) ?_
  refine ds_set (i := 1) (de_abs (by rfl) m_abs (de_var (n := 1) rfl (pv 1))) (ps_set sc.nd rfl (.inl rfl) pe_w) ?_
  refine ds_while (fun m Γ => ∃ (x y : Int) (c : Cell), Γ = [.d (.int x), .d (.int y), c] ∧ 0 ≤ x ∧ 0 ≤ y ∧ y.toNat = m ∧ Int.gcd x y = Int.gcd a b) hpo (if b < 0 then -b else b).toNat ?w0_1 ?st_1
  case w0_1 =>
    refine ⟨_, _, _, rfl, by split <;> omega, by split <;> omega, rfl, ?_⟩
    split <;> split <;> simp
  case st_1 =>
    rintro m Γ' ⟨x, y, c, rfl, hx, hy, hm, hg⟩
    refine ⟨_, (dt_cmp (dc_neI (de_var (n := 1) rfl (pv 1)) de_int)), fun t => ?y_1, fun t => ?n_1⟩
    case y_1 =>
      have hy' : 0 < y := by
        have : ¬ (y = 0) := by simpa using t
        omega
      refine ds_set (i := 2) (de_mod (de_var (n := 0) rfl (pv 0)) (de_var (n := 1) rfl (pv 1)) ?g1) (ps_set sc.nd rfl (.inl rfl) pe_w) ?_
      case g1 => exact hy'
      refine ds_set (i := 0) (de_var (n := 1) rfl (pv 1)) (ps_set sc.nd rfl (.inl rfl) pe_w) ?_
      refine ds_set (i := 1) (de_var (n := 2) rfl (pv 2)) (ps_set sc.nd rfl (.inl rfl) pe_w) ?_
      refine ds_nil ?_
      refine ⟨_, ?_, y, x % y, _, rfl, by omega, Int.emod_nonneg _ (by omega), rfl, ?_⟩
      · have := Int.emod_lt_of_pos x hy'
        have := Int.emod_nonneg x (show y ≠ 0 by omega)
        omega
      · rw [gcd_turn x y, hg]
    case n_1 =>
      have hy' : y = 0 := by simpa using t
      subst hy'
      refine ds_ret (de_var (n := 0) rfl (pv 0)) ?_
      show Res.ok _ = Res.ok _
      rw [← hg, Int.gcd_zero_right, Int.natAbs_of_nonneg hx]
theorem sc_fraction : FnScope ["top", "bottom", "by"] ["top", "bottom"] (defScope (topS 21)) := ⟨rfl, rfl, rfl, by decide +kernel, rfl, by decide +kernel, by decide +kernel⟩
theorem ok_fraction  {zf : Addr} {zfd : FuncData} (zF : Fun K "fraction" "fraction" (topS 21) zf zfd)   (h_shared_by : Has P w K mg base "shared_by" 1 S_shared_by)  : FnOk P w K mg base (L2N.CX P w) 2 zf zfd ["top", "bottom"] (spF K (S_fraction)) := by
  have sc := sc_fraction
  refine fn_ok zF sc (by rintro ds r ⟨t, b, rfl, hb, hz, rfl⟩; rfl) ?_
  rintro zcd zAr zou zs zH zE hr ds r ⟨t, b, rfl, hb, hz, rfl⟩
  have hpo : PassesOwn (model P w) (cxOf (L2N.CX P w) P w K mg base ["top", "bottom", "by"] "fraction" (defScope (topS 21)) zf zcd zAr zou zs zH zE).A (cxOf (L2N.CX P w) P w K mg base ["top", "bottom", "by"] "fraction" (defScope (topS 21)) zf zcd zAr zou zs zH zE).env (cxOf (L2N.CX P w) P w K mg base ["top", "bottom", "by"] "fraction" (defScope (topS 21)) zf zcd zAr zou zs zH zE).xe := passes_of rfl
  have hu : Roomy (cxOf (L2N.CX P w) P w K mg base ["top", "bottom", "by"] "fraction" (defScope (topS 21)) zf zcd zAr zou zs zH zE) := hr.units
  have gz := gcd_bt hb hz (t := t)
  have gp : (0 : Int) < (Int.gcd t b : Nat) := by have := Int.gcd_pos_of_ne_zero_right t hb; omega
  refine ds_when (dt_cmp (dc_eqI (de_var (n := 1) rfl (pv 1)) de_int)) (fun t1 => ?y1) (fun t1 => ?n1)
  case y1 =>
    try simp only [decide_eq_true_eq, decide_eq_false_iff_not, Bool.not_eq_true', Bool.not_eq_false', Bool.and_eq_true, Bool.or_eq_true, Bool.and_eq_false_iff, Bool.or_eq_false_iff, Bool.not_eq_true, Bool.not_eq_false, Decidable.not_not] at t1
    exact absurd t1 hb
  case n1 =>
    try simp only [decide_eq_true_eq, decide_eq_false_iff_not, Bool.not_eq_true', Bool.not_eq_false', Bool.and_eq_true, Bool.or_eq_true, Bool.and_eq_false_iff, Bool.or_eq_false_iff, Bool.not_eq_true, Bool.not_eq_false, Decidable.not_not] at t1
    refine ds_set (i := 2) (de_call h_shared_by (hr.mono (by decide)) (by rfl) (da_cons (de_var (n := 0) rfl (pv 0)) (da_cons (de_var (n := 1) rfl (pv 1)) da_nil)) ⟨_, _, rfl, rfl⟩) (ps_set sc.nd rfl (.inl rfl) pe_w) ?_
    refine ds_when (dt_cmp (dc_lt (de_var (n := 1) rfl (pv 1)) de_int)) (fun t2 => ?y2) (fun t2 => ?n2)
    case y2 =>
      try simp only [decide_eq_true_eq, decide_eq_false_iff_not, Bool.not_eq_true', Bool.not_eq_false', Bool.and_eq_true, Bool.or_eq_true, Bool.and_eq_false_iff, Bool.or_eq_false_iff, Bool.not_eq_true, Bool.not_eq_false, Decidable.not_not] at t2
      refine ds_set (i := 2) (de_neg (de_var (n := 2) rfl (pv 2))) (ps_set sc.nd rfl (.inl rfl) pe_w) ?_
      refine ds_nil ?_
      refine ds_ret (de_tup (da_cons (de_fdivX (de_var (n := 0) rfl (pv 0)) (de_var (n := 2) rfl (pv 2)) ?g1) (da_cons (de_fdivX (de_var (n := 1) rfl (pv 1)) (de_var (n := 2) rfl (pv 2)) ?g2) da_nil)) (Nat.le_of_ble_eq_true rfl)) ?_
      case g1 => exact divX_ok (by omega) gz.neg (by decide)
      case g2 => exact divX_ok (by omega) gz.neg (by decide)
      have key := fr_parts hb (by_ := if b < 0 then -((Int.gcd t b : Nat) : Int) else ((Int.gcd t b : Nat) : Int)) rfl
      first | rw [if_pos t2] at key | rw [if_neg t2] at key
      show Res.ok _ = Res.ok _
      rw [key.1, key.2]
    case n2 =>
      try simp only [decide_eq_true_eq, decide_eq_false_iff_not, Bool.not_eq_true', Bool.not_eq_false', Bool.and_eq_true, Bool.or_eq_true, Bool.and_eq_false_iff, Bool.or_eq_false_iff, Bool.not_eq_true, Bool.not_eq_false, Decidable.not_not] at t2
      refine ds_ret (de_tup (da_cons (de_fdivX (de_var (n := 0) rfl (pv 0)) (de_var (n := 2) rfl (pv 2)) ?g3) (da_cons (de_fdivX (de_var (n := 1) rfl (pv 1)) (de_var (n := 2) rfl (pv 2)) ?g4) da_nil)) (Nat.le_of_ble_eq_true rfl)) ?_
      case g3 => exact divX_ok (by omega) gz (by decide)
      case g4 => exact divX_ok (by omega) gz (by decide)
      have key := fr_parts hb (by_ := if b < 0 then -((Int.gcd t b : Nat) : Int) else ((Int.gcd t b : Nat) : Int)) rfl
      first | rw [if_pos t2] at key | rw [if_neg t2] at key
      show Res.ok _ = Res.ok _
      rw [key.1, key.2]
theorem sc_fraction0 : FnScope ["top", "bottom", "by"] ["top", "bottom"] (defScope (topS 21)) := ⟨rfl, rfl, rfl, by decide +kernel, rfl, by decide +kernel, by decide +kernel⟩
theorem ok_fraction0 {C_NoFraction : Addr} {zf : Addr} {zfd : FuncData} (zF : Fun K "fraction" "fraction" (topS 21) zf zfd)    (xf_NoFraction : Ecl K mg "NoFraction" C_NoFraction) : FnOk P w K mg base (L2N.CX P w) 1 zf zfd ["top", "bottom"] (spF K ((S_fraction0 C_NoFraction))) := by
  have sc := sc_fraction0
  refine fn_ok zF sc (by rintro ds r ⟨t, rfl, rfl⟩; rfl) ?_
  rintro zcd zAr zou zs zH zE hr ds r ⟨t, rfl, rfl⟩
  have hpo : PassesOwn (model P w) (cxOf (L2N.CX P w) P w K mg base ["top", "bottom", "by"] "fraction" (defScope (topS 21)) zf zcd zAr zou zs zH zE).A (cxOf (L2N.CX P w) P w K mg base ["top", "bottom", "by"] "fraction" (defScope (topS 21)) zf zcd zAr zou zs zH zE).env (cxOf (L2N.CX P w) P w K mg base ["top", "bottom", "by"] "fraction" (defScope (topS 21)) zf zcd zAr zou zs zH zE).xe := passes_of rfl
  have hu : Roomy (cxOf (L2N.CX P w) P w K mg base ["top", "bottom", "by"] "fraction" (defScope (topS 21)) zf zcd zAr zou zs zH zE) := hr.units
  refine ds_when (dt_cmp (dc_eqI (de_var (n := 1) rfl (pv 1)) de_int)) (fun t1 => ?y1) (fun t1 => ?n1)
  case y1 =>
    try simp only [decide_eq_true_eq, decide_eq_false_iff_not, Bool.not_eq_true', Bool.not_eq_false', Bool.and_eq_true, Bool.or_eq_true, Bool.and_eq_false_iff, Bool.or_eq_false_iff, Bool.not_eq_true, Bool.not_eq_false, Decidable.not_not] at t1
    refine ds_raiseOwn rfl xf_NoFraction (by rfl) ?_
    exact rfl
  case n1 =>
    skip
    exact absurd t1 (by decide)
theorem sc_law_cell_at : FnScope ["_law_script", "_law_k"] ["_law_script", "_law_k"] (defScope (topS 23)) := ⟨rfl, rfl, rfl, by decide +kernel, rfl, by decide +kernel, by decide +kernel⟩
theorem ok_law_cell_at  {zf : Addr} {zfd : FuncData} (zF : Fun K "_law_cell_at" "_law_cell_at" (topS 23) zf zfd) (m_len : mg "len" = none)    : FnOk P w K mg base (L2N.CX P w) 1 zf zfd ["_law_script", "_law_k"] (spF K (S_law_cell_at)) := by
  have sc := sc_law_cell_at
  refine fn_ok zF sc (by rintro ds r ⟨ns, k, rfl, hk, rfl⟩; rfl) ?_
  rintro zcd zAr zou zs zH zE hr ds r ⟨ns, k, rfl, hk, rfl⟩
  have hpo : PassesOwn (model P w) (cxOf (L2N.CX P w) P w K mg base ["_law_script", "_law_k"] "_law_cell_at" (defScope (topS 23)) zf zcd zAr zou zs zH zE).A (cxOf (L2N.CX P w) P w K mg base ["_law_script", "_law_k"] "_law_cell_at" (defScope (topS 23)) zf zcd zAr zou zs zH zE).env (cxOf (L2N.CX P w) P w K mg base ["_law_script", "_law_k"] "_law_cell_at" (defScope (topS 23)) zf zcd zAr zou zs zH zE).xe := passes_of rfl
  have hu : Roomy (cxOf (L2N.CX P w) P w K mg base ["_law_script", "_law_k"] "_law_cell_at" (defScope (topS 23)) zf zcd zAr zou zs zH zE) := hr.units
  refine ds_when (dt_cmp (dc_lt (de_var (n := 1) rfl (pv 1)) (de_lenL (by rfl) m_len (de_var (n := 0) rfl (pv 0))))) (fun t1 => ?y1) (fun t1 => ?n1)
  case y1 =>
    simp only [decide_eq_true_eq, List.length_map] at t1
    refine ds_ret (de_ixL (de_var (n := 0) rfl (pv 0)) (de_var (n := 1) rfl (pv 1)) (at_ints (n := k.toNat) (x := vCell ns k) (by omega) (by unfold vCell; rw [List.getD_eq_getElem?_getD, List.getElem?_eq_getElem (by omega)]; rfl))) ?_
    walk_at "hf_ret"
  case n1 =>
    simp only [decide_eq_false_iff_not, List.length_map] at t1
    refine ds_ret de_int ?_
    show Res.ok (.val (.int (vCell ns k))) = Res.ok (.val (.int 0))
    unfold vCell
    rw [List.getD_eq_getElem?_getD, List.getElem?_eq_none (by omega)]; rfl
theorem sc_law_stir : FnScope ["_law_cell", "_law_k", "_law_c", "_law_low"] ["_law_cell", "_law_k"] (defScope (topS 24)) := ⟨rfl, rfl, rfl, by decide +kernel, rfl, by decide +kernel, by decide +kernel⟩
theorem ok_law_stir  {zf : Addr} {zfd : FuncData} (zF : Fun K "_law_stir" "_law_stir" (topS 24) zf zfd)     : FnOk P w K mg base (L2N.CX P w) 1 zf zfd ["_law_cell", "_law_k"] (spF K (S_law_stir)) := by
  have sc := sc_law_stir
  refine fn_ok zF sc (by rintro ds r ⟨c, k, rfl, h0, h1, rfl⟩; rfl) ?_
  rintro zcd zAr zou zs zH zE hr ds r ⟨c, k, rfl, h0, h1, rfl⟩
  have hpo : PassesOwn (model P w) (cxOf (L2N.CX P w) P w K mg base ["_law_cell", "_law_k", "_law_c", "_law_low"] "_law_stir" (defScope (topS 24)) zf zcd zAr zou zs zH zE).A (cxOf (L2N.CX P w) P w K mg base ["_law_cell", "_law_k", "_law_c", "_law_low"] "_law_stir" (defScope (topS 24)) zf zcd zAr zou zs zH zE).env (cxOf (L2N.CX P w) P w K mg base ["_law_cell", "_law_k", "_law_c", "_law_low"] "_law_stir" (defScope (topS 24)) zf zcd zAr zou zs zH zE).xe := passes_of rfl
  have hu : Roomy (cxOf (L2N.CX P w) P w K mg base ["_law_cell", "_law_k", "_law_c", "_law_low"] "_law_stir" (defScope (topS 24)) zf zcd zAr zou zs zH zE) := hr.units
  have b1 := vMix_bd (c := c) h0 h1
  unfold vMix at b1
  refine ds_set (i := 2) (de_add (de_add (de_add (de_mod (de_var (n := 0) rfl (pv 0)) (de_powN (n := 10000000000000000000000000000000000000000) de_int de_int ⟨by decide, by decide, by decide⟩ (by decide +kernel)) ?g1) de_int) (de_mulS de_int (de_var (n := 1) rfl (pv 1)) (by first | exact .inr ⟨by decide, by decide⟩ | exact .inl ⟨by decide, by decide⟩))) (de_mulB (de_mulS de_int (de_var (n := 1) rfl (pv 1)) (by first | exact .inr ⟨by decide, by decide⟩ | exact .inl ⟨by decide, by decide⟩)) (de_var (n := 1) rfl (pv 1)) ?g2)) (ps_set sc.nd rfl (.inl rfl) pe_w) ?_
  case g1 => walk_at "hf_mod"
  case g2 => exact mul_sm ⟨by omega, by omega⟩ ⟨by omega, by omega⟩
  refine ds_set (i := 3) (de_mod (de_mulS (de_mod (de_mulS (de_var (n := 2) rfl (pv 2)) de_int (by first | exact .inr ⟨by decide, by decide⟩ | exact .inl ⟨by decide, by decide⟩)) de_int ?g3) de_int (by first | exact .inr ⟨by decide, by decide⟩ | exact .inl ⟨by decide, by decide⟩)) de_int ?g4) (ps_set sc.nd rfl (.inl rfl) pe_w) ?_
  case g3 => walk_at "hf_mod"
  case g4 => walk_at "hf_mod"
  refine ds_ret (de_add (de_var (n := 3) rfl (pv 3)) (de_mulS de_int (de_mod (de_mulS (de_mulB (de_var (n := 2) rfl (pv 2)) (de_var (n := 3) rfl (pv 3)) ?g5) de_int (by first | exact .inr ⟨by decide, by decide⟩ | exact .inl ⟨by decide, by decide⟩)) (de_add (de_powN (n := 1000000000000000000000000000000) de_int de_int ⟨by decide, by decide, by decide⟩ (by decide +kernel)) de_int) ?g6) (by first | exact .inr ⟨by decide, by decide⟩ | exact .inl ⟨by decide, by decide⟩))) ?_
  case g5 => exact mul_sm ⟨by omega, by omega⟩ ⟨by omega, by omega⟩
  case g6 => walk_at "hf_mod"
  walk_at "hf_ret"
theorem sc_law_drawn : FnScope ["_law_script", "_law_k", "_law_great", "_law_step"] ["_law_script", "_law_k"] (defScope (topS 25)) := ⟨rfl, rfl, rfl, by decide +kernel, rfl, by decide +kernel, by decide +kernel⟩
theorem ok_law_drawn  {zf : Addr} {zfd : FuncData} (zF : Fun K "_law_drawn" "_law_drawn" (topS 25) zf zfd) (m_range : mg "range" = none)  (h_law_cell_at : Has P w K mg base "_law_cell_at" 1 S_law_cell_at) (h_law_stir : Has P w K mg base "_law_stir" 1 S_law_stir)  : FnOk P w K mg base (L2N.CX P w) 2 zf zfd ["_law_script", "_law_k"] (spF K (S_law_drawn)) := by
  have sc := sc_law_drawn
  refine fn_ok zF sc (by rintro ds r ⟨ns, k, rfl, h0, h1, rfl⟩; rfl) ?_
  rintro zcd zAr zou zs zH zE hr ds r ⟨ns, k, rfl, h0, h1, rfl⟩
  have hpo : PassesOwn (model P w) (cxOf (L2N.CX P w) P w K mg base ["_law_script", "_law_k", "_law_great", "_law_step"] "_law_drawn" (defScope (topS 25)) zf zcd zAr zou zs zH zE).A (cxOf (L2N.CX P w) P w K mg base ["_law_script", "_law_k", "_law_great", "_law_step"] "_law_drawn" (defScope (topS 25)) zf zcd zAr zou zs zH zE).env (cxOf (L2N.CX P w) P w K mg base ["_law_script", "_law_k", "_law_great", "_law_step"] "_law_drawn" (defScope (topS 25)) zf zcd zAr zou zs zH zE).xe := passes_of rfl
  have hu : Roomy (cxOf (L2N.CX P w) P w K mg base ["_law_script", "_law_k", "_law_great", "_law_step"] "_law_drawn" (defScope (topS 25)) zf zcd zAr zou zs zH zE) := hr.units
  refine ds_set (i := 2) (de_call h_law_cell_at (hr.mono (by decide)) (by rfl) (da_cons (de_var (n := 0) rfl (pv 0)) (da_cons de_int da_nil)) ⟨_, _, rfl, ?g1, rfl⟩) (ps_set sc.nd rfl (.inl rfl) pe_w) ?_
  case g1 => walk_at "hf_omega"
  refine ds_when (dt_and (dt_cmp (dc_eqI (de_mod (de_call h_law_cell_at (hr.mono (by decide)) (by rfl) (da_cons (de_var (n := 0) rfl (pv 0)) (da_cons de_int da_nil)) ⟨_, _, rfl, ?g2, rfl⟩) de_int ?g3) de_int)) (fun q1 => (dw_and1 (dt_cmp (dc_ge (de_var (n := 2) rfl (pv 2)) (de_powN (n := 10000000000000000000000000000000000000000) de_int de_int ⟨by decide, by decide, by decide⟩ (by decide +kernel))))))) (fun t1 => ?y1) (fun t1 => ?n1)
  case g2 => walk_at "hf_omega"
  case g3 => walk_at "hf_mod"
  case y1 =>
    try simp only [decide_eq_true_eq, decide_eq_false_iff_not, Bool.not_eq_true', Bool.not_eq_false', Bool.and_eq_true, Bool.or_eq_true, Bool.and_eq_false_iff, Bool.or_eq_false_iff, Bool.not_eq_true, Bool.not_eq_false, Decidable.not_not] at t1
    refine ds_for (fun i Γ => ∃ c, Γ = [.d (.list (ns.map PyData.int)), .d (.int k), .d (.int (gdiv (vCell ns 1) i)), c]) (fun _ d => [(3, d)]) hpo rfl (di_r1 (by rfl) m_range (de_var (n := 1) rfl (pv 1)) ?g4) ?hg_1 ?h0_1 ?hb_1 ?hd_1
    case g4 => walk_at "hf_rng"
    case hg_1 =>
      exact fun i d _ => (dg_name (j := 3) (pg_name sc.nd rfl (.inl rfl)))
    case h0_1 =>
      exact ⟨_, rfl⟩
    case hb_1 =>
      rintro i d Γ' hi ⟨c, rfl⟩
      refine ds_set (i := 2) (de_fdiv (de_var (n := 2) rfl (pv 2)) (de_powN (n := 1000000000000000000000000000000000000000000000000000000000000) de_int de_int ⟨by decide, by decide, by decide⟩ (by decide +kernel)) ?g5) (ps_set sc.nd rfl (.inl rfl) pe_w) ?_
      case g5 => exact div_sm ⟨by decide, by decide⟩
      refine ds_nil ?_
      exact ⟨_, rfl⟩
    case hd_1 =>
      rintro Γ' ⟨c, rfl⟩
      rw [rng0_len]
      refine ds_ret (de_mod (de_var (n := 2) rfl (pv 2)) (de_powN (n := 1000000000000000000000000000000000000000000000000000000000000) de_int de_int ⟨by decide, by decide, by decide⟩ (by decide +kernel)) ?g6) ?_
      case g6 => walk_at "hf_mod"
      show Res.ok (.val (.int (vDrawn ns k))) = _
      unfold vDrawn
      rw [if_pos t1]
  case n1 =>
    try simp only [decide_eq_true_eq, decide_eq_false_iff_not, Bool.not_eq_true', Bool.not_eq_false', Bool.and_eq_true, Bool.or_eq_true, Bool.and_eq_false_iff, Bool.or_eq_false_iff, Bool.not_eq_true, Bool.not_eq_false, Decidable.not_not] at t1
    refine ds_ret (de_call h_law_stir (hr.mono (by decide)) (by rfl) (da_cons (de_call h_law_cell_at (hr.mono (by decide)) (by rfl) (da_cons (de_var (n := 0) rfl (pv 0)) (da_cons (de_var (n := 1) rfl (pv 1)) da_nil)) ⟨_, _, rfl, ?g7, rfl⟩) (da_cons (de_var (n := 1) rfl (pv 1)) da_nil)) ⟨_, _, rfl, ?g8, ?g9, rfl⟩) ?_
    case g7 => walk_at "hf_omega"
    case g8 => walk_at "hf_omega"
    case g9 => walk_at "hf_omega"
    show Res.ok (.val (.int (vDrawn ns k))) = _
    unfold vDrawn
    rw [if_neg (by omega)]
theorem sc_law_whole : FnScope ["_law_found"] ["_law_found"] (defScope (topS 26)) := ⟨rfl, rfl, rfl, by decide +kernel, rfl, by decide +kernel, by decide +kernel⟩
theorem ok_law_whole  {zf : Addr} {zfd : FuncData} (zF : Fun K "_law_whole" "_law_whole" (topS 26) zf zfd) (m_bool : mg "bool" = none) (m_int : mg "int" = none) (m_isinstance : mg "isinstance" = none)    : FnOk P w K mg base (L2N.CX P w) 1 zf zfd ["_law_found"] (spF K (S_law_whole)) := by
  have sc := sc_law_whole
  refine fn_ok zF sc (by rintro ds r ⟨i, rfl, rfl⟩; rfl) ?_
  rintro zcd zAr zou zs zH zE hr ds r ⟨i, rfl, rfl⟩
  have hpo : PassesOwn (model P w) (cxOf (L2N.CX P w) P w K mg base ["_law_found"] "_law_whole" (defScope (topS 26)) zf zcd zAr zou zs zH zE).A (cxOf (L2N.CX P w) P w K mg base ["_law_found"] "_law_whole" (defScope (topS 26)) zf zcd zAr zou zs zH zE).env (cxOf (L2N.CX P w) P w K mg base ["_law_found"] "_law_whole" (defScope (topS 26)) zf zcd zAr zou zs zH zE).xe := passes_of rfl
  have hu : Roomy (cxOf (L2N.CX P w) P w K mg base ["_law_found"] "_law_whole" (defScope (topS 26)) zf zcd zAr zou zs zH zE) := hr.units
  refine ds_ret (de_and (de_isi (S := "int") (m := true) (by rfl) m_isinstance (by rfl) m_int (by decide +kernel) (de_var (n := 0) rfl (pv 0)) (by exact ⟨(by decide +kernel : kitB "int" "int" = some true), rfl⟩)) (fun q1 => (de_one (de_not (de_isi (S := "bool") (m := false) (by rfl) m_isinstance (by rfl) m_bool (by decide +kernel) (de_var (n := 0) rfl (pv 0)) (by exact ⟨(by decide +kernel : kitB "int" "bool" = some false), rfl⟩)))))) ?_
  walk_at "hf_ret"
theorem sc_law_divisor : FnScope ["_law_a", "_law_b", "_law_rest"] ["_law_a", "_law_b"] (defScope (topS 27)) := ⟨rfl, rfl, rfl, by decide +kernel, rfl, by decide +kernel, by decide +kernel⟩
theorem ok_law_divisor  {zf : Addr} {zfd : FuncData} (zF : Fun K "_law_divisor" "_law_divisor" (topS 27) zf zfd) (m_abs : mg "abs" = none)    : FnOk P w K mg base (L2N.CX P w) 1 zf zfd ["_law_a", "_law_b"] (spF K (S_law_divisor)) := by
  have sc := sc_law_divisor
  refine fn_ok zF sc (by rintro ds r ⟨a, b, rfl, rfl⟩; rfl) ?_
  rintro zcd zAr zou zs zH zE hr ds r ⟨a, b, rfl, rfl⟩
  have hpo : PassesOwn (model P w) (cxOf (L2N.CX P w) P w K mg base ["_law_a", "_law_b", "_law_rest"] "_law_divisor" (defScope (topS 27)) zf zcd zAr zou zs zH zE).A (cxOf (L2N.CX P w) P w K mg base ["_law_a", "_law_b", "_law_rest"] "_law_divisor" (defScope (topS 27)) zf zcd zAr zou zs zH zE).env (cxOf (L2N.CX P w) P w K mg base ["_law_a", "_law_b", "_law_rest"] "_law_divisor" (defScope (topS 27)) zf zcd zAr zou zs zH zE).xe := passes_of rfl
  have hu : Roomy (cxOf (L2N.CX P w) P w K mg base ["_law_a", "_law_b", "_law_rest"] "_law_divisor" (defScope (topS 27)) zf zcd zAr zou zs zH zE) := hr.units
  refine ds_set (i := 0) (de_abs (by rfl) m_abs (de_var (n := 0) rfl (pv 0))) (ps_set sc.nd rfl (.inl rfl) pe_w) ?_
  refine ds_set (i := 1) (de_abs (by rfl) m_abs (de_var (n := 1) rfl (pv 1))) (ps_set sc.nd rfl (.inl rfl) pe_w) ?_
  refine ds_while (fun m Γ => ∃ (x y : Int) (c : Cell), Γ = [.d (.int x), .d (.int y), c] ∧ 0 ≤ x ∧ 0 ≤ y ∧ y.toNat = m ∧ Int.gcd x y = Int.gcd a b) hpo (if b < 0 then -b else b).toNat ?w0_1 ?st_1
  case w0_1 =>
    refine ⟨_, _, _, rfl, by split <;> omega, by split <;> omega, rfl, ?_⟩
    split <;> split <;> simp
  case st_1 =>
    rintro m Γ' ⟨x, y, c, rfl, hx, hy, hm, hg⟩
    refine ⟨_, (dt_cmp (dc_gt (de_var (n := 1) rfl (pv 1)) de_int)), fun t => ?y_1, fun t => ?n_1⟩
    case y_1 =>
      have hy' : 0 < y := by simpa using t
      refine ds_set (i := 2) (de_mod (de_var (n := 0) rfl (pv 0)) (de_var (n := 1) rfl (pv 1)) ?g1) (ps_set sc.nd rfl (.inl rfl) pe_w) ?_
      case g1 => exact hy'
      refine ds_set (i := 0) (de_var (n := 1) rfl (pv 1)) (ps_set sc.nd rfl (.inl rfl) pe_w) ?_
      refine ds_set (i := 1) (de_var (n := 2) rfl (pv 2)) (ps_set sc.nd rfl (.inl rfl) pe_w) ?_
      refine ds_nil ?_
      refine ⟨_, ?_, y, x % y, _, rfl, by omega, Int.emod_nonneg _ (by omega), rfl, ?_⟩
      · have := Int.emod_lt_of_pos x hy'
        have := Int.emod_nonneg x (show y ≠ 0 by omega)
        omega
      · rw [gcd_turn x y, hg]
    case n_1 =>
      have hy' : y = 0 := by
        have : ¬ (0 < y) := by simpa using t
        omega
      subst hy'
      refine ds_ret (de_var (n := 0) rfl (pv 0)) ?_
      show Res.ok _ = Res.ok _
      rw [← hg, Int.gcd_zero_right, Int.natAbs_of_nonneg hx]
theorem sc_law_is_fraction : FnScope ["_law_found"] ["_law_found"] (defScope (topS 28)) := ⟨rfl, rfl, rfl, by decide +kernel, rfl, by decide +kernel, by decide +kernel⟩
theorem ok_law_is_fraction  {zf : Addr} {zfd : FuncData} (zF : Fun K "_law_is_fraction" "_law_is_fraction" (topS 28) zf zfd) (m_isinstance : mg "isinstance" = none) (m_len : mg "len" = none) (m_tuple : mg "tuple" = none)  (h_law_whole : Has P w K mg base "_law_whole" 1 S_law_whole) (h_law_divisor : Has P w K mg base "_law_divisor" 1 S_law_divisor)  : FnOk P w K mg base (L2N.CX P w) 2 zf zfd ["_law_found"] (spF K (S_law_is_fraction)) := by
  have sc := sc_law_is_fraction
  refine fn_ok zF sc (by rintro ds r ⟨q, rfl, rfl⟩; rfl) ?_
  rintro zcd zAr zou zs zH zE hr ds r ⟨q, rfl, rfl⟩
  have hpo : PassesOwn (model P w) (cxOf (L2N.CX P w) P w K mg base ["_law_found"] "_law_is_fraction" (defScope (topS 28)) zf zcd zAr zou zs zH zE).A (cxOf (L2N.CX P w) P w K mg base ["_law_found"] "_law_is_fraction" (defScope (topS 28)) zf zcd zAr zou zs zH zE).env (cxOf (L2N.CX P w) P w K mg base ["_law_found"] "_law_is_fraction" (defScope (topS 28)) zf zcd zAr zou zs zH zE).xe := passes_of rfl
  have hu : Roomy (cxOf (L2N.CX P w) P w K mg base ["_law_found"] "_law_is_fraction" (defScope (topS 28)) zf zcd zAr zou zs zH zE) := hr.units
  refine ds_when (dt_or (dt_not (dt_val (de_isi (S := "tuple") (m := true) (by rfl) m_isinstance (by rfl) m_tuple (by decide +kernel) (de_var (n := 0) rfl (pv 0)) (by exact ⟨(by decide +kernel : kitB "tuple" "tuple" = some true), rfl⟩)))) (fun q1 => (dw_or1 (dt_cmp (dc_neI (de_lenT (by rfl) m_len (de_var (n := 0) rfl (pv 0))) de_int))))) (fun t1 => ?y1) (fun t1 => ?n1)
  case y1 =>
    exact absurd t1 (by simp)
    skip
  case n1 =>
    skip
    refine ds_when (dt_or (dt_not (dt_val (de_call h_law_whole (hr.mono (by decide)) (by rfl) (da_cons (de_ixT (de_var (n := 0) rfl (pv 0)) de_int rfl) da_nil) ⟨_, rfl, rfl⟩))) (fun q2 => (dw_or (dt_not (dt_val (de_call h_law_whole (hr.mono (by decide)) (by rfl) (da_cons (de_ixT (de_var (n := 0) rfl (pv 0)) de_int rfl) da_nil) ⟨_, rfl, rfl⟩))) (fun q3 => (dw_or1 (dt_cmp (dc_lt (de_ixT (de_var (n := 0) rfl (pv 0)) de_int rfl) de_int))))))) (fun t2 => ?y2) (fun t2 => ?n2)
    case y2 =>
      exact absurd t2 (by have := q.den_pos; simp; omega)
      skip
    case n2 =>
      skip
      refine ds_ret (de_cmp (dc_eqI (de_call h_law_divisor (hr.mono (by decide)) (by rfl) (da_cons (de_ixT (de_var (n := 0) rfl (pv 0)) de_int rfl) (da_cons (de_ixT (de_var (n := 0) rfl (pv 0)) de_int rfl) da_nil)) ⟨_, _, rfl, rfl⟩) de_int)) ?_
      show Res.ok (.val (.bool true)) = Res.ok (.val (.bool (decide (((Int.gcd q.num (q.den : Int) : Nat) : Int) = 1))))
      rw [gcd_fr]; rfl
theorem sc_law_marks_NoFraction : FnScope ["_law_e", "_law_marks_here"] ["_law_e"] (defScope (topS 29)) := ⟨rfl, rfl, rfl, by decide +kernel, rfl, by decide +kernel, by decide +kernel⟩
theorem ok_law_marks_NoFraction {C_NoCount : Addr} {C_NoFamily : Addr} {C_NoFraction : Addr} {C_NoHistory : Addr} {C_NoLine : Addr} {C_NoMeeting : Addr} {C_NoMoments : Addr} {C_NoName : Addr} {C_NoNumber : Addr} {C_NoSeries : Addr} {C_NoText : Addr} {C_NoThing : Addr} {C_NoWay : Addr} {C_NoWeights : Addr} {C_TooFar : Addr} {C_TooHigh : Addr} {C_TooMany : Addr} {zf : Addr} {zfd : FuncData} (zF : Fun K "_law_marks" "_law_marks" (topS 29) zf zfd) (m_ValueError : mg "ValueError" = none) (m_isinstance : mg "isinstance" = none)   (tf_NoFraction : ExcC K C_NoFraction) (gf_NoFraction : mg "NoFraction" = some (.ref C_NoFraction)) (gf_TooMany : mg "TooMany" = some (.ref C_TooMany)) (gf_TooFar : mg "TooFar" = some (.ref C_TooFar)) (gf_NoNumber : mg "NoNumber" = some (.ref C_NoNumber)) (gf_NoWeights : mg "NoWeights" = some (.ref C_NoWeights)) (gf_NoSeries : mg "NoSeries" = some (.ref C_NoSeries)) (gf_NoMoments : mg "NoMoments" = some (.ref C_NoMoments)) (gf_NoFamily : mg "NoFamily" = some (.ref C_NoFamily)) (gf_NoMeeting : mg "NoMeeting" = some (.ref C_NoMeeting)) (gf_NoThing : mg "NoThing" = some (.ref C_NoThing)) (gf_NoLine : mg "NoLine" = some (.ref C_NoLine)) (gf_NoText : mg "NoText" = some (.ref C_NoText)) (gf_NoWay : mg "NoWay" = some (.ref C_NoWay)) (gf_TooHigh : mg "TooHigh" = some (.ref C_TooHigh)) (gf_NoHistory : mg "NoHistory" = some (.ref C_NoHistory)) (gf_NoCount : mg "NoCount" = some (.ref C_NoCount)) (gf_NoName : mg "NoName" = some (.ref C_NoName)) (qf_NoFraction_VE : PySem.W.kitOne K (.ref C_NoFraction) (.type "ValueError") = some true) (qf_NoFraction_NoFraction : PySem.W.kitOne K (.ref C_NoFraction) (.ref C_NoFraction) = some true) (qf_NoFraction_TooMany : PySem.W.kitOne K (.ref C_NoFraction) (.ref C_TooMany) = some false) (qf_NoFraction_TooFar : PySem.W.kitOne K (.ref C_NoFraction) (.ref C_TooFar) = some false) (qf_NoFraction_NoNumber : PySem.W.kitOne K (.ref C_NoFraction) (.ref C_NoNumber) = some false) (qf_NoFraction_NoWeights : PySem.W.kitOne K (.ref C_NoFraction) (.ref C_NoWeights) = some false) (qf_NoFraction_NoSeries : PySem.W.kitOne K (.ref C_NoFraction) (.ref C_NoSeries) = some false) (qf_NoFraction_NoMoments : PySem.W.kitOne K (.ref C_NoFraction) (.ref C_NoMoments) = some false) (qf_NoFraction_NoFamily : PySem.W.kitOne K (.ref C_NoFraction) (.ref C_NoFamily) = some false) (qf_NoFraction_NoMeeting : PySem.W.kitOne K (.ref C_NoFraction) (.ref C_NoMeeting) = some false) (qf_NoFraction_NoThing : PySem.W.kitOne K (.ref C_NoFraction) (.ref C_NoThing) = some false) (qf_NoFraction_NoLine : PySem.W.kitOne K (.ref C_NoFraction) (.ref C_NoLine) = some false) (qf_NoFraction_NoText : PySem.W.kitOne K (.ref C_NoFraction) (.ref C_NoText) = some false) (qf_NoFraction_NoWay : PySem.W.kitOne K (.ref C_NoFraction) (.ref C_NoWay) = some false) (qf_NoFraction_TooHigh : PySem.W.kitOne K (.ref C_NoFraction) (.ref C_TooHigh) = some false) (qf_NoFraction_NoHistory : PySem.W.kitOne K (.ref C_NoFraction) (.ref C_NoHistory) = some false) (qf_NoFraction_NoCount : PySem.W.kitOne K (.ref C_NoFraction) (.ref C_NoCount) = some false) (qf_NoFraction_NoName : PySem.W.kitOne K (.ref C_NoFraction) (.ref C_NoName) = some false) : FnP P w K mg base 1 zf zfd ["_law_e"] ((S_law_marks_NoFraction C_NoFraction)) := by
  have sc := sc_law_marks_NoFraction
  refine fnP_ok zF sc (by rintro a c ds r ⟨rfl, rfl, rfl⟩; rfl) ?_
  rintro zcd zAr zou zs zH zE ⟨a, zoe⟩ c hot hr ds r ⟨rfl, rfl, rfl⟩
  refine ds_setN (i := 1) (dn_lst (da_cons (de_isHB hot tf_NoFraction (by rfl) m_isinstance (de_var (n := 0) rfl (pv 0)) (by rfl) m_ValueError (by decide +kernel) qf_NoFraction_VE) (da_cons (de_isH hot tf_NoFraction (by rfl) m_isinstance (de_var (n := 0) rfl (pv 0)) (by rfl) gf_NoFraction qf_NoFraction_NoFraction) (da_cons (de_isH hot tf_NoFraction (by rfl) m_isinstance (de_var (n := 0) rfl (pv 0)) (by rfl) gf_TooMany qf_NoFraction_TooMany) da_nil))) (Nat.le_of_ble_eq_true rfl)) (ps_set sc.nd rfl (.inl rfl) pe_w) ?_
  refine ds_setN (i := 1) (dn_cat (dl_var (n := 1) rfl (pv 1)) (dn_lst (da_cons (de_isH hot tf_NoFraction (by rfl) m_isinstance (de_var (n := 0) rfl (pv 0)) (by rfl) gf_TooFar qf_NoFraction_TooFar) (da_cons (de_isH hot tf_NoFraction (by rfl) m_isinstance (de_var (n := 0) rfl (pv 0)) (by rfl) gf_NoNumber qf_NoFraction_NoNumber) (da_cons (de_isH hot tf_NoFraction (by rfl) m_isinstance (de_var (n := 0) rfl (pv 0)) (by rfl) gf_NoWeights qf_NoFraction_NoWeights) da_nil))) (Nat.le_of_ble_eq_true rfl)).dl ?g1) (ps_set sc.nd rfl (.inl rfl) pe_w) ?_
  case g1 => decide
  refine ds_setN (i := 1) (dn_cat (dl_var (n := 1) rfl (pv 1)) (dn_lst (da_cons (de_isH hot tf_NoFraction (by rfl) m_isinstance (de_var (n := 0) rfl (pv 0)) (by rfl) gf_NoSeries qf_NoFraction_NoSeries) (da_cons (de_isH hot tf_NoFraction (by rfl) m_isinstance (de_var (n := 0) rfl (pv 0)) (by rfl) gf_NoMoments qf_NoFraction_NoMoments) (da_cons (de_isH hot tf_NoFraction (by rfl) m_isinstance (de_var (n := 0) rfl (pv 0)) (by rfl) gf_NoFamily qf_NoFraction_NoFamily) da_nil))) (Nat.le_of_ble_eq_true rfl)).dl ?g2) (ps_set sc.nd rfl (.inl rfl) pe_w) ?_
  case g2 => decide
  refine ds_setN (i := 1) (dn_cat (dl_var (n := 1) rfl (pv 1)) (dn_lst (da_cons (de_isH hot tf_NoFraction (by rfl) m_isinstance (de_var (n := 0) rfl (pv 0)) (by rfl) gf_NoMeeting qf_NoFraction_NoMeeting) (da_cons (de_isH hot tf_NoFraction (by rfl) m_isinstance (de_var (n := 0) rfl (pv 0)) (by rfl) gf_NoThing qf_NoFraction_NoThing) (da_cons (de_isH hot tf_NoFraction (by rfl) m_isinstance (de_var (n := 0) rfl (pv 0)) (by rfl) gf_NoLine qf_NoFraction_NoLine) da_nil))) (Nat.le_of_ble_eq_true rfl)).dl ?g3) (ps_set sc.nd rfl (.inl rfl) pe_w) ?_
  case g3 => decide
  refine ds_setN (i := 1) (dn_cat (dl_var (n := 1) rfl (pv 1)) (dn_lst (da_cons (de_isH hot tf_NoFraction (by rfl) m_isinstance (de_var (n := 0) rfl (pv 0)) (by rfl) gf_NoText qf_NoFraction_NoText) (da_cons (de_isH hot tf_NoFraction (by rfl) m_isinstance (de_var (n := 0) rfl (pv 0)) (by rfl) gf_NoWay qf_NoFraction_NoWay) (da_cons (de_isH hot tf_NoFraction (by rfl) m_isinstance (de_var (n := 0) rfl (pv 0)) (by rfl) gf_TooHigh qf_NoFraction_TooHigh) da_nil))) (Nat.le_of_ble_eq_true rfl)).dl ?g4) (ps_set sc.nd rfl (.inl rfl) pe_w) ?_
  case g4 => decide
  refine ds_retN (dn_cat (dl_var (n := 1) rfl (pv 1)) (dn_lst (da_cons (de_isH hot tf_NoFraction (by rfl) m_isinstance (de_var (n := 0) rfl (pv 0)) (by rfl) gf_NoHistory qf_NoFraction_NoHistory) (da_cons (de_isH hot tf_NoFraction (by rfl) m_isinstance (de_var (n := 0) rfl (pv 0)) (by rfl) gf_NoCount qf_NoFraction_NoCount) (da_cons (de_isH hot tf_NoFraction (by rfl) m_isinstance (de_var (n := 0) rfl (pv 0)) (by rfl) gf_NoName qf_NoFraction_NoName) da_nil))) (Nat.le_of_ble_eq_true rfl)).dl ?g5) ?_
  case g5 => decide
  walk_at "hf_ret"
theorem sc_law_only : FnScope ["_law_at", "_law_k"] ["_law_at"] (defScope (topS 30)) := ⟨rfl, rfl, rfl, by decide +kernel, rfl, by decide +kernel, by decide +kernel⟩
theorem ok_law_only  {zf : Addr} {zfd : FuncData} (zF : Fun K "_law_only" "_law_only" (topS 30) zf zfd) (m_range : mg "range" = none)    : FnOk P w K mg base (L2N.CX P w) 1 zf zfd ["_law_at"] (spF K (S_law_only)) := by
  have sc := sc_law_only
  refine fn_ok zF sc (by rintro ds r ⟨j, rfl, rfl⟩; rfl) ?_
  rintro zcd zAr zou zs zH zE hr ds r ⟨j, rfl, rfl⟩
  have hpo : PassesOwn (model P w) (cxOf (L2N.CX P w) P w K mg base ["_law_at", "_law_k"] "_law_only" (defScope (topS 30)) zf zcd zAr zou zs zH zE).A (cxOf (L2N.CX P w) P w K mg base ["_law_at", "_law_k"] "_law_only" (defScope (topS 30)) zf zcd zAr zou zs zH zE).env (cxOf (L2N.CX P w) P w K mg base ["_law_at", "_law_k"] "_law_only" (defScope (topS 30)) zf zcd zAr zou zs zH zE).xe := passes_of rfl
  have hu : Roomy (cxOf (L2N.CX P w) P w K mg base ["_law_at", "_law_k"] "_law_only" (defScope (topS 30)) zf zcd zAr zou zs zH zE) := hr.units
  refine ds_retN (dn_lc (own := [("_law_k", 1)]) (rs := (onlyB j)) rfl sc.nd (di_r1 (by rfl) m_range de_int ?g1) (blkOk_by (N := ["_law_at", "_law_k"]) (sc := defScope (topS 30)) (by decide +kernel)) (fun _ d => [(1, d)]) ?g5 ?g6 ?g7 (fun i d hd s H C cl fp => ?g2_hg) ?g2_he) ?_
  case g2_hg => exact (dg_name (j := 1) (pg_name sc.nd rfl (.inl rfl)))
  case g2_he =>
    rintro i d y hd hy s H C cl fp
    obtain ⟨hi, rfl⟩ := rng0_some hd
    unfold onlyB at hy
    rw [List.getElem?_map, List.getElem?_range (by omega)] at hy
    cases hy
    refine DE.of (de_cmp (dc_in (de_var (n := 1) rfl (pv 1)) (de_tup (da_cons de_int (da_cons (de_var (n := 0) rfl (pv 0)) da_nil)) (Nat.le_of_ble_eq_true rfl)) (.inr rfl) ?g3 ?g4)) ?_
    case g3 => rfl
    case g4 => rfl
    rfl
  case g1 => decide
  case g5 => rfl
  case g6 => decide
  case g7 => walk_at "hf_hin"
  walk_at "hf_ret"
theorem sc_law_asked : FnScope ["_law_top", "_law_bottom", "_law_found", "_law_e"] ["_law_top", "_law_bottom"] (defScope (topS 31)) := ⟨rfl, rfl, rfl, by decide +kernel, rfl, by decide +kernel, by decide +kernel⟩
theorem ok_law_asked {C_HeightError : Addr} {zf : Addr} {zfd : FuncData} (zF : Fun K "_law_asked" "_law_asked" (topS 31) zf zfd)   (h_fraction : Has P w K mg base "fraction" 2 S_fraction) (gf_HeightError : mg "HeightError" = some (.ref C_HeightError)) : FnOk P w K mg base (L2N.CX P w) 3 zf zfd ["_law_top", "_law_bottom"] (spF K (S_law_asked)) := by
  have sc := sc_law_asked
  refine fn_ok zF sc (by rintro ds r ⟨t, b, rfl, hb, hz, rfl⟩; rfl) ?_
  rintro zcd zAr zou zs zH zE hr ds r ⟨t, b, rfl, hb, hz, rfl⟩
  have hpo : PassesOwn (model P w) (cxOf (L2N.CX P w) P w K mg base ["_law_top", "_law_bottom", "_law_found", "_law_e"] "_law_asked" (defScope (topS 31)) zf zcd zAr zou zs zH zE).A (cxOf (L2N.CX P w) P w K mg base ["_law_top", "_law_bottom", "_law_found", "_law_e"] "_law_asked" (defScope (topS 31)) zf zcd zAr zou zs zH zE).env (cxOf (L2N.CX P w) P w K mg base ["_law_top", "_law_bottom", "_law_found", "_law_e"] "_law_asked" (defScope (topS 31)) zf zcd zAr zou zs zH zE).xe := passes_of rfl
  have hu : Roomy (cxOf (L2N.CX P w) P w K mg base ["_law_top", "_law_bottom", "_law_found", "_law_e"] "_law_asked" (defScope (topS 31)) zf zcd zAr zou zs zH zE) := hr.units
  refine ds_set (i := 2) de_non (ps_set sc.nd rfl (.inl rfl) pe_w) ?_
  refine ds_try (i := 3) (fun _ _ _ => False) rfl rfl sc.nd rfl rfl ⟨by rfl, by decide, .inl gf_HeightError⟩ ?tb_1 ?ts_1
  case tb_1 =>
    intro pn xe
    refine ds_set (i := 2) (de_call h_fraction (hr.mono (by decide)) (by rfl) (da_cons (de_var (n := 0) rfl (pv 0)) (da_cons (de_var (n := 1) rfl (pv 1)) da_nil)) ⟨_, _, rfl, ?g1, ?g2, rfl⟩) (ps_set sc.nd rfl (.inl rfl) pe_w) ?_
    case g1 => exact hb
    case g2 => exact hz
    refine ds_nil ?_
    refine ds_ret (de_var (n := 2) rfl (pv 2)) ?_
    walk_at "hf_ret"
  case ts_1 =>
    exact fun C fs Γ z => z.elim
theorem sc_law_asked0 : FnScope ["_law_top", "_law_bottom", "_law_found", "_law_e"] ["_law_top", "_law_bottom"] (defScope (topS 31)) := ⟨rfl, rfl, rfl, by decide +kernel, rfl, by decide +kernel, by decide +kernel⟩
theorem ok_law_asked0 {C_HeightError : Addr} {C_NoFraction : Addr} {zf : Addr} {zfd : FuncData} (zF : Fun K "_law_asked" "_law_asked" (topS 31) zf zfd)   (h_fraction0 : Has P w K mg base "fraction" 1 (S_fraction0 C_NoFraction)) (h_law_marks_NoFraction : HasP P w K mg base "_law_marks" 1 (S_law_marks_NoFraction C_NoFraction)) (gf_HeightError : mg "HeightError" = some (.ref C_HeightError)) (mf_NoFraction_HeightError : PySem.W.exmOne K (.ref C_NoFraction) (.ref C_HeightError) = some true) : FnOk P w K mg base (L2N.CX P w) 2 zf zfd ["_law_top", "_law_bottom"] (spF K ((S_law_asked0 C_NoFraction))) := by
  have sc := sc_law_asked0
  refine fn_ok zF sc (by rintro ds r ⟨t, rfl, rfl⟩; rfl) ?_
  rintro zcd zAr zou zs zH zE hr ds r ⟨t, rfl, rfl⟩
  have hpo : PassesOwn (model P w) (cxOf (L2N.CX P w) P w K mg base ["_law_top", "_law_bottom", "_law_found", "_law_e"] "_law_asked" (defScope (topS 31)) zf zcd zAr zou zs zH zE).A (cxOf (L2N.CX P w) P w K mg base ["_law_top", "_law_bottom", "_law_found", "_law_e"] "_law_asked" (defScope (topS 31)) zf zcd zAr zou zs zH zE).env (cxOf (L2N.CX P w) P w K mg base ["_law_top", "_law_bottom", "_law_found", "_law_e"] "_law_asked" (defScope (topS 31)) zf zcd zAr zou zs zH zE).xe := passes_of rfl
  have hu : Roomy (cxOf (L2N.CX P w) P w K mg base ["_law_top", "_law_bottom", "_law_found", "_law_e"] "_law_asked" (defScope (topS 31)) zf zcd zAr zou zs zH zE) := hr.units
  refine ds_set (i := 2) de_non (ps_set sc.nd rfl (.inl rfl) pe_w) ?_
  refine ds_try (i := 3) (fun C fs Γ' => C = C_NoFraction ∧ fs = [] ∧ Γ' = [.d (.int t), .d (.int 0), .d .none, .no]) rfl rfl sc.nd rfl rfl ⟨by rfl, by decide, .inl gf_HeightError⟩ ?tb_1 ?ts_1
  case tb_1 =>
    intro pn xe
    refine ds_setX (i := 2) (dx_call h_fraction0 (hr.mono (by decide)) (by rfl) (da_cons (de_var (n := 0) rfl (pv 0)) (da_cons (de_var (n := 1) rfl (pv 1)) da_nil)) ⟨_, rfl, rfl⟩) (ps_set sc.nd rfl (.inl rfl) pe_w) ?_
    exact ⟨rfl, rfl, rfl⟩
  case ts_1 =>
    rintro C fs Γ' ⟨rfl, rfl, rfl⟩
    refine ⟨rfl, mf_NoFraction_HeightError, fun a oe pn hot => ?_⟩
    refine ds_setN (i := 2) (dn_callP h_law_marks_NoFraction hot (room_hot hr (by decide)) (by rfl) (da_cons (de_var (n := 3) rfl (pv 3)) da_nil) ⟨rfl, rfl, rfl⟩) (ps_set sc.nd rfl (.inl rfl) pe_w) ?_
    refine ds_nil ?_
    refine ds_retL (i := 2) rfl (pv 2) ?_
    walk_at "hf_ret"
theorem sc_law : FnScope ["_law_script", "_law_k", "_law_c", "_law_size", "_law_share", "_law_top", "_law_bottom", "_law_step", "_law_found"] ["_law_script"] (defScope (topS 32)) := ⟨rfl, rfl, rfl, by decide +kernel, rfl, by decide +kernel, by decide +kernel⟩
theorem ok_law {C_NoFraction : Addr} {zf : Addr} {zfd : FuncData} (zF : Fun K "law" "law" (topS 32) zf zfd) (m_len : mg "len" = none) (m_max : mg "max" = none) (m_min : mg "min" = none) (m_range : mg "range" = none)  (h_law_drawn : Has P w K mg base "_law_drawn" 2 S_law_drawn) (h_law_is_fraction : Has P w K mg base "_law_is_fraction" 2 S_law_is_fraction) (h_law_only : Has P w K mg base "_law_only" 1 S_law_only) (h_law_asked : Has P w K mg base "_law_asked" 3 S_law_asked) (h_law_asked0 : Has P w K mg base "_law_asked" 2 (S_law_asked0 C_NoFraction))  : FnOk P w K mg base (L2N.CX P w) 4 zf zfd ["_law_script"] (spF K (S_law)) := by
  have sc := sc_law
  refine fn_ok zF sc (by rintro ds r ⟨ns, rfl, hn, rfl⟩; rfl) ?_
  rintro zcd zAr zou zs zH zE hr ds r ⟨ns, rfl, hn, rfl⟩
  have hpo : PassesOwn (model P w) (cxOf (L2N.CX P w) P w K mg base ["_law_script", "_law_k", "_law_c", "_law_size", "_law_share", "_law_top", "_law_bottom", "_law_step", "_law_found"] "law" (defScope (topS 32)) zf zcd zAr zou zs zH zE).A (cxOf (L2N.CX P w) P w K mg base ["_law_script", "_law_k", "_law_c", "_law_size", "_law_share", "_law_top", "_law_bottom", "_law_step", "_law_found"] "law" (defScope (topS 32)) zf zcd zAr zou zs zH zE).env (cxOf (L2N.CX P w) P w K mg base ["_law_script", "_law_k", "_law_c", "_law_size", "_law_share", "_law_top", "_law_bottom", "_law_step", "_law_found"] "law" (defScope (topS 32)) zf zcd zAr zou zs zH zE).xe := passes_of rfl
  have hu : Roomy (cxOf (L2N.CX P w) P w K mg base ["_law_script", "_law_k", "_law_c", "_law_size", "_law_share", "_law_top", "_law_bottom", "_law_step", "_law_found"] "law" (defScope (topS 32)) zf zcd zAr zou zs zH zE) := hr.units
  refine ds_for (fun i Γ => ∃ c1 c2 c3 c4 c5 c6 c7 c8, Γ = [.d (.list (ns.map PyData.int)), c1, c2, c3, c4, c5, c6, c7, c8]) (fun _ d => [(1, d)]) hpo rfl (di_r1 (by rfl) m_range (de_max2 rfl (by rfl) m_max de_int (de_min2 rfl (by rfl) m_min (de_fdiv (de_lenL (by rfl) m_len (de_var (n := 0) rfl (pv 0))) de_int ?g1) de_int)) ?g2) ?hg_1 ?h0_1 ?hb_1 ?hd_1
  case g1 => exact div_sm ⟨by decide, by decide⟩
  case g2 => first | decide | (simp only [List.length_map]; split <;> split <;> omega)
  case hg_1 =>
    exact fun i d _ => (dg_name (j := 1) (pg_name sc.nd rfl (.inl rfl)))
  case h0_1 =>
    exact ⟨_, _, _, _, _, _, _, _, rfl⟩
  case hb_1 =>
    rintro i d Γ' hi ⟨c1, c2, c3, c4, c5, c6, c7, c8, rfl⟩
    obtain ⟨hj, rfl⟩ := rng0_some hi
    have hi30 : i < 64 := Nat.lt_of_lt_of_le hj (by simp only [List.length_map]; split <;> split <;> omega)
    have bd := vDrawn_bd ns (2 * (i : Int))
    have bd2 := vDrawn_bd ns (2 * (i : Int) + 1)
    obtain ⟨c, hc⟩ : ∃ c, c = vDrawn ns (2 * (i : Int)) := ⟨_, rfl⟩
    rw [← hc] at bd
    obtain ⟨z, hz, zb⟩ : ∃ z : Int, (if c % 2 = 0 then 12 else 10000000000000000000000000000000000000000) = z ∧ 12 ≤ z ∧ z ≤ 10 ^ 40 := ⟨_, rfl, by split <;> omega, by split <;> omega⟩
    have hx : L2.atI [PyData.int 12, PyData.int 10000000000000000000000000000000000000000] (c % 2) = some (.int z) := by
      rw [← hz]
      rcases (show c % 2 = 0 ∨ c % 2 = 1 by omega) with q | q <;> rw [q] <;> rfl
    obtain ⟨e, he, eb⟩ : ∃ e : Int, vDrawn ns (2 * (i : Int) + 1) % (2 * z + 1) - z = e ∧ -(10 ^ 41 : Int) < e ∧ e < 10 ^ 41 := ⟨_, rfl, by have := Int.emod_nonneg (vDrawn ns (2 * (i : Int) + 1)) (show 2 * z + 1 ≠ 0 by omega); omega, by have := Int.emod_lt_of_pos (vDrawn ns (2 * (i : Int) + 1)) (show 0 < 2 * z + 1 by omega); omega⟩
    obtain ⟨g, hg, gb⟩ : ∃ e : Int, c / 7 % (2 * z + 1) - z = e ∧ -(10 ^ 41 : Int) < e ∧ e < 10 ^ 41 := ⟨_, rfl, by have := Int.emod_nonneg (c / 7) (show 2 * z + 1 ≠ 0 by omega); omega, by have := Int.emod_lt_of_pos (c / 7) (show 0 < 2 * z + 1 by omega); omega⟩
    have btm : Bt 400 ((1 + c / 2 % 1000000000000) * g) := (Bt.mul (m := 60) (n := 140) (show (1 + c / 2 % 1000000000000).natAbs < 2 ^ 60 by omega) (show g.natAbs < 2 ^ 140 by omega)).mono (by decide)
    refine ds_set (i := 2) (de_call h_law_drawn (hr.mono (by decide)) (by rfl) (da_cons (de_var (n := 0) rfl (pv 0)) (da_cons (de_mulS de_int (de_var (n := 1) rfl (pv 1)) (by first | exact .inr ⟨by decide, by decide⟩ | exact .inl ⟨by decide, by decide⟩)) da_nil)) ⟨_, _, rfl, ?g3, ?g4, rfl⟩) (ps_set sc.nd rfl (.inl rfl) pe_w) ?_
    case g3 => omega
    case g4 => omega
    rw [← hc]
    refine ds_set (i := 3) (de_ixL ((dn_lst (da_cons de_int (da_cons (de_powN (n := 10000000000000000000000000000000000000000) de_int de_int ⟨by decide, by decide, by decide⟩ (by decide +kernel)) da_nil)) (Nat.le_of_ble_eq_true rfl))).de (de_mod (de_var (n := 2) rfl (pv 2)) de_int ?g5) (hx)) (ps_set sc.nd rfl (.inl rfl) pe_w) ?_
    case g5 => first | decide | omega
    refine ds_set (i := 4) (de_add de_int (de_mod (de_fdiv (de_var (n := 2) rfl (pv 2)) de_int ?g7) (de_powN (n := 1000000000000) de_int de_int ⟨by decide, by decide, by decide⟩ (by decide +kernel)) ?g8)) (ps_set sc.nd rfl (.inl rfl) pe_w) ?_
    case g7 => exact div_sm ⟨by decide, by decide⟩
    case g8 => first | decide | omega
    refine ds_set (i := 5) (de_mulB (de_var (n := 4) rfl (pv 4)) (de_sub (de_mod (de_call h_law_drawn (hr.mono (by decide)) (by rfl) (da_cons (de_var (n := 0) rfl (pv 0)) (da_cons (de_add (de_mulS de_int (de_var (n := 1) rfl (pv 1)) (by first | exact .inr ⟨by decide, by decide⟩ | exact .inl ⟨by decide, by decide⟩)) de_int) da_nil)) ⟨_, _, rfl, ?g9, ?g10, rfl⟩) (de_add (de_mulS de_int (de_var (n := 3) rfl (pv 3)) (by first | exact .inr ⟨by decide, by decide⟩ | exact .inl ⟨by decide, by decide⟩)) de_int) ?g11) (de_var (n := 3) rfl (pv 3))) ?g12) (ps_set sc.nd rfl (.inl rfl) pe_w) ?_
    case g9 => omega
    case g10 => omega
    case g11 => first | decide | omega
    case g12 => first | exact mul_sm ⟨by omega, by omega⟩ ⟨by omega, by omega⟩ | exact Mf.mul_ok (by walk_at "bt") (by walk_at "bt") (by decide)
    rw [he]
    refine ds_set (i := 6) (de_mulB (de_var (n := 4) rfl (pv 4)) (de_sub (de_mod (de_fdiv (de_var (n := 2) rfl (pv 2)) de_int ?g13) (de_add (de_mulS de_int (de_var (n := 3) rfl (pv 3)) (by first | exact .inr ⟨by decide, by decide⟩ | exact .inl ⟨by decide, by decide⟩)) de_int) ?g14) (de_var (n := 3) rfl (pv 3))) ?g15) (ps_set sc.nd rfl (.inl rfl) pe_w) ?_
    case g13 => exact div_sm ⟨by decide, by decide⟩
    case g14 => first | decide | omega
    case g15 => first | exact mul_sm ⟨by omega, by omega⟩ ⟨by omega, by omega⟩ | exact Mf.mul_ok (by walk_at "bt") (by walk_at "bt") (by decide)
    rw [hg]
    refine ds_cut (fun Γ => ∃ b : Int, Γ = [.d (.list (ns.map PyData.int)), .d (.int (i : Int)), .d (.int c), .d (.int z), .d (.int (1 + c / 2 % 1000000000000)), .d (.int ((1 + c / 2 % 1000000000000) * e)), .d (.int b), c7, c8] ∧ Bt 400 b) ?cu1 ?cr1
    case cu1 =>
      refine ds_when (dt_cmp (dc_eqI (de_mod (de_fdiv (de_var (n := 2) rfl (pv 2)) de_int ?g16) de_int ?g17) de_int)) (fun t1 => ?y1) (fun t1 => ?n1)
      case g16 => exact div_sm ⟨by decide, by decide⟩
      case g17 => first | decide | omega
      case y1 =>
        try simp only [decide_eq_true_eq, decide_eq_false_iff_not, Bool.not_eq_true', Bool.not_eq_false', Bool.and_eq_true, Bool.or_eq_true, Bool.and_eq_false_iff, Bool.or_eq_false_iff, Bool.not_eq_true, Bool.not_eq_false, Decidable.not_not] at t1
        refine ds_set (i := 6) de_int (ps_set sc.nd rfl (.inl rfl) pe_w) ?_
        refine ds_nil ?_
        refine ds_nil ?_
        first | exact ⟨_, rfl, btm⟩ | exact ⟨0, rfl, show (0 : Int).natAbs < 2 ^ 400 from Nat.pow_pos (by decide)⟩
      case n1 =>
        try simp only [decide_eq_true_eq, decide_eq_false_iff_not, Bool.not_eq_true', Bool.not_eq_false', Bool.and_eq_true, Bool.or_eq_true, Bool.and_eq_false_iff, Bool.or_eq_false_iff, Bool.not_eq_true, Bool.not_eq_false, Decidable.not_not] at t1
        refine ds_nil ?_
        first | exact ⟨_, rfl, btm⟩ | exact ⟨0, rfl, show (0 : Int).natAbs < 2 ^ 400 from Nat.pow_pos (by decide)⟩
    case cr1 =>
      rintro Γ' ⟨b, rfl, bb⟩
      refine ds_for (fun j Γ => ∃ c7 c8, Γ = [.d (.list (ns.map PyData.int)), .d (.int (i : Int)), .d (.int c), .d (.int z), .d (.int (1 + c / 2 % 1000000000000)), .d (.int ((1 + c / 2 % 1000000000000) * e)), .d (.int b), c7, c8]) (fun _ d => [(7, d)]) hpo rfl (di_r1 (by rfl) m_range de_int ?g18) ?hg_2 ?h0_2 ?hb_2 ?hd_2
      case g18 => first | decide | (simp only [List.length_map]; split <;> split <;> omega)
      case hg_2 =>
        exact fun i d _ => (dg_name (j := 7) (pg_name sc.nd rfl (.inl rfl)))
      case h0_2 =>
        exact ⟨_, _, rfl⟩
      case hb_2 =>
        rintro j d Γ' hi ⟨c7, c8, rfl⟩
        have btp : Bt 400 ((1 + c / 2 % 1000000000000) * e) := (Bt.mul (m := 60) (n := 140) (show (1 + c / 2 % 1000000000000).natAbs < 2 ^ 60 by omega) (show e.natAbs < 2 ^ 140 by omega)).mono (by decide)
        have yq : Sz 400 (Rat.divInt ((1 + c / 2 % 1000000000000) * e) b) := sz_divInt btp bb (by decide)
        by_cases hb : b = 0
        rotate_left
        ·
          refine ds_set (i := 8) (de_call h_law_asked (hr.mono (by decide)) (by rfl) (da_cons (de_var (n := 5) rfl (pv 5)) (da_cons (de_var (n := 6) rfl (pv 6)) da_nil)) ⟨_, _, rfl, ?g19, ?g20, rfl⟩) (ps_set sc.nd rfl (.inl rfl) pe_w) ?_
          case g19 => exact hb
          case g20 => exact bb.mono (by decide)
          refine ds_if (dt_cmp (dc_eqI (de_var (n := 6) rfl (pv 6)) de_int)) (fun t2 => ?y2) (fun t2 => ?n2)
          case y2 =>
            exact absurd (of_decide_eq_true t2) hb
            skip
          case n2 =>
            skip
            refine ds_when (dt_or (dt_not (dt_val (de_call h_law_is_fraction (hr.mono (by decide)) (by rfl) (da_cons (de_var (n := 8) rfl (pv 8)) da_nil) ⟨_, rfl, rfl⟩))) (fun q1 => (dw_or1 (dt_cmp (dc_neI (de_mulB (de_ixT (de_var (n := 8) rfl (pv 8)) de_int rfl) (de_var (n := 6) rfl (pv 6)) ?g21) (de_mulB (de_var (n := 5) rfl (pv 5)) (de_ixT (de_var (n := 8) rfl (pv 8)) de_int rfl) ?g22)))))) (fun t3 => ?y3) (fun t3 => ?n3)
            case g21 => first | exact mul_sm ⟨by omega, by omega⟩ ⟨by omega, by omega⟩ | exact Mf.mul_ok (by walk_at "bt") (by walk_at "bt") (by decide)
            case g22 => first | exact mul_sm ⟨by omega, by omega⟩ ⟨by omega, by omega⟩ | exact Mf.mul_ok (by walk_at "bt") (by walk_at "bt") (by decide)
            case y3 =>
              exact absurd t3 (by simp [cross hb])
              skip
            case n3 =>
              skip
              refine ds_nil ?_
              refine ds_nil ?_
              exact ⟨_, _, rfl⟩
        ·
          subst hb
          refine ds_setN (i := 8) (dn_call h_law_asked0 (hr.mono (by decide)) (by rfl) (da_cons (de_var (n := 5) rfl (pv 5)) (da_cons (de_var (n := 6) rfl (pv 6)) da_nil)) ⟨_, rfl, rfl⟩) (ps_set sc.nd rfl (.inl rfl) pe_w) ?_
          refine ds_if (dt_cmp (dc_eqI (de_var (n := 6) rfl (pv 6)) de_int)) (fun t4 => ?y4) (fun t4 => ?n4)
          case y4 =>
            skip
            refine ds_when (dt_cmp (dc_neV hu (dl_var (n := 8) rfl (pv 8)).v (dn_call h_law_only (hr.mono (by decide)) (by rfl) (da_cons de_int da_nil) ⟨_, rfl, rfl⟩).de.v ?g23 ?g24)) (fun t5 => ?y5) (fun t5 => ?n5)
            case g23 => first | exact sh_fr _ | decide +kernel
            case g24 => first | exact sh_fr _ | decide +kernel
            case y5 =>
              exact absurd t5 (by decide +kernel)
              skip
            case n5 =>
              skip
              refine ds_nil ?_
              refine ds_nil ?_
              exact ⟨_, _, rfl⟩
          case n4 =>
            exact absurd t4 (by decide)
            skip
      case hd_2 =>
        rintro Γ' ⟨c7, c8, rfl⟩
        refine ds_nil ?_
        exact ⟨_, _, _, _, _, _, _, _, rfl⟩
  case hd_1 =>
    rintro Γ' ⟨c1, c2, c3, c4, c5, c6, c7, c8, rfl⟩
    refine ds_ret de_bl ?_
    walk_at "hf_ret"
end
theorem all_mk {l : PySem.W.OpenLaw} {w : World} {K : PySem.W.Frag} {h : Heap} {mg : Str → Option Value} {fa : Addr} (X : K.In h) (G : h.Ns mainGlobals mg) (hfa : mg "law" = some (.ref fa))
    {f_shared_by : Addr} {oc_shared_by kV_shared_by dc_shared_by pm_shared_by cd_shared_by ct_shared_by : Value} {od_shared_by an_shared_by : Option Addr} {sl_shared_by : Array (Option Value)} {f_fraction : Addr} {oc_fraction kV_fraction dc_fraction pm_fraction cd_fraction ct_fraction : Value} {od_fraction an_fraction : Option Addr} {sl_fraction : Array (Option Value)} {f_law_cell_at : Addr} {oc_law_cell_at kV_law_cell_at dc_law_cell_at pm_law_cell_at cd_law_cell_at ct_law_cell_at : Value} {od_law_cell_at an_law_cell_at : Option Addr} {sl_law_cell_at : Array (Option Value)} {f_law_stir : Addr} {oc_law_stir kV_law_stir dc_law_stir pm_law_stir cd_law_stir ct_law_stir : Value} {od_law_stir an_law_stir : Option Addr} {sl_law_stir : Array (Option Value)} {f_law_drawn : Addr} {oc_law_drawn kV_law_drawn dc_law_drawn pm_law_drawn cd_law_drawn ct_law_drawn : Value} {od_law_drawn an_law_drawn : Option Addr} {sl_law_drawn : Array (Option Value)} {f_law_whole : Addr} {oc_law_whole kV_law_whole dc_law_whole pm_law_whole cd_law_whole ct_law_whole : Value} {od_law_whole an_law_whole : Option Addr} {sl_law_whole : Array (Option Value)} {f_law_divisor : Addr} {oc_law_divisor kV_law_divisor dc_law_divisor pm_law_divisor cd_law_divisor ct_law_divisor : Value} {od_law_divisor an_law_divisor : Option Addr} {sl_law_divisor : Array (Option Value)} {f_law_is_fraction : Addr} {oc_law_is_fraction kV_law_is_fraction dc_law_is_fraction pm_law_is_fraction cd_law_is_fraction ct_law_is_fraction : Value} {od_law_is_fraction an_law_is_fraction : Option Addr} {sl_law_is_fraction : Array (Option Value)} {f_law_marks : Addr} {oc_law_marks kV_law_marks dc_law_marks pm_law_marks cd_law_marks ct_law_marks : Value} {od_law_marks an_law_marks : Option Addr} {sl_law_marks : Array (Option Value)} {f_law_only : Addr} {oc_law_only kV_law_only dc_law_only pm_law_only cd_law_only ct_law_only : Value} {od_law_only an_law_only : Option Addr} {sl_law_only : Array (Option Value)} {f_law_asked : Addr} {oc_law_asked kV_law_asked dc_law_asked pm_law_asked cd_law_asked ct_law_asked : Value} {od_law_asked an_law_asked : Option Addr} {sl_law_asked : Array (Option Value)} {f_law : Addr} {oc_law kV_law dc_law pm_law cd_law ct_law : Value} {od_law an_law : Option Addr} {sl_law : Array (Option Value)} {C_HeightError : Addr} {C_NoCount : Addr} {C_NoFamily : Addr} {C_NoFraction : Addr} {C_NoHistory : Addr} {C_NoLine : Addr} {C_NoMeeting : Addr} {C_NoMoments : Addr} {C_NoName : Addr} {C_NoNumber : Addr} {C_NoSeries : Addr} {C_NoText : Addr} {C_NoThing : Addr} {C_NoWay : Addr} {C_NoWeights : Addr} {C_TooFar : Addr} {C_TooHigh : Addr} {C_TooMany : Addr} 
    (a_shared_by : PySem.W.nsIn K mainGlobals "shared_by" = some (some (.ref f_shared_by)))
    (l_shared_by : K.lookup f_shared_by = some ⟨oc_shared_by, od_shared_by, .func (PySem.W.fnOf "shared_by" "shared_by" (defArgs (topS 20)) (defBody (topS 20)) (defScope (topS 20)) .none kV_shared_by dc_shared_by pm_shared_by an_shared_by cd_shared_by ct_shared_by), sl_shared_by⟩)
    (c_shared_by : PySem.W.codeIn K cd_shared_by "shared_by" = true)
    (k_shared_by : PySem.W.keepIn K (.ref f_shared_by) = true)
    (a_fraction : PySem.W.nsIn K mainGlobals "fraction" = some (some (.ref f_fraction)))
    (l_fraction : K.lookup f_fraction = some ⟨oc_fraction, od_fraction, .func (PySem.W.fnOf "fraction" "fraction" (defArgs (topS 21)) (defBody (topS 21)) (defScope (topS 21)) .none kV_fraction dc_fraction pm_fraction an_fraction cd_fraction ct_fraction), sl_fraction⟩)
    (c_fraction : PySem.W.codeIn K cd_fraction "fraction" = true)
    (k_fraction : PySem.W.keepIn K (.ref f_fraction) = true)
    (a_law_cell_at : PySem.W.nsIn K mainGlobals "_law_cell_at" = some (some (.ref f_law_cell_at)))
    (l_law_cell_at : K.lookup f_law_cell_at = some ⟨oc_law_cell_at, od_law_cell_at, .func (PySem.W.fnOf "_law_cell_at" "_law_cell_at" (defArgs (topS 23)) (defBody (topS 23)) (defScope (topS 23)) .none kV_law_cell_at dc_law_cell_at pm_law_cell_at an_law_cell_at cd_law_cell_at ct_law_cell_at), sl_law_cell_at⟩)
    (c_law_cell_at : PySem.W.codeIn K cd_law_cell_at "_law_cell_at" = true)
    (k_law_cell_at : PySem.W.keepIn K (.ref f_law_cell_at) = true)
    (a_law_stir : PySem.W.nsIn K mainGlobals "_law_stir" = some (some (.ref f_law_stir)))
    (l_law_stir : K.lookup f_law_stir = some ⟨oc_law_stir, od_law_stir, .func (PySem.W.fnOf "_law_stir" "_law_stir" (defArgs (topS 24)) (defBody (topS 24)) (defScope (topS 24)) .none kV_law_stir dc_law_stir pm_law_stir an_law_stir cd_law_stir ct_law_stir), sl_law_stir⟩)
    (c_law_stir : PySem.W.codeIn K cd_law_stir "_law_stir" = true)
    (k_law_stir : PySem.W.keepIn K (.ref f_law_stir) = true)
    (a_law_drawn : PySem.W.nsIn K mainGlobals "_law_drawn" = some (some (.ref f_law_drawn)))
    (l_law_drawn : K.lookup f_law_drawn = some ⟨oc_law_drawn, od_law_drawn, .func (PySem.W.fnOf "_law_drawn" "_law_drawn" (defArgs (topS 25)) (defBody (topS 25)) (defScope (topS 25)) .none kV_law_drawn dc_law_drawn pm_law_drawn an_law_drawn cd_law_drawn ct_law_drawn), sl_law_drawn⟩)
    (c_law_drawn : PySem.W.codeIn K cd_law_drawn "_law_drawn" = true)
    (k_law_drawn : PySem.W.keepIn K (.ref f_law_drawn) = true)
    (a_law_whole : PySem.W.nsIn K mainGlobals "_law_whole" = some (some (.ref f_law_whole)))
    (l_law_whole : K.lookup f_law_whole = some ⟨oc_law_whole, od_law_whole, .func (PySem.W.fnOf "_law_whole" "_law_whole" (defArgs (topS 26)) (defBody (topS 26)) (defScope (topS 26)) .none kV_law_whole dc_law_whole pm_law_whole an_law_whole cd_law_whole ct_law_whole), sl_law_whole⟩)
    (c_law_whole : PySem.W.codeIn K cd_law_whole "_law_whole" = true)
    (k_law_whole : PySem.W.keepIn K (.ref f_law_whole) = true)
    (a_law_divisor : PySem.W.nsIn K mainGlobals "_law_divisor" = some (some (.ref f_law_divisor)))
    (l_law_divisor : K.lookup f_law_divisor = some ⟨oc_law_divisor, od_law_divisor, .func (PySem.W.fnOf "_law_divisor" "_law_divisor" (defArgs (topS 27)) (defBody (topS 27)) (defScope (topS 27)) .none kV_law_divisor dc_law_divisor pm_law_divisor an_law_divisor cd_law_divisor ct_law_divisor), sl_law_divisor⟩)
    (c_law_divisor : PySem.W.codeIn K cd_law_divisor "_law_divisor" = true)
    (k_law_divisor : PySem.W.keepIn K (.ref f_law_divisor) = true)
    (a_law_is_fraction : PySem.W.nsIn K mainGlobals "_law_is_fraction" = some (some (.ref f_law_is_fraction)))
    (l_law_is_fraction : K.lookup f_law_is_fraction = some ⟨oc_law_is_fraction, od_law_is_fraction, .func (PySem.W.fnOf "_law_is_fraction" "_law_is_fraction" (defArgs (topS 28)) (defBody (topS 28)) (defScope (topS 28)) .none kV_law_is_fraction dc_law_is_fraction pm_law_is_fraction an_law_is_fraction cd_law_is_fraction ct_law_is_fraction), sl_law_is_fraction⟩)
    (c_law_is_fraction : PySem.W.codeIn K cd_law_is_fraction "_law_is_fraction" = true)
    (k_law_is_fraction : PySem.W.keepIn K (.ref f_law_is_fraction) = true)
    (a_law_marks : PySem.W.nsIn K mainGlobals "_law_marks" = some (some (.ref f_law_marks)))
    (l_law_marks : K.lookup f_law_marks = some ⟨oc_law_marks, od_law_marks, .func (PySem.W.fnOf "_law_marks" "_law_marks" (defArgs (topS 29)) (defBody (topS 29)) (defScope (topS 29)) .none kV_law_marks dc_law_marks pm_law_marks an_law_marks cd_law_marks ct_law_marks), sl_law_marks⟩)
    (c_law_marks : PySem.W.codeIn K cd_law_marks "_law_marks" = true)
    (k_law_marks : PySem.W.keepIn K (.ref f_law_marks) = true)
    (a_law_only : PySem.W.nsIn K mainGlobals "_law_only" = some (some (.ref f_law_only)))
    (l_law_only : K.lookup f_law_only = some ⟨oc_law_only, od_law_only, .func (PySem.W.fnOf "_law_only" "_law_only" (defArgs (topS 30)) (defBody (topS 30)) (defScope (topS 30)) .none kV_law_only dc_law_only pm_law_only an_law_only cd_law_only ct_law_only), sl_law_only⟩)
    (c_law_only : PySem.W.codeIn K cd_law_only "_law_only" = true)
    (k_law_only : PySem.W.keepIn K (.ref f_law_only) = true)
    (a_law_asked : PySem.W.nsIn K mainGlobals "_law_asked" = some (some (.ref f_law_asked)))
    (l_law_asked : K.lookup f_law_asked = some ⟨oc_law_asked, od_law_asked, .func (PySem.W.fnOf "_law_asked" "_law_asked" (defArgs (topS 31)) (defBody (topS 31)) (defScope (topS 31)) .none kV_law_asked dc_law_asked pm_law_asked an_law_asked cd_law_asked ct_law_asked), sl_law_asked⟩)
    (c_law_asked : PySem.W.codeIn K cd_law_asked "_law_asked" = true)
    (k_law_asked : PySem.W.keepIn K (.ref f_law_asked) = true)
    (a_law : PySem.W.nsIn K mainGlobals "law" = some (some (.ref f_law)))
    (l_law : K.lookup f_law = some ⟨oc_law, od_law, .func (PySem.W.fnOf "law" "law" (defArgs (topS 32)) (defBody (topS 32)) (defScope (topS 32)) .none kV_law dc_law pm_law an_law cd_law ct_law), sl_law⟩)
    (c_law : PySem.W.codeIn K cd_law "law" = true)
    (k_law : PySem.W.keepIn K (.ref f_law) = true)
    (z_ValueError : PySem.W.nsIn K mainGlobals "ValueError" = some none)
    (z_abs : PySem.W.nsIn K mainGlobals "abs" = some none)
    (z_bool : PySem.W.nsIn K mainGlobals "bool" = some none)
    (z_int : PySem.W.nsIn K mainGlobals "int" = some none)
    (z_isinstance : PySem.W.nsIn K mainGlobals "isinstance" = some none)
    (z_len : PySem.W.nsIn K mainGlobals "len" = some none)
    (z_max : PySem.W.nsIn K mainGlobals "max" = some none)
    (z_min : PySem.W.nsIn K mainGlobals "min" = some none)
    (z_range : PySem.W.nsIn K mainGlobals "range" = some none)
    (z_tuple : PySem.W.nsIn K mainGlobals "tuple" = some none)
    (aC_HeightError : PySem.W.nsIn K mainGlobals "HeightError" = some (some (.ref C_HeightError)))
    (aC_NoCount : PySem.W.nsIn K mainGlobals "NoCount" = some (some (.ref C_NoCount)))
    (aC_NoFamily : PySem.W.nsIn K mainGlobals "NoFamily" = some (some (.ref C_NoFamily)))
    (aC_NoFraction : PySem.W.nsIn K mainGlobals "NoFraction" = some (some (.ref C_NoFraction)))
    (aC_NoHistory : PySem.W.nsIn K mainGlobals "NoHistory" = some (some (.ref C_NoHistory)))
    (aC_NoLine : PySem.W.nsIn K mainGlobals "NoLine" = some (some (.ref C_NoLine)))
    (aC_NoMeeting : PySem.W.nsIn K mainGlobals "NoMeeting" = some (some (.ref C_NoMeeting)))
    (aC_NoMoments : PySem.W.nsIn K mainGlobals "NoMoments" = some (some (.ref C_NoMoments)))
    (aC_NoName : PySem.W.nsIn K mainGlobals "NoName" = some (some (.ref C_NoName)))
    (aC_NoNumber : PySem.W.nsIn K mainGlobals "NoNumber" = some (some (.ref C_NoNumber)))
    (aC_NoSeries : PySem.W.nsIn K mainGlobals "NoSeries" = some (some (.ref C_NoSeries)))
    (aC_NoText : PySem.W.nsIn K mainGlobals "NoText" = some (some (.ref C_NoText)))
    (aC_NoThing : PySem.W.nsIn K mainGlobals "NoThing" = some (some (.ref C_NoThing)))
    (aC_NoWay : PySem.W.nsIn K mainGlobals "NoWay" = some (some (.ref C_NoWay)))
    (aC_NoWeights : PySem.W.nsIn K mainGlobals "NoWeights" = some (some (.ref C_NoWeights)))
    (aC_TooFar : PySem.W.nsIn K mainGlobals "TooFar" = some (some (.ref C_TooFar)))
    (aC_TooHigh : PySem.W.nsIn K mainGlobals "TooHigh" = some (some (.ref C_TooHigh)))
    (aC_TooMany : PySem.W.nsIn K mainGlobals "TooMany" = some (some (.ref C_TooMany)))
    (xq_NoFraction : ∃ bm, ExcBaseFacts "ValueError" "ValueError.__new__" "ValueError.__init__" bm ∧ PySem.W.excIn K C_NoFraction bm "ValueError.__new__" = true)
    (xk_NoFraction : PySem.W.keepIn K (.ref C_NoFraction) = true)
    (xb_NoFraction : PySem.W.subIn K (.ref C_NoFraction) (.type "BaseException") = some true)
    (xt_NoFraction : PySem.W.typeIn K (.ref C_NoFraction) = some (.type "type"))
    (tf_NoFraction : ExcC K C_NoFraction)
    (bc_HeightError : PySem.W.subIn K (.ref C_HeightError) (.type "BaseException") = some true)
    (ic_HeightError : PySem.W.isClsIn K C_HeightError = true)
    (ic_NoCount : PySem.W.isClsIn K C_NoCount = true)
    (ic_NoFamily : PySem.W.isClsIn K C_NoFamily = true)
    (ic_NoFraction : PySem.W.isClsIn K C_NoFraction = true)
    (ic_NoHistory : PySem.W.isClsIn K C_NoHistory = true)
    (ic_NoLine : PySem.W.isClsIn K C_NoLine = true)
    (ic_NoMeeting : PySem.W.isClsIn K C_NoMeeting = true)
    (ic_NoMoments : PySem.W.isClsIn K C_NoMoments = true)
    (ic_NoName : PySem.W.isClsIn K C_NoName = true)
    (ic_NoNumber : PySem.W.isClsIn K C_NoNumber = true)
    (ic_NoSeries : PySem.W.isClsIn K C_NoSeries = true)
    (ic_NoText : PySem.W.isClsIn K C_NoText = true)
    (ic_NoThing : PySem.W.isClsIn K C_NoThing = true)
    (ic_NoWay : PySem.W.isClsIn K C_NoWay = true)
    (ic_NoWeights : PySem.W.isClsIn K C_NoWeights = true)
    (ic_TooFar : PySem.W.isClsIn K C_TooFar = true)
    (ic_TooHigh : PySem.W.isClsIn K C_TooHigh = true)
    (ic_TooMany : PySem.W.isClsIn K C_TooMany = true)
    (sf_NoFraction_HeightError : PySem.W.subIn K (.ref C_NoFraction) (.ref C_HeightError) = some true)
    (sf_NoFraction_NoCount : PySem.W.subIn K (.ref C_NoFraction) (.ref C_NoCount) = some false)
    (sf_NoFraction_NoFamily : PySem.W.subIn K (.ref C_NoFraction) (.ref C_NoFamily) = some false)
    (sf_NoFraction_NoFraction : PySem.W.subIn K (.ref C_NoFraction) (.ref C_NoFraction) = some true)
    (sf_NoFraction_NoHistory : PySem.W.subIn K (.ref C_NoFraction) (.ref C_NoHistory) = some false)
    (sf_NoFraction_NoLine : PySem.W.subIn K (.ref C_NoFraction) (.ref C_NoLine) = some false)
    (sf_NoFraction_NoMeeting : PySem.W.subIn K (.ref C_NoFraction) (.ref C_NoMeeting) = some false)
    (sf_NoFraction_NoMoments : PySem.W.subIn K (.ref C_NoFraction) (.ref C_NoMoments) = some false)
    (sf_NoFraction_NoName : PySem.W.subIn K (.ref C_NoFraction) (.ref C_NoName) = some false)
    (sf_NoFraction_NoNumber : PySem.W.subIn K (.ref C_NoFraction) (.ref C_NoNumber) = some false)
    (sf_NoFraction_NoSeries : PySem.W.subIn K (.ref C_NoFraction) (.ref C_NoSeries) = some false)
    (sf_NoFraction_NoText : PySem.W.subIn K (.ref C_NoFraction) (.ref C_NoText) = some false)
    (sf_NoFraction_NoThing : PySem.W.subIn K (.ref C_NoFraction) (.ref C_NoThing) = some false)
    (sf_NoFraction_NoWay : PySem.W.subIn K (.ref C_NoFraction) (.ref C_NoWay) = some false)
    (sf_NoFraction_NoWeights : PySem.W.subIn K (.ref C_NoFraction) (.ref C_NoWeights) = some false)
    (sf_NoFraction_TooFar : PySem.W.subIn K (.ref C_NoFraction) (.ref C_TooFar) = some false)
    (sf_NoFraction_TooHigh : PySem.W.subIn K (.ref C_NoFraction) (.ref C_TooHigh) = some false)
    (sf_NoFraction_TooMany : PySem.W.subIn K (.ref C_NoFraction) (.ref C_TooMany) = some false)
    (sf_NoFraction_VE : PySem.W.subIn K (.ref C_NoFraction) (.type "ValueError") = some true)
    (tc_HeightError : PySem.W.typeIn K (.ref C_HeightError) = some (.type "type"))
    (tc_NoCount : PySem.W.typeIn K (.ref C_NoCount) = some (.type "type"))
    (tc_NoFamily : PySem.W.typeIn K (.ref C_NoFamily) = some (.type "type"))
    (tc_NoFraction : PySem.W.typeIn K (.ref C_NoFraction) = some (.type "type"))
    (tc_NoHistory : PySem.W.typeIn K (.ref C_NoHistory) = some (.type "type"))
    (tc_NoLine : PySem.W.typeIn K (.ref C_NoLine) = some (.type "type"))
    (tc_NoMeeting : PySem.W.typeIn K (.ref C_NoMeeting) = some (.type "type"))
    (tc_NoMoments : PySem.W.typeIn K (.ref C_NoMoments) = some (.type "type"))
    (tc_NoName : PySem.W.typeIn K (.ref C_NoName) = some (.type "type"))
    (tc_NoNumber : PySem.W.typeIn K (.ref C_NoNumber) = some (.type "type"))
    (tc_NoSeries : PySem.W.typeIn K (.ref C_NoSeries) = some (.type "type"))
    (tc_NoText : PySem.W.typeIn K (.ref C_NoText) = some (.type "type"))
    (tc_NoThing : PySem.W.typeIn K (.ref C_NoThing) = some (.type "type"))
    (tc_NoWay : PySem.W.typeIn K (.ref C_NoWay) = some (.type "type"))
    (tc_NoWeights : PySem.W.typeIn K (.ref C_NoWeights) = some (.type "type"))
    (tc_TooFar : PySem.W.typeIn K (.ref C_TooFar) = some (.type "type"))
    (tc_TooHigh : PySem.W.typeIn K (.ref C_TooHigh) = some (.type "type"))
    (tc_TooMany : PySem.W.typeIn K (.ref C_TooMany) = some (.type "type"))
    : ∃ fd : FuncData, (∀ (s : Shared) (v : Value), BindsTo s fd ⟨[v], []⟩ [("_law_script", v)]) ∧ ∀ base : Heap, K.In base → base.Ns mainGlobals mg → FnOk l.prog w K mg base (L2N.CX l.prog w) 4 fa fd ["_law_script"] (spF K S_law) := by
  have e := hfa.symm.trans (PySem.W.mg_of X G a_law)
  cases e
  have F_shared_by := fun_mk (st := topS 20) l_shared_by c_shared_by k_shared_by
  have b_shared_by := F_shared_by.binds (ps := ["one", "other"]) fun _ _ _ _ _ _ us hl => match us, hl with | [_, _], _ => rfl
  have g_shared_by := PySem.W.mg_of X G a_shared_by
  have F_fraction := fun_mk (st := topS 21) l_fraction c_fraction k_fraction
  have b_fraction := F_fraction.binds (ps := ["top", "bottom"]) fun _ _ _ _ _ _ us hl => match us, hl with | [_, _], _ => rfl
  have g_fraction := PySem.W.mg_of X G a_fraction
  have F_law_cell_at := fun_mk (st := topS 23) l_law_cell_at c_law_cell_at k_law_cell_at
  have b_law_cell_at := F_law_cell_at.binds (ps := ["_law_script", "_law_k"]) fun _ _ _ _ _ _ us hl => match us, hl with | [_, _], _ => rfl
  have g_law_cell_at := PySem.W.mg_of X G a_law_cell_at
  have F_law_stir := fun_mk (st := topS 24) l_law_stir c_law_stir k_law_stir
  have b_law_stir := F_law_stir.binds (ps := ["_law_cell", "_law_k"]) fun _ _ _ _ _ _ us hl => match us, hl with | [_, _], _ => rfl
  have g_law_stir := PySem.W.mg_of X G a_law_stir
  have F_law_drawn := fun_mk (st := topS 25) l_law_drawn c_law_drawn k_law_drawn
  have b_law_drawn := F_law_drawn.binds (ps := ["_law_script", "_law_k"]) fun _ _ _ _ _ _ us hl => match us, hl with | [_, _], _ => rfl
  have g_law_drawn := PySem.W.mg_of X G a_law_drawn
  have F_law_whole := fun_mk (st := topS 26) l_law_whole c_law_whole k_law_whole
  have b_law_whole := F_law_whole.binds (ps := ["_law_found"]) fun _ _ _ _ _ _ us hl => match us, hl with | [_], _ => rfl
  have g_law_whole := PySem.W.mg_of X G a_law_whole
  have F_law_divisor := fun_mk (st := topS 27) l_law_divisor c_law_divisor k_law_divisor
  have b_law_divisor := F_law_divisor.binds (ps := ["_law_a", "_law_b"]) fun _ _ _ _ _ _ us hl => match us, hl with | [_, _], _ => rfl
  have g_law_divisor := PySem.W.mg_of X G a_law_divisor
  have F_law_is_fraction := fun_mk (st := topS 28) l_law_is_fraction c_law_is_fraction k_law_is_fraction
  have b_law_is_fraction := F_law_is_fraction.binds (ps := ["_law_found"]) fun _ _ _ _ _ _ us hl => match us, hl with | [_], _ => rfl
  have g_law_is_fraction := PySem.W.mg_of X G a_law_is_fraction
  have F_law_marks := fun_mk (st := topS 29) l_law_marks c_law_marks k_law_marks
  have b_law_marks := F_law_marks.binds (ps := ["_law_e"]) fun _ _ _ _ _ _ us hl => match us, hl with | [_], _ => rfl
  have g_law_marks := PySem.W.mg_of X G a_law_marks
  have F_law_only := fun_mk (st := topS 30) l_law_only c_law_only k_law_only
  have b_law_only := F_law_only.binds (ps := ["_law_at"]) fun _ _ _ _ _ _ us hl => match us, hl with | [_], _ => rfl
  have g_law_only := PySem.W.mg_of X G a_law_only
  have F_law_asked := fun_mk (st := topS 31) l_law_asked c_law_asked k_law_asked
  have b_law_asked := F_law_asked.binds (ps := ["_law_top", "_law_bottom"]) fun _ _ _ _ _ _ us hl => match us, hl with | [_, _], _ => rfl
  have g_law_asked := PySem.W.mg_of X G a_law_asked
  have F_law := fun_mk (st := topS 32) l_law c_law k_law
  have b_law := F_law.binds (ps := ["_law_script"]) fun _ _ _ _ _ _ us hl => match us, hl with | [_], _ => rfl
  have g_law := PySem.W.mg_of X G a_law
  have m_ValueError := PySem.W.mg_none_of X G z_ValueError
  have m_abs := PySem.W.mg_none_of X G z_abs
  have m_bool := PySem.W.mg_none_of X G z_bool
  have m_int := PySem.W.mg_none_of X G z_int
  have m_isinstance := PySem.W.mg_none_of X G z_isinstance
  have m_len := PySem.W.mg_none_of X G z_len
  have m_max := PySem.W.mg_none_of X G z_max
  have m_min := PySem.W.mg_none_of X G z_min
  have m_range := PySem.W.mg_none_of X G z_range
  have m_tuple := PySem.W.mg_none_of X G z_tuple
  have xf_NoFraction : Ecl K mg "NoFraction" C_NoFraction := ⟨xq_NoFraction, PySem.W.mg_of X G aC_NoFraction, xk_NoFraction, xb_NoFraction, xt_NoFraction⟩
  have gf_NoFraction := PySem.W.mg_of X G aC_NoFraction
  have gf_TooMany := PySem.W.mg_of X G aC_TooMany
  have gf_TooFar := PySem.W.mg_of X G aC_TooFar
  have gf_NoNumber := PySem.W.mg_of X G aC_NoNumber
  have gf_NoWeights := PySem.W.mg_of X G aC_NoWeights
  have gf_NoSeries := PySem.W.mg_of X G aC_NoSeries
  have gf_NoMoments := PySem.W.mg_of X G aC_NoMoments
  have gf_NoFamily := PySem.W.mg_of X G aC_NoFamily
  have gf_NoMeeting := PySem.W.mg_of X G aC_NoMeeting
  have gf_NoThing := PySem.W.mg_of X G aC_NoThing
  have gf_NoLine := PySem.W.mg_of X G aC_NoLine
  have gf_NoText := PySem.W.mg_of X G aC_NoText
  have gf_NoWay := PySem.W.mg_of X G aC_NoWay
  have gf_TooHigh := PySem.W.mg_of X G aC_TooHigh
  have gf_NoHistory := PySem.W.mg_of X G aC_NoHistory
  have gf_NoCount := PySem.W.mg_of X G aC_NoCount
  have gf_NoName := PySem.W.mg_of X G aC_NoName
  have qf_NoFraction_VE : PySem.W.kitOne K (.ref C_NoFraction) (.type "ValueError") = some true := kone_ve sf_NoFraction_VE
  have qf_NoFraction_NoFraction : PySem.W.kitOne K (.ref C_NoFraction) (.ref C_NoFraction) = some true := kone_of sf_NoFraction_NoFraction ic_NoFraction tc_NoFraction sf_NoFraction_NoFraction
  have qf_NoFraction_TooMany : PySem.W.kitOne K (.ref C_NoFraction) (.ref C_TooMany) = some false := kone_of sf_NoFraction_NoFraction ic_TooMany tc_TooMany sf_NoFraction_TooMany
  have qf_NoFraction_TooFar : PySem.W.kitOne K (.ref C_NoFraction) (.ref C_TooFar) = some false := kone_of sf_NoFraction_NoFraction ic_TooFar tc_TooFar sf_NoFraction_TooFar
  have qf_NoFraction_NoNumber : PySem.W.kitOne K (.ref C_NoFraction) (.ref C_NoNumber) = some false := kone_of sf_NoFraction_NoFraction ic_NoNumber tc_NoNumber sf_NoFraction_NoNumber
  have qf_NoFraction_NoWeights : PySem.W.kitOne K (.ref C_NoFraction) (.ref C_NoWeights) = some false := kone_of sf_NoFraction_NoFraction ic_NoWeights tc_NoWeights sf_NoFraction_NoWeights
  have qf_NoFraction_NoSeries : PySem.W.kitOne K (.ref C_NoFraction) (.ref C_NoSeries) = some false := kone_of sf_NoFraction_NoFraction ic_NoSeries tc_NoSeries sf_NoFraction_NoSeries
  have qf_NoFraction_NoMoments : PySem.W.kitOne K (.ref C_NoFraction) (.ref C_NoMoments) = some false := kone_of sf_NoFraction_NoFraction ic_NoMoments tc_NoMoments sf_NoFraction_NoMoments
  have qf_NoFraction_NoFamily : PySem.W.kitOne K (.ref C_NoFraction) (.ref C_NoFamily) = some false := kone_of sf_NoFraction_NoFraction ic_NoFamily tc_NoFamily sf_NoFraction_NoFamily
  have qf_NoFraction_NoMeeting : PySem.W.kitOne K (.ref C_NoFraction) (.ref C_NoMeeting) = some false := kone_of sf_NoFraction_NoFraction ic_NoMeeting tc_NoMeeting sf_NoFraction_NoMeeting
  have qf_NoFraction_NoThing : PySem.W.kitOne K (.ref C_NoFraction) (.ref C_NoThing) = some false := kone_of sf_NoFraction_NoFraction ic_NoThing tc_NoThing sf_NoFraction_NoThing
  have qf_NoFraction_NoLine : PySem.W.kitOne K (.ref C_NoFraction) (.ref C_NoLine) = some false := kone_of sf_NoFraction_NoFraction ic_NoLine tc_NoLine sf_NoFraction_NoLine
  have qf_NoFraction_NoText : PySem.W.kitOne K (.ref C_NoFraction) (.ref C_NoText) = some false := kone_of sf_NoFraction_NoFraction ic_NoText tc_NoText sf_NoFraction_NoText
  have qf_NoFraction_NoWay : PySem.W.kitOne K (.ref C_NoFraction) (.ref C_NoWay) = some false := kone_of sf_NoFraction_NoFraction ic_NoWay tc_NoWay sf_NoFraction_NoWay
  have qf_NoFraction_TooHigh : PySem.W.kitOne K (.ref C_NoFraction) (.ref C_TooHigh) = some false := kone_of sf_NoFraction_NoFraction ic_TooHigh tc_TooHigh sf_NoFraction_TooHigh
  have qf_NoFraction_NoHistory : PySem.W.kitOne K (.ref C_NoFraction) (.ref C_NoHistory) = some false := kone_of sf_NoFraction_NoFraction ic_NoHistory tc_NoHistory sf_NoFraction_NoHistory
  have qf_NoFraction_NoCount : PySem.W.kitOne K (.ref C_NoFraction) (.ref C_NoCount) = some false := kone_of sf_NoFraction_NoFraction ic_NoCount tc_NoCount sf_NoFraction_NoCount
  have qf_NoFraction_NoName : PySem.W.kitOne K (.ref C_NoFraction) (.ref C_NoName) = some false := kone_of sf_NoFraction_NoFraction ic_NoName tc_NoName sf_NoFraction_NoName
  have gf_HeightError := PySem.W.mg_of X G aC_HeightError
  have mf_NoFraction_HeightError : PySem.W.exmOne K (.ref C_NoFraction) (.ref C_HeightError) = some true := exm_by bc_HeightError ic_HeightError tc_HeightError sf_NoFraction_HeightError
  refine ⟨PySem.W.fnOf "law" "law" (defArgs (topS 32)) (defBody (topS 32)) (defScope (topS 32)) .none kV_law dc_law pm_law an_law cd_law ct_law, fun s v => .of_eq rfl, fun base _ _ => ?_⟩
  have h_shared_by : Has l.prog w K mg base "shared_by" 1 (S_shared_by) := ⟨_, _, _, ok_shared_by F_shared_by m_abs   , g_shared_by, F_shared_by.kp, b_shared_by⟩
  have h_fraction : Has l.prog w K mg base "fraction" 2 (S_fraction) := ⟨_, _, _, ok_fraction F_fraction   h_shared_by , g_fraction, F_fraction.kp, b_fraction⟩
  have h_fraction0 : Has l.prog w K mg base "fraction" 1 ((S_fraction0 C_NoFraction)) := ⟨_, _, _, ok_fraction0 F_fraction    xf_NoFraction, g_fraction, F_fraction.kp, b_fraction⟩
  have h_law_cell_at : Has l.prog w K mg base "_law_cell_at" 1 (S_law_cell_at) := ⟨_, _, _, ok_law_cell_at F_law_cell_at m_len   , g_law_cell_at, F_law_cell_at.kp, b_law_cell_at⟩
  have h_law_stir : Has l.prog w K mg base "_law_stir" 1 (S_law_stir) := ⟨_, _, _, ok_law_stir F_law_stir    , g_law_stir, F_law_stir.kp, b_law_stir⟩
  have h_law_drawn : Has l.prog w K mg base "_law_drawn" 2 (S_law_drawn) := ⟨_, _, _, ok_law_drawn F_law_drawn m_range  h_law_cell_at h_law_stir , g_law_drawn, F_law_drawn.kp, b_law_drawn⟩
  have h_law_whole : Has l.prog w K mg base "_law_whole" 1 (S_law_whole) := ⟨_, _, _, ok_law_whole F_law_whole m_bool m_int m_isinstance   , g_law_whole, F_law_whole.kp, b_law_whole⟩
  have h_law_divisor : Has l.prog w K mg base "_law_divisor" 1 (S_law_divisor) := ⟨_, _, _, ok_law_divisor F_law_divisor m_abs   , g_law_divisor, F_law_divisor.kp, b_law_divisor⟩
  have h_law_is_fraction : Has l.prog w K mg base "_law_is_fraction" 2 (S_law_is_fraction) := ⟨_, _, _, ok_law_is_fraction F_law_is_fraction m_isinstance m_len m_tuple  h_law_whole h_law_divisor , g_law_is_fraction, F_law_is_fraction.kp, b_law_is_fraction⟩
  have h_law_marks_NoFraction : HasP l.prog w K mg base "_law_marks" 1 ((S_law_marks_NoFraction C_NoFraction)) := ⟨_, _, _, ok_law_marks_NoFraction F_law_marks m_ValueError m_isinstance   tf_NoFraction gf_NoFraction gf_TooMany gf_TooFar gf_NoNumber gf_NoWeights gf_NoSeries gf_NoMoments gf_NoFamily gf_NoMeeting gf_NoThing gf_NoLine gf_NoText gf_NoWay gf_TooHigh gf_NoHistory gf_NoCount gf_NoName qf_NoFraction_VE qf_NoFraction_NoFraction qf_NoFraction_TooMany qf_NoFraction_TooFar qf_NoFraction_NoNumber qf_NoFraction_NoWeights qf_NoFraction_NoSeries qf_NoFraction_NoMoments qf_NoFraction_NoFamily qf_NoFraction_NoMeeting qf_NoFraction_NoThing qf_NoFraction_NoLine qf_NoFraction_NoText qf_NoFraction_NoWay qf_NoFraction_TooHigh qf_NoFraction_NoHistory qf_NoFraction_NoCount qf_NoFraction_NoName, g_law_marks, F_law_marks.kp, b_law_marks⟩
  have h_law_only : Has l.prog w K mg base "_law_only" 1 (S_law_only) := ⟨_, _, _, ok_law_only F_law_only m_range   , g_law_only, F_law_only.kp, b_law_only⟩
  have h_law_asked : Has l.prog w K mg base "_law_asked" 3 (S_law_asked) := ⟨_, _, _, ok_law_asked F_law_asked   h_fraction gf_HeightError, g_law_asked, F_law_asked.kp, b_law_asked⟩
  have h_law_asked0 : Has l.prog w K mg base "_law_asked" 2 ((S_law_asked0 C_NoFraction)) := ⟨_, _, _, ok_law_asked0 F_law_asked   h_fraction0 h_law_marks_NoFraction gf_HeightError mf_NoFraction_HeightError, g_law_asked, F_law_asked.kp, b_law_asked⟩
  exact ok_law F_law m_len m_max m_min m_range  h_law_drawn h_law_is_fraction h_law_only h_law_asked h_law_asked0 
end Tk
open PySem PySem.W PyProof.Rows
set_option maxHeartbeats 0 in
theorem PySem.Challenge.cw_heightfractions_k01_fractions_made_holds : PySem.Challenge.rw_heightfractions_k01_fractions_made.Holds := by
  w_on; o_law; k_head; (case hw => w_witness2)
  k_fill
  refine L2.walk_of (l := PySem.Challenge.rw_heightfractions_k01_fractions_made) (n := 63) (k := 4) (x := "_law_script") (CX := fun w => L2N.CX PySem.Challenge.rw_heightfractions_k01_fractions_made.prog w) (sp := fun w => Hf.spF _ Tk.S_law) rfl (by decide) rfl ⟨rfl, by decide, by decide⟩ (fun w h Y => PySem.W.kIn_of Y) ?F (fun _ H a ns hl _ hS => ⟨H, [.list (ns.map PyData.int)], .ok (.val (.bool true)), Evl.Ex.refl _, .cons (.lst hS (Hf.IsAll.ints ns)) .nil, ⟨ns, rfl, hl, rfl⟩, fun v H2 ⟨Hd, s, i⟩ => by cases i; rfl⟩) (fun _ _ _ _ _ h => by obtain ⟨_, _, _, _, _, _, _, _, _, _, _, _, z⟩ := h; exact z)
  case F =>
    intro w mg fa h KX G hmg
    refine' Tk.all_mk KX G hmg ?a_shared_by ?l_shared_by ?c_shared_by ?k_shared_by ?a_fraction ?l_fraction ?c_fraction ?k_fraction ?a_law_cell_at ?l_law_cell_at ?c_law_cell_at ?k_law_cell_at ?a_law_stir ?l_law_stir ?c_law_stir ?k_law_stir ?a_law_drawn ?l_law_drawn ?c_law_drawn ?k_law_drawn ?a_law_whole ?l_law_whole ?c_law_whole ?k_law_whole ?a_law_divisor ?l_law_divisor ?c_law_divisor ?k_law_divisor ?a_law_is_fraction ?l_law_is_fraction ?c_law_is_fraction ?k_law_is_fraction ?a_law_marks ?l_law_marks ?c_law_marks ?k_law_marks ?a_law_only ?l_law_only ?c_law_only ?k_law_only ?a_law_asked ?l_law_asked ?c_law_asked ?k_law_asked ?a_law ?l_law ?c_law ?k_law ?z_ValueError ?z_abs ?z_bool ?z_int ?z_isinstance ?z_len ?z_max ?z_min ?z_range ?z_tuple ?aC_HeightError ?aC_NoCount ?aC_NoFamily ?aC_NoFraction ?aC_NoHistory ?aC_NoLine ?aC_NoMeeting ?aC_NoMoments ?aC_NoName ?aC_NoNumber ?aC_NoSeries ?aC_NoText ?aC_NoThing ?aC_NoWay ?aC_NoWeights ?aC_TooFar ?aC_TooHigh ?aC_TooMany ?xq_NoFraction ?xk_NoFraction ?xb_NoFraction ?xt_NoFraction ?tf_NoFraction ?bc_HeightError ?ic_HeightError ?ic_NoCount ?ic_NoFamily ?ic_NoFraction ?ic_NoHistory ?ic_NoLine ?ic_NoMeeting ?ic_NoMoments ?ic_NoName ?ic_NoNumber ?ic_NoSeries ?ic_NoText ?ic_NoThing ?ic_NoWay ?ic_NoWeights ?ic_TooFar ?ic_TooHigh ?ic_TooMany ?sf_NoFraction_HeightError ?sf_NoFraction_NoCount ?sf_NoFraction_NoFamily ?sf_NoFraction_NoFraction ?sf_NoFraction_NoHistory ?sf_NoFraction_NoLine ?sf_NoFraction_NoMeeting ?sf_NoFraction_NoMoments ?sf_NoFraction_NoName ?sf_NoFraction_NoNumber ?sf_NoFraction_NoSeries ?sf_NoFraction_NoText ?sf_NoFraction_NoThing ?sf_NoFraction_NoWay ?sf_NoFraction_NoWeights ?sf_NoFraction_TooFar ?sf_NoFraction_TooHigh ?sf_NoFraction_TooMany ?sf_NoFraction_VE ?tc_HeightError ?tc_NoCount ?tc_NoFamily ?tc_NoFraction ?tc_NoHistory ?tc_NoLine ?tc_NoMeeting ?tc_NoMoments ?tc_NoName ?tc_NoNumber ?tc_NoSeries ?tc_NoText ?tc_NoThing ?tc_NoWay ?tc_NoWeights ?tc_TooFar ?tc_TooHigh ?tc_TooMany
    (case a_shared_by => k_is)
    (case l_shared_by => k_is)
    (case c_shared_by => k_is)
    (case k_shared_by => k_is)
    (case a_fraction => k_is)
    (case l_fraction => k_is)
    (case c_fraction => k_is)
    (case k_fraction => k_is)
    (case a_law_cell_at => k_is)
    (case l_law_cell_at => k_is)
    (case c_law_cell_at => k_is)
    (case k_law_cell_at => k_is)
    (case a_law_stir => k_is)
    (case l_law_stir => k_is)
    (case c_law_stir => k_is)
    (case k_law_stir => k_is)
    (case a_law_drawn => k_is)
    (case l_law_drawn => k_is)
    (case c_law_drawn => k_is)
    (case k_law_drawn => k_is)
    (case a_law_whole => k_is)
    (case l_law_whole => k_is)
    (case c_law_whole => k_is)
    (case k_law_whole => k_is)
    (case a_law_divisor => k_is)
    (case l_law_divisor => k_is)
    (case c_law_divisor => k_is)
    (case k_law_divisor => k_is)
    (case a_law_is_fraction => k_is)
    (case l_law_is_fraction => k_is)
    (case c_law_is_fraction => k_is)
    (case k_law_is_fraction => k_is)
    (case a_law_marks => k_is)
    (case l_law_marks => k_is)
    (case c_law_marks => k_is)
    (case k_law_marks => k_is)
    (case a_law_only => k_is)
    (case l_law_only => k_is)
    (case c_law_only => k_is)
    (case k_law_only => k_is)
    (case a_law_asked => k_is)
    (case l_law_asked => k_is)
    (case c_law_asked => k_is)
    (case k_law_asked => k_is)
    (case a_law => k_is)
    (case l_law => k_is)
    (case c_law => k_is)
    (case k_law => k_is)
    (case z_ValueError => k_is)
    (case z_abs => k_is)
    (case z_bool => k_is)
    (case z_int => k_is)
    (case z_isinstance => k_is)
    (case z_len => k_is)
    (case z_max => k_is)
    (case z_min => k_is)
    (case z_range => k_is)
    (case z_tuple => k_is)
    (case aC_HeightError => k_is)
    (case aC_NoCount => k_is)
    (case aC_NoFamily => k_is)
    (case aC_NoFraction => k_is)
    (case aC_NoHistory => k_is)
    (case aC_NoLine => k_is)
    (case aC_NoMeeting => k_is)
    (case aC_NoMoments => k_is)
    (case aC_NoName => k_is)
    (case aC_NoNumber => k_is)
    (case aC_NoSeries => k_is)
    (case aC_NoText => k_is)
    (case aC_NoThing => k_is)
    (case aC_NoWay => k_is)
    (case aC_NoWeights => k_is)
    (case aC_TooFar => k_is)
    (case aC_TooHigh => k_is)
    (case aC_TooMany => k_is)
    (case xq_NoFraction => exact ⟨_, PySem.F.excBase_ValueError, by k_exc⟩)
    (case xk_NoFraction => k_is)
    (case xb_NoFraction => k_is)
    (case xt_NoFraction => k_is)
    (case tf_NoFraction => exact ⟨by k_is, by k_is, by k_is, by k_is, by k_is, by k_is, by k_is, by k_is⟩)
    (case bc_HeightError => k_is)
    (case ic_HeightError => k_is)
    (case ic_NoCount => k_is)
    (case ic_NoFamily => k_is)
    (case ic_NoFraction => k_is)
    (case ic_NoHistory => k_is)
    (case ic_NoLine => k_is)
    (case ic_NoMeeting => k_is)
    (case ic_NoMoments => k_is)
    (case ic_NoName => k_is)
    (case ic_NoNumber => k_is)
    (case ic_NoSeries => k_is)
    (case ic_NoText => k_is)
    (case ic_NoThing => k_is)
    (case ic_NoWay => k_is)
    (case ic_NoWeights => k_is)
    (case ic_TooFar => k_is)
    (case ic_TooHigh => k_is)
    (case ic_TooMany => k_is)
    (case sf_NoFraction_HeightError => k_is)
    (case sf_NoFraction_NoCount => k_is)
    (case sf_NoFraction_NoFamily => k_is)
    (case sf_NoFraction_NoFraction => k_is)
    (case sf_NoFraction_NoHistory => k_is)
    (case sf_NoFraction_NoLine => k_is)
    (case sf_NoFraction_NoMeeting => k_is)
    (case sf_NoFraction_NoMoments => k_is)
    (case sf_NoFraction_NoName => k_is)
    (case sf_NoFraction_NoNumber => k_is)
    (case sf_NoFraction_NoSeries => k_is)
    (case sf_NoFraction_NoText => k_is)
    (case sf_NoFraction_NoThing => k_is)
    (case sf_NoFraction_NoWay => k_is)
    (case sf_NoFraction_NoWeights => k_is)
    (case sf_NoFraction_TooFar => k_is)
    (case sf_NoFraction_TooHigh => k_is)
    (case sf_NoFraction_TooMany => k_is)
    (case sf_NoFraction_VE => k_is)
    (case tc_HeightError => k_is)
    (case tc_NoCount => k_is)
    (case tc_NoFamily => k_is)
    (case tc_NoFraction => k_is)
    (case tc_NoHistory => k_is)
    (case tc_NoLine => k_is)
    (case tc_NoMeeting => k_is)
    (case tc_NoMoments => k_is)
    (case tc_NoName => k_is)
    (case tc_NoNumber => k_is)
    (case tc_NoSeries => k_is)
    (case tc_NoText => k_is)
    (case tc_NoThing => k_is)
    (case tc_NoWay => k_is)
    (case tc_NoWeights => k_is)
    (case tc_TooFar => k_is)
    (case tc_TooHigh => k_is)
    (case tc_TooMany => k_is)
