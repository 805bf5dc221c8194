import PyProof.Rows.All
import Wide.All
import OpenK.AllK
import Wide.FinOn
import HandS.ForMost
import HandS.Exc
import HandS.TryOnly
import HandS.ExcOwn
import HandS.WordsExc
import HandS.Evl
import HandS.Wide
import HandS.IsInst
import HandS.TupAny
import HandS.Rev
import HandS.RevRange
import HandS.Defaults
import HandS.Conv
import HandS.Zip
import HandS.ExcCtx
import HandS.HotCalls
import HandS.ExcIs
import HandS.ExcField
import HandS.Small
import HandS.Replace
import KE.GoesEnum
import KE.DataMinMax
import KE.KTupSum
import KE.KExcIs
import PyProof.Rows.SeqMore
import HandS.Deep
import HandS.TupMul
import HandS.ExcInit
import HandS.CallSlots
import HandS.Iter
import HandS.More
import PyProof.StrOps2
import HandS.Text
import HandS.Codes
import KE.KStateDown
import HandS.Head0
import HandS.Head1
import HandS.Head2
import HandS.HeadEnd
import HandS.HeadHook1
import HandS.HeadHook2
import PySem.Challenge.RW_heightfractions_k42_weights_written
set_option Elab.async false
set_option linter.all false
set_option maxRecDepth 100000
set_option maxHeartbeats 4000000
namespace Hf
open PySem PySem.Spec PyProof.Rows L2
open Evl (Ex)

abbrev D := PyData
abbrev St := L2.St
def kD : Key → D
  | .inl i => .int i
  | .inr s => .str s

mutual
inductive Is (K : PySem.W.Frag) (H : Hp) : V → D → Prop
  | non : Is K H .non .none
  | bl (b : Bool) : Is K H (.bl b) (.bool b)
  | int (i : Int) : Is K H (.int i) (.int i)
  | str (x : Str) : Is K H (.str x) (.str x)
  | lst {a : Addr} {xs : List V} {ds : List D} : SqL K H a xs → IsAll K H xs ds → Is K H (.ref a) (.list ds)
  | tup {a : Addr} {xs : List V} {ds : List D} : SqT K H a xs → IsAll K H xs ds → Is K H (.ref a) (.tuple ds)
  | dic {a : Addr} {kvs : List (Key × V)} {es : List (D × D)} : Rd H a (.dK kvs) → IsKv K H kvs es → Is K H (.ref a) (.dict es)
  | obj {a C dx : Addr} : H a = some (.ins C dx []) → Is K H (.ref a) (.dict [(.none, .int (C : Nat))])
  | ptr (a : Addr) : Is K H (.ref a) (.dict [(.bool true, .int (a : Nat))])
  | exc {a dd : Addr} {f : Str} {v : V} {d : D} : H dd = some (.xd [(f, v)]) → Is K H v d → Is K H (.ref a) (.dict [(.bool true, .int (a : Nat)), (.bool false, .int (dd : Nat)), (.str f, d)])
inductive IsAll (K : PySem.W.Frag) (H : Hp) : List V → List D → Prop
  | nil : IsAll K H [] []
  | cons {v : V} {vs : List V} {d : D} {ds : List D} : Is K H v d → IsAll K H vs ds → IsAll K H (v :: vs) (d :: ds)
inductive IsKv (K : PySem.W.Frag) (H : Hp) : List (Key × V) → List (D × D) → Prop
  | nil : IsKv K H [] []
  | cons {k : Key} {v : V} {kvs : List (Key × V)} {d : D} {es : List (D × D)} : Is K H v d → IsKv K H kvs es → IsKv K H ((k, v) :: kvs) ((kD k, d) :: es)
end

section
variable {K : PySem.W.Frag} {H H' : Hp}
mutual
theorem Is.mono (e : Ex H H') : ∀ {v : V} {d : D}, Is K H v d → Is K H' v d
  | _, _, .non => .non
  | _, _, .bl b => .bl b
  | _, _, .int i => .int i
  | _, _, .str x => .str x
  | _, _, .lst s a => .lst (Evl.ex_l e s) (IsAll.mono e a)
  | _, _, .tup s a => .tup (Evl.ex_t e s) (IsAll.mono e a)
  | _, _, .dic s a => .dic (Evl.ex_rd e s) (IsKv.mono e a)
  | _, _, .obj s => .obj (e _ _ s)
  | _, _, .ptr a => .ptr a
  | _, _, .exc s h => .exc (e _ _ s) (Is.mono e h)
theorem IsAll.mono (e : Ex H H') : ∀ {v : List V} {d : List D}, IsAll K H v d → IsAll K H' v d
  | _, _, .nil => .nil
  | _, _, .cons a b => .cons (Is.mono e a) (IsAll.mono e b)
theorem IsKv.mono (e : Ex H H') : ∀ {v : List (Key × V)} {d : List (D × D)}, IsKv K H v d → IsKv K H' v d
  | _, _, .nil => .nil
  | _, _, .cons a b => .cons (Is.mono e a) (IsKv.mono e b)
end
theorem IsAll.len : ∀ {vs : List V} {ds : List D}, IsAll K H vs ds → vs.length = ds.length
  | _, _, .nil => rfl
  | _, _, .cons _ b => by rw [List.length_cons, List.length_cons, IsAll.len b]
theorem IsAll.get : ∀ {vs : List V} {ds : List D} {i : Nat} {d : D}, IsAll K H vs ds → ds[i]? = some d → ∃ v, vs[i]? = some v ∧ Is K H v d
  | _, _, _, _, .nil, h => by simp at h
  | _, _, 0, _, .cons a _, h => by simp at h; subst h; exact ⟨_, rfl, a⟩
  | _, _, i + 1, _, .cons _ b, h => by
    obtain ⟨v, h1, h2⟩ := IsAll.get (i := i) b (by simpa using h)
    exact ⟨v, by simpa using h1, h2⟩
theorem IsAll.at : ∀ {vs : List V} {ds : List D} {i : Nat} {v : V}, IsAll K H vs ds → vs[i]? = some v → ∃ d, ds[i]? = some d ∧ Is K H v d
  | _, _, _, _, .nil, h => by simp at h
  | _, _, 0, _, .cons a _, h => by simp at h; subst h; exact ⟨_, rfl, a⟩
  | _, _, i + 1, _, .cons _ b, h => by
    obtain ⟨v, h1, h2⟩ := IsAll.at (i := i) b (by simpa using h)
    exact ⟨v, by simpa using h1, h2⟩
theorem IsAll.of : ∀ {vs : List V} {ds : List D}, vs.length = ds.length → (∀ (i : Nat) v d, vs[i]? = some v → ds[i]? = some d → Is K H v d) → IsAll K H vs ds
  | [], [], _, _ => .nil
  | [], _ :: _, h, _ => by simp at h
  | _ :: _, [], h, _ => by simp at h
  | v :: vs, d :: ds, h, q => .cons (q 0 v d rfl rfl) (IsAll.of (by simpa using h) fun i a b h1 h2 => q (i + 1) a b (by simpa using h1) (by simpa using h2))
theorem IsAll.app {xs ys : List V} {ds es : List D} (h : IsAll K H xs ds) (g : IsAll K H ys es) : IsAll K H (xs ++ ys) (ds ++ es) := by
  induction xs generalizing ds with
  | nil => cases h; exact g
  | cons x xs ih => cases h with | cons a b => exact .cons a (ih b)
theorem IsAll.one {v : V} {d : D} (h : Is K H v d) : IsAll K H [v] [d] := .cons h .nil
theorem IsAll.take {xs : List V} {ds : List D} (n : Nat) (h : IsAll K H xs ds) : IsAll K H (xs.take n) (ds.take n) := by
  induction n generalizing xs ds with
  | zero => exact .nil
  | succ n ih => cases h with | nil => exact .nil | cons a b => exact .cons a (ih b)
theorem IsAll.drop {xs : List V} {ds : List D} (n : Nat) (h : IsAll K H xs ds) : IsAll K H (xs.drop n) (ds.drop n) := by
  induction n generalizing xs ds with
  | zero => exact h
  | succ n ih => cases h with | nil => exact .nil | cons a b => exact ih b
theorem IsAll.set {xs : List V} {ds : List D} {v : V} {d : D} (i : Nat) (q : Is K H v d) (h : IsAll K H xs ds) : IsAll K H (xs.set i v) (ds.set i d) := by
  induction i generalizing xs ds with
  | zero => cases h with | nil => exact .nil | cons a b => exact .cons q b
  | succ n ih => cases h with | nil => exact .nil | cons a b => exact .cons a (ih b)
theorem IsAll.reverse {xs : List V} {ds : List D} (h : IsAll K H xs ds) : IsAll K H xs.reverse ds.reverse := by
  induction xs generalizing ds with
  | nil => cases h; exact .nil
  | cons x xs ih => cases h with | cons a b => rw [List.reverse_cons, List.reverse_cons]; exact (ih b).app (.one a)
theorem IsAll.repl {v : V} {d : D} (h : Is K H v d) : ∀ n : Nat, IsAll K H (List.replicate n v) (List.replicate n d)
  | 0 => .nil
  | n + 1 => .cons h (IsAll.repl h n)
theorem IsAll.ints : ∀ ns : List Int, IsAll K H (ns.map V.int) (ns.map PyData.int)
  | [] => .nil
  | n :: ns => .cons (.int n) (IsAll.ints ns)
theorem IsAll.toInts : ∀ {vs : List V} {ns : List Int}, IsAll K H vs (ns.map PyData.int) → vs = ns.map V.int
  | _, [], .nil => rfl
  | _, n :: ns, .cons a b => by cases a; rw [IsAll.toInts b]; rfl
mutual
theorem Is.dp : ∀ {v : V} {d : D}, Is K H v d → d.canLay0 = true → Dp K H v d
  | _, _, .non, _ => .non
  | _, _, .bl b, _ => .bl b
  | _, _, .int i, _ => .int i
  | _, _, .str x, _ => .str x
  | _, _, .lst s a, h => .lst s (IsAll.dp a (by simpa [PyData.canLay0] using h))
  | _, _, .tup s a, h => .tup s (IsAll.dp a (by simpa [PyData.canLay0] using h))
  | _, _, .dic s a, h => by simp [PyData.canLay0] at h
  | _, _, .obj s, h => by simp [PyData.canLay0] at h
  | _, _, .ptr a, h => by simp [PyData.canLay0] at h
  | _, _, .exc s _, h => by simp [PyData.canLay0] at h
theorem IsAll.dp : ∀ {vs : List V} {ds : List D}, IsAll K H vs ds → PyData.canLayAll0 ds = true → DpAll K H vs ds
  | _, _, .nil, _ => .nil
  | _, _, .cons a b, h => by
    have h' := Bool.and_eq_true_iff.mp (by simpa [PyData.canLayAll0] using h)
    exact .cons (Is.dp a h'.1) (IsAll.dp b h'.2)
end
end

section
structure wE (X : Cx) (e : Expr) (σ : St) (H : Hp) (Q : VK) : Prop where
  run : ∀ (pins : List (Addr × Obj)) (s : Shared), Inv X pins σ H s → wpAny (model X.prog X.w) X.A (eval e X.env) (EP X pins σ Q) X.xe s
instance {X : Cx} {e : Expr} {σ : St} {H : Hp} {Q : VK} : CoeFun (wE X e σ H Q) fun _ => ∀ (pins : List (Addr × Obj)) (s : Shared), Inv X pins σ H s → wpAny (model X.prog X.w) X.A (eval e X.env) (EP X pins σ Q) X.xe s := ⟨wE.run⟩
structure wT (X : Cx) (e : Expr) (σ : St) (H : Hp) (Q : Bool → Hp → Prop) : Prop where
  run : ∀ (pins : List (Addr × Obj)) (s : Shared), Inv X pins σ H s → wpAny (model X.prog X.w) X.A (isTrue e X.env (eval e X.env)) (TP X pins σ Q) X.xe s
instance {X : Cx} {e : Expr} {σ : St} {H : Hp} {Q : Bool → Hp → Prop} : CoeFun (wT X e σ H Q) fun _ => ∀ (pins : List (Addr × Obj)) (s : Shared), Inv X pins σ H s → wpAny (model X.prog X.w) X.A (isTrue e X.env (eval e X.env)) (TP X pins σ Q) X.xe s := ⟨wT.run⟩
structure wW (X : Cx) (e : Expr) (σ : St) (H : Hp) (Q : Bool → Hp → Prop) : Prop where
  run : ∀ (whole : Sem Value) (pins : List (Addr × Obj)) (s : Shared), Inv X pins σ H s → wpAny (model X.prog X.w) X.A (isTrue e X.env whole) (TP X pins σ Q) X.xe s
instance {X : Cx} {e : Expr} {σ : St} {H : Hp} {Q : Bool → Hp → Prop} : CoeFun (wW X e σ H Q) fun _ => ∀ (whole : Sem Value) (pins : List (Addr × Obj)) (s : Shared), Inv X pins σ H s → wpAny (model X.prog X.w) X.A (isTrue e X.env whole) (TP X pins σ Q) X.xe s := ⟨wW.run⟩
structure wA (X : Cx) (es : List Expr) (σ : St) (H : Hp) (Q : List V → Hp → Prop) : Prop where
  run : ∀ (pos : Pos) (pins : List (Addr × Obj)) (s : Shared), Inv X pins σ H s → wpAny (model X.prog X.w) X.A (spliced (backTo pos (starEach es X.env))) (AP X pins σ Q) X.xe s
instance {X : Cx} {es : List Expr} {σ : St} {H : Hp} {Q : List V → Hp → Prop} : CoeFun (wA X es σ H Q) fun _ => ∀ (pos : Pos) (pins : List (Addr × Obj)) (s : Shared), Inv X pins σ H s → wpAny (model X.prog X.w) X.A (spliced (backTo pos (starEach es X.env))) (AP X pins σ Q) X.xe s := ⟨wA.run⟩
structure wS (X : Cx) (st : Stmt) (D : Ends) (σ : St) (H : Hp) : Prop where
  run : ∀ (pins : List (Addr × Obj)) (s : Shared), Inv X pins σ H s → wpAny (model X.prog X.w) X.A (exec st X.env) (SP X pins D) X.xe s
instance {X : Cx} {st : Stmt} {D : Ends} {σ : St} {H : Hp} : CoeFun (wS X st D σ H) fun _ => ∀ (pins : List (Addr × Obj)) (s : Shared), Inv X pins σ H s → wpAny (model X.prog X.w) X.A (exec st X.env) (SP X pins D) X.xe s := ⟨wS.run⟩
structure wSs (X : Cx) (sts : List Stmt) (D : Ends) (σ : St) (H : Hp) : Prop where
  run : ∀ (pins : List (Addr × Obj)) (s : Shared), Inv X pins σ H s → wpAny (model X.prog X.w) X.A (execs sts X.env) (SP X pins D) X.xe s
instance {X : Cx} {sts : List Stmt} {D : Ends} {σ : St} {H : Hp} : CoeFun (wSs X sts D σ H) fun _ => ∀ (pins : List (Addr × Obj)) (s : Shared), Inv X pins σ H s → wpAny (model X.prog X.w) X.A (execs sts X.env) (SP X pins D) X.xe s := ⟨wSs.run⟩
end
section
variable {X : Cx} {e : Expr} {es : List Expr} {st : Stmt} {sts : List Stmt} {σ : St} {H : Hp}
theorem pe_w : PE X e (wE X e) := ⟨fun pins s _ _ _ I h => h pins s I⟩
theorem pt_w : PT X e (wT X e) := ⟨fun pins s _ _ _ I h => h pins s I⟩
theorem pw_w : PW X e (wW X e) := ⟨fun whole pins s _ _ _ I h => h whole pins s I⟩
theorem pa_w : PA X es (wA X es) := ⟨fun pos pins s _ _ _ I h => h pos pins s I⟩
theorem ps_w : PS X st (wS X st) := ⟨fun pins s _ _ _ I h => h pins s I⟩
theorem pss_w : PSs X sts (wSs X sts) := ⟨fun pins s _ _ _ I h => h pins s I⟩
theorem wE_of {t : TE} {Q : VK} (h : PE X e t) (q : t σ H Q) : wE X e σ H Q := ⟨fun pins s I => h.run pins s σ H Q I q⟩
theorem wT_of {t : TT} {Q : Bool → Hp → Prop} (h : PT X e t) (q : t σ H Q) : wT X e σ H Q := ⟨fun pins s I => h.run pins s σ H Q I q⟩
theorem wW_of {t : TT} {Q : Bool → Hp → Prop} (h : PW X e t) (q : t σ H Q) : wW X e σ H Q := ⟨fun whole pins s I => h.run whole pins s σ H Q I q⟩
theorem wA_of {t : TA} {Q : List V → Hp → Prop} (h : PA X es t) (q : t σ H Q) : wA X es σ H Q := ⟨fun pos pins s I => h.run pos pins s σ H Q I q⟩
theorem wS_of {t : TS} {D : Ends} (h : PS X st t) (q : t D σ H) : wS X st D σ H := ⟨fun pins s I => h.run pins s σ H D I q⟩
theorem wSs_of {t : TS} {D : Ends} (h : PSs X sts t) (q : t D σ H) : wSs X sts D σ H := ⟨fun pins s I => h.run pins s σ H D I q⟩
theorem ep_imp {pins : List (Addr × Obj)} {Q Q' : VK} {u : Value} {s : Shared} (h : EP X pins σ Q u s) (k : ∀ v H, Q v H → Q' v H) : EP X pins σ Q' u s := by
  obtain ⟨v, H, a, b, c⟩ := h
  exact ⟨v, H, a, b, k _ _ c⟩
theorem wE_imp {Q Q' : VK} (h : wE X e σ H Q) (k : ∀ v H, Q v H → Q' v H) : wE X e σ H Q' := ⟨fun pins s I => thn (h pins s I) fun _ _ q => ep_imp q k⟩
end

section
variable {K : PySem.W.Frag} {H H' : Hp}
theorem nf_lst {xs : List V} (x : Obj) (y : HO) : HO.lst xs ≠ .frz x y := fun z => nomatch z
theorem nf_tup {xs : List V} (x : Obj) (y : HO) : HO.tup xs ≠ .frz x y := fun z => nomatch z
theorem nf_dK {xs : List (Key × V)} (x : Obj) (y : HO) : HO.dK xs ≠ .frz x y := fun z => nomatch z
/-- data carried from heap to heap, where what is read is carried -/
structure Carry (H H' : Hp) : Prop where
  rd : ∀ a w, (∀ x y, w ≠ HO.frz x y) → Rd H a w → Rd H' a w
  ins : ∀ a C dx, H a = some (.ins C dx []) → H' a = some (.ins C dx [])
  xd : ∀ a fs, H a = some (.xd fs) → H' a = some (.xd fs)
  fz : ∀ a o xs, H a = some (.frz o (.tup xs)) → H' a = some (.frz o (.tup xs))
mutual
theorem Is.carry (c : Carry H H') : ∀ {v : V} {x : D}, Is K H v x → Is K H' v x
  | _, _, .non => .non
  | _, _, .bl b => .bl b
  | _, _, .int i => .int i
  | _, _, .str x => .str x
  | _, _, .lst s a => .lst (s.imp (c.rd _ _ nf_lst) id) (IsAll.carry c a)
  | _, _, .tup s a => .tup (s.imp (c.rd _ _ nf_tup) id) (IsAll.carry c a)
  | _, _, .dic s a => .dic (c.rd _ _ nf_dK s) (IsKv.carry c a)
  | _, _, .obj s => .obj (c.ins _ _ _ s)
  | _, _, .ptr a => .ptr a
  | _, _, .exc s h => .exc (c.xd _ _ s) (Is.carry c h)
theorem IsAll.carry (c : Carry H H') : ∀ {v : List V} {x : List D}, IsAll K H v x → IsAll K H' v x
  | _, _, .nil => .nil
  | _, _, .cons a b => .cons (Is.carry c a) (IsAll.carry c b)
theorem IsKv.carry (c : Carry H H') : ∀ {v : List (Key × V)} {x : List (D × D)}, IsKv K H v x → IsKv K H' v x
  | _, _, .nil => .nil
  | _, _, .cons a b => .cons (Is.carry c a) (IsKv.carry c b)
end
theorem Carry.of (e : Ex H H') : Carry H H' := ⟨fun a w _ r => Evl.ex_rd e r, fun a C dx h => e _ _ h, fun a fs h => e _ _ h, fun a o xs h => e _ _ h⟩
end
/-- a step: data heap and heap grow -/
structure Stp (Hd H Hd' H' : Hp) : Prop where
  d : Ex Hd Hd'
  h : Ex H H'
  s : Ex Hd' H'
  f : ∀ a o, Hd' a = some o → Hd a = none → H a = none
/-- something else of one's own: what it owns, and when it stands -/
structure Cu where
  own : Option V → Addr → Prop
  ok : PySem.W.Frag → Hp → Hp → Option V → Prop
  carry : ∀ {K Hd H Hd' H' ov}, Carry Hd Hd' → (∀ l, own ov l → Hd' l = none ∧ H' l = H l) → ok K Hd H ov → ok K Hd' H' ov
  has : ∀ {K Hd H ov l}, ok K Hd H ov → own ov l → Hd l = none ∧ ∃ u, H l = some u ∧ ∀ fs, u ≠ HO.xd fs
inductive Cell
  /-- unknown -/
  | no
  /-- data -/
  | d (x : D)
  /-- a list of one's own, a dict of one's own: may be changed -/
  | ml (ds : List D)
  | md (es : List (D × D))
  | cu (c : Cu)
/-- at most one address is the cell's own, that of the slot -/
def Cell.simple : Cell → Bool
  | .cu _ => false
  | _ => true

def CellOk (K : PySem.W.Frag) (Hd H : Hp) : Cell → Option V → Prop
  | .no, _ => True
  | .d x, ov => ∃ v, ov = some v ∧ Is K Hd v x
  | .ml ds, ov => ∃ l vs, ov = some (.ref l) ∧ Hd l = none ∧ H l = some (.lst vs) ∧ IsAll K Hd vs ds
  | .md es, ov => ∃ l kvs, ov = some (.ref l) ∧ Hd l = none ∧ H l = some (.dK kvs) ∧ IsKv K Hd kvs es
  | .cu c, ov => c.ok K Hd H ov
def ownAt : Cell → Option V → Addr → Prop
  | .ml _, ov, l => ov = some (.ref l)
  | .md _, ov, l => ov = some (.ref l)
  | .cu c, ov, l => c.own ov l
  | _, _, _ => False

structure Rl (K : PySem.W.Frag) (Γ : List Cell) (σ : St) (Hd H : Hp) : Prop where
  len : σ.length = Γ.length
  sub : Ex Hd H
  cell : ∀ (i : Nat) c ov, Γ[i]? = some c → σ[i]? = some ov → CellOk K Hd H c ov
  apart : ∀ (i j : Nat) ci cj oi oj l, Γ[i]? = some ci → σ[i]? = some oi → Γ[j]? = some cj → σ[j]? = some oj → ownAt ci oi l → ownAt cj oj l → i = j
structure R (K : PySem.W.Frag) (Hs H0 Hb : Hp) (Γ : List Cell) (σ : St) (Hd H : Hp) : Prop where
  l : Rl K Γ σ Hd H
  e : Stp Hs H0 Hd H
  b : Ex Hb Hd
  o : ∀ (i : Nat) c ov l, Γ[i]? = some c → σ[i]? = some ov → ownAt c ov l → H0 l = none

section
variable {K : PySem.W.Frag} {Γ : List Cell} {σ : St} {Hd H Hd' H' Hd2 H2 Hs H0 Hb : Hp}
theorem Stp.refl (h : Ex Hd H) : Stp Hd H Hd H := ⟨Ex.refl _, Ex.refl _, h, fun a o e n => by rw [n] at e; cases e⟩
theorem Stp.trans (a : Stp Hd H Hd' H') (b : Stp Hd' H' Hd2 H2) : Stp Hd H Hd2 H2 where
  d := a.d.trans b.d
  h := a.h.trans b.h
  s := b.s
  f := fun x o e n => by
    cases q : Hd' x with
    | some u => exact a.f x u q n
    | none =>
      have z := b.f x o e q
      cases w : H x with
      | none => rfl
      | some y => rw [a.h x y w] at z; cases z
/-- a new object, in the heap alone -/
theorem Stp.new {p : Addr} {o : HO} (e : Ex Hd H) (hp : H p = none) : Stp Hd H Hd (upd H p o) := ⟨Ex.refl _, Ex.new hp, e.trans (Ex.new hp), fun a o e n => by rw [n] at e; cases e⟩
theorem ex_none (e : Ex H H') {p : Addr} (h : H' p = none) : H p = none := Evl.fresh_back e h
/-- .. and in the data -/
theorem Stp.newD {p : Addr} {o : HO} (e : Ex Hd H) (hp : H p = none) : Stp Hd H (upd Hd p o) (upd H p o) where
  d := Ex.new (ex_none e hp)
  h := Ex.new hp
  s := fun a u q => by
    by_cases z : a = p
    · subst z; rw [upd_same] at q ⊢; exact q
    · rw [upd_ne z] at q ⊢; exact e a u q
  f := fun a u q n => by
    by_cases z : a = p
    · subst z; exact hp
    · rw [upd_ne z] at q; rw [n] at q; cases q
/-- an object that came since becomes data -/
theorem Stp.toD {p : Addr} {o : HO} (a : Stp Hd H Hd' H') (h0 : H p = none) (hp : H' p = some o) (hd : Hd' p = none) : Stp Hd H (upd Hd' p o) H' where
  d := a.d.trans (Ex.new hd)
  h := a.h
  s := fun x u q => by
    by_cases z : x = p
    · subst z; rw [upd_same] at q; cases q; exact hp
    · rw [upd_ne z] at q; exact a.s x u q
  f := fun x u q n => by
    by_cases z : x = p
    · subst z; exact h0
    · rw [upd_ne z] at q; exact a.f x u q n
/-- an object that came since, and is no data, changes -/
theorem Stp.mut {p : Addr} {o : HO} (a : Stp Hd H Hd' H') (h0 : H p = none) (hd : Hd' p = none) : Stp Hd H Hd' (upd H' p o) where
  d := a.d
  h := Ex.mut a.h h0
  s := Ex.mut a.s hd
  f := a.f
theorem Stp.non (s : Stp Hd H Hd' H') {l : Addr} {o : HO} (n : Hd l = none) (h : H l = some o) : Hd' l = none := by
  cases q : Hd' l with
  | none => rfl
  | some u => rw [s.f l u q n] at h; cases h
theorem CellOk.stp (s : Stp Hd H Hd' H') : ∀ {c : Cell} {ov : Option V}, CellOk K Hd H c ov → CellOk K Hd' H' c ov
  | .no, _, _ => trivial
  | .d x, _, ⟨v, e, i⟩ => ⟨v, e, i.mono s.d⟩
  | .ml ds, _, ⟨l, vs, e, n, h, i⟩ => ⟨l, vs, e, s.non n h, s.h _ _ h, i.mono s.d⟩
  | .md ds, _, ⟨l, vs, e, n, h, i⟩ => ⟨l, vs, e, s.non n h, s.h _ _ h, i.mono s.d⟩
  | .cu c, _, q => c.carry (.of s.d) (fun l o => by
      obtain ⟨n, u, h, _⟩ := c.has q o
      exact ⟨s.non n h, by rw [h, s.h _ _ h]⟩) q
theorem Rl.stp (r : Rl K Γ σ Hd H) (s : Stp Hd H Hd' H') : Rl K Γ σ Hd' H' := ⟨r.len, s.s, fun i c ov h1 h2 => (r.cell i c ov h1 h2).stp s, r.apart⟩
theorem R.stp (r : R K Hs H0 Hb Γ σ Hd H) (s : Stp Hd H Hd' H') : R K Hs H0 Hb Γ σ Hd' H' := ⟨r.l.stp s, r.e.trans s, r.b.trans s.d, r.o⟩
theorem own_ok {c : Cell} {ov : Option V} {l : Addr} (h : CellOk K Hd H c ov) (o : ownAt c ov l) : Hd l = none ∧ ∃ u, H l = some u := by
  cases c with
  | no => cases o
  | d x => cases o
  | ml ds =>
    obtain ⟨l', vs, e, n, q, _⟩ := h
    have o' : ov = some (.ref l) := o
    rw [e] at o'; cases o'
    exact ⟨n, _, q⟩
  | md ds =>
    obtain ⟨l', vs, e, n, q, _⟩ := h
    have o' : ov = some (.ref l) := o
    rw [e] at o'; cases o'
    exact ⟨n, _, q⟩
  | cu c =>
    obtain ⟨n, u, q, _⟩ := c.has h o
    exact ⟨n, u, q⟩
/-- an object that is no slot's own and no data changes -/
theorem Rl.mut {p : Addr} {o : HO} (r : Rl K Γ σ Hd H) (hd : Hd p = none) (hn : ∀ (i : Nat) c ov, Γ[i]? = some c → σ[i]? = some ov → ¬ ownAt c ov p) : Rl K Γ σ Hd (upd H p o) := by
  refine ⟨r.len, Ex.mut r.sub hd, fun i c ov h1 h2 => ?_, r.apart⟩
  have q := r.cell i c ov h1 h2
  have nn := hn i c ov h1 h2
  cases c with
  | no => trivial
  | d x => exact q
  | ml ds =>
    obtain ⟨l, vs, e, n, h, a⟩ := q
    exact ⟨l, vs, e, n, by rw [upd_ne (fun z => nn (by subst z; exact e))]; exact h, a⟩
  | md ds =>
    obtain ⟨l, vs, e, n, h, a⟩ := q
    exact ⟨l, vs, e, n, by rw [upd_ne (fun z => nn (by subst z; exact e))]; exact h, a⟩
  | cu c => exact c.carry (.of (Ex.refl _)) (fun l o => ⟨(c.has q o).1, upd_ne (fun z => nn (by subst z; exact o))⟩) q
theorem set_get {α : Type} {l : List α} {i j : Nat} {a x : α} (h : (l.set i a)[j]? = some x) : (j = i ∧ x = a) ∨ (j ≠ i ∧ l[j]? = some x) := by
  by_cases e : i = j
  · subst e
    by_cases hv : i < l.length
    · rw [List.getElem?_set_self hv] at h; exact .inl ⟨rfl, (Option.some.inj h).symm⟩
    · rw [List.getElem?_eq_none (by simpa using hv)] at h; cases h
  · rw [List.getElem?_set_ne e] at h; exact .inr ⟨fun z => e z.symm, h⟩
/-- a slot is stored: data -/
theorem Rl.setD {i : Nat} {v : V} {x : D} (r : Rl K Γ σ Hd H) (h : Is K Hd v x) : Rl K (Γ.set i (.d x)) (σ.set i (some v)) Hd H := by
  refine ⟨by rw [List.length_set, List.length_set]; exact r.len, r.sub, fun j c ov h1 h2 => ?_, fun a b ca cb oa ob l h1 h2 h3 h4 q1 q2 => ?_⟩
  · rcases set_get h1 with ⟨e1, e2⟩ | ⟨e1, e2⟩
    · rcases set_get h2 with ⟨f1, f2⟩ | ⟨f1, f2⟩
      · subst e2; subst f2; exact ⟨v, rfl, h⟩
      · exact absurd e1 f1
    · rcases set_get h2 with ⟨f1, f2⟩ | ⟨f1, f2⟩
      · exact absurd f1 e1
      · exact r.cell j c ov e2 f2
  · rcases set_get h1 with ⟨e1, e2⟩ | ⟨e1, e2⟩
    · subst e2; cases q1
    rcases set_get h3 with ⟨f1, f2⟩ | ⟨f1, f2⟩
    · subst f2; cases q2
    rcases set_get h2 with ⟨g1, g2⟩ | ⟨g1, g2⟩
    · exact absurd g1 e1
    rcases set_get h4 with ⟨k1, k2⟩ | ⟨k1, k2⟩
    · exact absurd k1 f1
    exact r.apart a b ca cb oa ob l e2 g2 f2 k2 q1 q2
/-- a slot's cell is forgotten -/
theorem Rl.setNo {i : Nat} {ov : Option V} (r : Rl K Γ σ Hd H) : Rl K (Γ.set i .no) (σ.set i ov) Hd H := by
  refine ⟨by rw [List.length_set, List.length_set]; exact r.len, r.sub, fun j c ov h1 h2 => ?_, fun a b ca cb oa ob l h1 h2 h3 h4 q1 q2 => ?_⟩
  · rcases set_get h1 with ⟨e1, e2⟩ | ⟨e1, e2⟩
    · subst e2; trivial
    · rcases set_get h2 with ⟨f1, f2⟩ | ⟨f1, f2⟩
      · exact absurd f1 e1
      · exact r.cell j c _ e2 f2
  · rcases set_get h1 with ⟨e1, e2⟩ | ⟨e1, e2⟩
    · subst e2; cases q1
    rcases set_get h3 with ⟨f1, f2⟩ | ⟨f1, f2⟩
    · subst f2; cases q2
    rcases set_get h2 with ⟨g1, g2⟩ | ⟨g1, g2⟩
    · exact absurd g1 e1
    rcases set_get h4 with ⟨k1, k2⟩ | ⟨k1, k2⟩
    · exact absurd k1 f1
    exact r.apart a b ca cb oa ob l e2 g2 f2 k2 q1 q2
/-- a slot is stored: something of one's own, not yet another slot's -/
theorem Rl.setOwn {i : Nat} {p : Addr} {c : Cell} (r : Rl K Γ σ Hd H) (h : CellOk K Hd H c (some (.ref p))) (hn : ∀ (j : Nat) cj ov, j ≠ i → Γ[j]? = some cj → σ[j]? = some ov → ¬ ownAt cj ov p) (hs : c.simple = true := by rfl) :
    Rl K (Γ.set i c) (σ.set i (some (.ref p))) Hd H := by
  have key : ∀ l, ownAt c (some (.ref p)) l → l = p := fun l o => by
    cases c with
    | no => cases o
    | d x => cases o
    | ml ds => have o' : some (V.ref p) = some (.ref l) := o; cases o'; rfl
    | md ds => have o' : some (V.ref p) = some (.ref l) := o; cases o'; rfl
    | cu c => cases hs
  refine ⟨by rw [List.length_set, List.length_set]; exact r.len, r.sub, fun j c ov h1 h2 => ?_, fun a b ca cb oa ob l h1 h2 h3 h4 q1 q2 => ?_⟩
  · rcases set_get h1 with ⟨e1, e2⟩ | ⟨e1, e2⟩
    · rcases set_get h2 with ⟨f1, f2⟩ | ⟨f1, f2⟩
      · subst e2; subst f2; exact h
      · exact absurd e1 f1
    · rcases set_get h2 with ⟨f1, f2⟩ | ⟨f1, f2⟩
      · exact absurd f1 e1
      · exact r.cell j c ov e2 f2
  · rcases set_get h1 with ⟨e1, e2⟩ | ⟨e1, e2⟩
    · rcases set_get h3 with ⟨f1, f2⟩ | ⟨f1, f2⟩
      · rw [e1, f1]
      · rcases set_get h2 with ⟨g1, g2⟩ | ⟨g1, g2⟩
        · rcases set_get h4 with ⟨k1, k2⟩ | ⟨k1, k2⟩
          · exact absurd k1 f1
          · subst e2; subst g2
            have := key l q1; subst this
            exact absurd q2 (hn b cb ob f1 f2 k2)
        · exact absurd e1 g1
    · rcases set_get h2 with ⟨g1, g2⟩ | ⟨g1, g2⟩
      · exact absurd g1 e1
      rcases set_get h3 with ⟨f1, f2⟩ | ⟨f1, f2⟩
      · rcases set_get h4 with ⟨k1, k2⟩ | ⟨k1, k2⟩
        · subst f2; subst k2
          have := key l q2; subst this
          exact absurd q1 (hn a ca oa e1 e2 g2)
        · exact absurd f1 k1
      · rcases set_get h4 with ⟨k1, k2⟩ | ⟨k1, k2⟩
        · exact absurd k1 f1
        exact r.apart a b ca cb oa ob l e2 g2 f2 k2 q1 q2
theorem R.setD {i : Nat} {v : V} {x : D} (r : R K Hs H0 Hb Γ σ Hd H) (h : Is K Hd v x) : R K Hs H0 Hb (Γ.set i (.d x)) (σ.set i (some v)) Hd H := by
  refine ⟨r.l.setD h, r.e, r.b, fun j c ov l h1 h2 q => ?_⟩
  rcases set_get h1 with ⟨e1, e2⟩ | ⟨e1, e2⟩
  · subst e2; cases q
  · rcases set_get h2 with ⟨f1, f2⟩ | ⟨f1, f2⟩
    · exact absurd f1 e1
    · exact r.o j c ov l e2 f2 q
theorem R.setNo {i : Nat} {ov : Option V} (r : R K Hs H0 Hb Γ σ Hd H) : R K Hs H0 Hb (Γ.set i .no) (σ.set i ov) Hd H := by
  refine ⟨r.l.setNo, r.e, r.b, fun j c ov l h1 h2 q => ?_⟩
  rcases set_get h1 with ⟨e1, e2⟩ | ⟨e1, e2⟩
  · subst e2; cases q
  · rcases set_get h2 with ⟨f1, f2⟩ | ⟨f1, f2⟩
    · exact absurd f1 e1
    · exact r.o j c ov l e2 f2 q
theorem R.setOwn {i : Nat} {p : Addr} {c : Cell} (r : R K Hs H0 Hb Γ σ Hd H) (h : CellOk K Hd H c (some (.ref p))) (h0 : H0 p = none) (hn : ∀ (j : Nat) cj ov, j ≠ i → Γ[j]? = some cj → σ[j]? = some ov → ¬ ownAt cj ov p) (hs : c.simple = true := by rfl) :
    R K Hs H0 Hb (Γ.set i c) (σ.set i (some (.ref p))) Hd H := by
  have key : ∀ l, ownAt c (some (.ref p)) l → l = p := fun l o => by
    cases c with
    | no => cases o
    | d x => cases o
    | ml ds => have o' : some (V.ref p) = some (.ref l) := o; cases o'; rfl
    | md ds => have o' : some (V.ref p) = some (.ref l) := o; cases o'; rfl
    | cu c => cases hs
  refine ⟨r.l.setOwn h hn hs, r.e, r.b, fun j c ov l h1 h2 q => ?_⟩
  rcases set_get h1 with ⟨e1, e2⟩ | ⟨e1, e2⟩
  · rcases set_get h2 with ⟨f1, f2⟩ | ⟨f1, f2⟩
    · subst e2; subst f2; rw [key l q]; exact h0
    · exact absurd e1 f1
  · rcases set_get h2 with ⟨f1, f2⟩ | ⟨f1, f2⟩
    · exact absurd f1 e1
    · exact r.o j c ov l e2 f2 q
/-- a slot's own object changes -/
theorem R.chg {i : Nat} {p : Addr} {o : HO} {c c' : Cell} (r : R K Hs H0 Hb Γ σ Hd H) (h1 : Γ[i]? = some c) (h2 : σ[i]? = some (some (.ref p))) (ow : ownAt c (some (.ref p)) p)
    (h : CellOk K Hd (upd H p o) c' (some (.ref p))) (hs : c'.simple = true := by rfl) : R K Hs H0 Hb (Γ.set i c') σ Hd (upd H p o) := by
  have ok := own_ok (r.l.cell i c _ h1 h2) ow
  have h0 := r.o i c _ p h1 h2 ow
  have key : ∀ l, ownAt c' (some (.ref p)) l → l = p := fun l o => by
    cases c' with
    | no => cases o
    | d x => cases o
    | ml ds => have o' : some (V.ref p) = some (.ref l) := o; cases o'; rfl
    | md ds => have o' : some (V.ref p) = some (.ref l) := o; cases o'; rfl
    | cu c => cases hs
  have hn : ∀ (j : Nat) cj ov, j ≠ i → Γ[j]? = some cj → σ[j]? = some ov → ¬ ownAt cj ov p := fun j cj ov hj a b z => hj (r.l.apart j i cj c ov _ p a b h1 h2 z ow)
  have es : σ.set i (some (.ref p)) = σ := by
    refine List.ext_getElem? fun j => ?_
    by_cases e : i = j
    · subst e
      rw [List.getElem?_set_self (List.getElem?_eq_some_iff.mp h2).1, h2]
    · rw [List.getElem?_set_ne e]
  have rl : Rl K (Γ.set i .no) σ Hd H := by
    have z := r.l.setNo (i := i) (ov := some (.ref p))
    rw [es] at z; exact z
  have rl2 : Rl K (Γ.set i .no) σ Hd (upd H p o) := rl.mut ok.1 fun j cj ov a b z => by
    rcases set_get a with ⟨e1, e2⟩ | ⟨e1, e2⟩
    · subst e2; cases z
    · exact hn j cj ov e1 e2 b z
  have rl3 : Rl K ((Γ.set i .no).set i c') (σ.set i (some (.ref p))) Hd (upd H p o) := rl2.setOwn h (fun j cj ov hj a b z => by
    rcases set_get a with ⟨e1, e2⟩ | ⟨e1, e2⟩
    · exact hj e1
    · exact hn j cj ov e1 e2 b z) hs
  rw [List.set_set, es] at rl3
  refine ⟨rl3, r.e.mut h0 ok.1, r.b, fun j cj ov l a b q => ?_⟩
  rcases set_get a with ⟨e1, e2⟩ | ⟨e1, e2⟩
  · subst e1; subst e2
    rw [h2] at b; cases b
    rw [key l q]; exact h0
  · exact r.o j cj ov l e2 b q
/-- a list of one's own becomes data -/
theorem Rl.frz {i : Nat} {ds : List D} (r : Rl K Γ σ Hd H) (h : Γ[i]? = some (.ml ds)) : ∃ Hd', Rl K (Γ.set i (.d (.list ds))) σ Hd' H ∧ Ex Hd Hd' ∧ (∀ a o, Hd' a = some o → Hd a = none → ∃ c ov, Γ[i]? = some c ∧ σ[i]? = some ov ∧ ownAt c ov a) := by
  have hl : i < σ.length := by rw [r.len]; exact (List.getElem?_eq_some_iff.mp h).1
  obtain ⟨l, vs, e, n, q, a⟩ := r.cell i _ _ h (List.getElem?_eq_getElem hl)
  have es : σ[i]? = some (some (.ref l)) := by rw [List.getElem?_eq_getElem hl, e]
  have s : Ex Hd (upd Hd l (.lst vs)) := Ex.new n
  have f : ∀ x o, (upd Hd l (.lst vs)) x = some o → Hd x = none → x = l := fun x o h1 h2 => by
    by_cases z : x = l
    · exact z
    · rw [upd_ne z, h2] at h1; cases h1
  refine ⟨upd Hd l (.lst vs), ⟨by rw [List.length_set]; exact r.len, fun x u w => ?_, fun j c ov h1 h2 => ?_, fun a b ca cb oa ob l h1 h2 h3 h4 q1 q2 => ?_⟩, s, fun x o h1 h2 => ⟨_, _, h, es, by rw [f x o h1 h2]; exact rfl⟩⟩
  · by_cases z : x = l
    · subst z; rw [upd_same] at w; cases w; exact q
    · rw [upd_ne z] at w; exact r.sub x u w
  · rcases set_get h1 with ⟨e1, e2⟩ | ⟨e1, e2⟩
    · subst e1; subst e2
      rw [es] at h2; cases h2
      exact ⟨_, rfl, .lst (.inl (.inl upd_same)) (a.mono s)⟩
    · have w := r.cell j c ov e2 h2
      cases c with
      | no => trivial
      | d x => obtain ⟨v, w1, w2⟩ := w; exact ⟨v, w1, w2.mono s⟩
      | ml ds' =>
        obtain ⟨l', vs', w1, w2, w3, w4⟩ := w
        refine ⟨l', vs', w1, ?_, w3, w4.mono s⟩
        rw [upd_ne, w2]
        intro z; subst z
        exact e1 (r.apart j i _ _ _ _ l' e2 h2 h es w1 rfl)
      | md ds' =>
        obtain ⟨l', vs', w1, w2, w3, w4⟩ := w
        refine ⟨l', vs', w1, ?_, w3, w4.mono s⟩
        rw [upd_ne, w2]
        intro z; subst z
        exact e1 (r.apart j i _ _ _ _ l' e2 h2 h es w1 rfl)
      | cu c =>
        refine c.carry (.of s) (fun l' o => ⟨?_, rfl⟩) w
        rw [upd_ne, (c.has w o).1]
        intro z; subst z
        exact e1 (r.apart j i _ _ _ _ l' e2 h2 h es o rfl)
  · rcases set_get h1 with ⟨e1, e2⟩ | ⟨e1, e2⟩
    · subst e2; cases q1
    rcases set_get h3 with ⟨f1, f2⟩ | ⟨f1, f2⟩
    · subst f2; cases q2
    exact r.apart a b ca cb oa ob l e2 h2 f2 h4 q1 q2
theorem R.frz {i : Nat} {ds : List D} (r : R K Hs H0 Hb Γ σ Hd H) (h : Γ[i]? = some (.ml ds)) : ∃ Hd', R K Hs H0 Hb (Γ.set i (.d (.list ds))) σ Hd' H := by
  obtain ⟨Hd', rl, s, f⟩ := r.l.frz h
  refine ⟨Hd', rl, ⟨r.e.d.trans s, r.e.h, rl.sub, fun a o h1 h2 => ?_⟩, r.b.trans s, fun j c ov l h1 h2 q => ?_⟩
  · cases z : Hd a with
    | some u => exact r.e.f a u z h2
    | none =>
      obtain ⟨c, ov, a1, a2, a3⟩ := f a o h1 z
      exact r.o i c ov a a1 a2 a3
  · rcases set_get h1 with ⟨e1, e2⟩ | ⟨e1, e2⟩
    · subst e2; cases q
    · exact r.o j c ov l e2 h2 q
/-- a slot's cell is forgotten, the slot as it is -/
theorem R.drop {i : Nat} (r : R K Hs H0 Hb Γ σ Hd H) : R K Hs H0 Hb (Γ.set i .no) σ Hd H := by
  by_cases hi : i < σ.length
  · have z := r.setNo (i := i) (ov := σ[i])
    have es : σ.set i σ[i] = σ := by simp
    rw [es] at z; exact z
  · have e : Γ.set i .no = Γ := List.set_eq_of_length_le (by rw [← r.l.len]; omega)
    rw [e]; exact r
end
end Hf

namespace Hf
open PySem PySem.Spec PyProof.Rows L2
open Evl (Ex)
section
variable (X : Cx) (Γ : List Cell)
/-- data -/
def DE (e : Expr) (d : D) : Prop := ∀ σ Hd H (Q : VK), Rl X.K Γ σ Hd H → (∀ v Hd' H', Stp Hd H Hd' H' → Is X.K Hd' v d → Q v H') → wE X e σ H Q
/-- a new list -/
def DN (e : Expr) (ds : List D) : Prop := ∀ σ Hd H (Q : VK), Rl X.K Γ σ Hd H → (∀ l vs Hd' H', Stp Hd H Hd' H' → H l = none → Hd' l = none → H' l = some (.lst vs) → IsAll X.K Hd' vs ds → Q (.ref l) H') → wE X e σ H Q
/-- a list that stands tracked -/
def DL (e : Expr) (ds : List D) : Prop := ∀ σ Hd H (Q : VK), Rl X.K Γ σ Hd H → (∀ l vs Hd' H', Stp Hd H Hd' H' → H' l = some (.lst vs) → IsAll X.K Hd' vs ds → Q (.ref l) H') → wE X e σ H Q
/-- a new dict -/
def DM (e : Expr) (es : List (D × D)) : Prop := ∀ σ Hd H (Q : VK), Rl X.K Γ σ Hd H → (∀ l kvs Hd' H', Stp Hd H Hd' H' → H l = none → Hd' l = none → H' l = some (.dK kvs) → IsKv X.K Hd' kvs es → Q (.ref l) H') → wE X e σ H Q
/-- a test's answer -/
def DT (e : Expr) (b : Bool) : Prop := ∀ σ Hd H (Q : Bool → Hp → Prop), Rl X.K Γ σ Hd H → (∀ Hd' H', Stp Hd H Hd' H' → Q b H') → wT X e σ H Q
def DW (e : Expr) (b : Bool) : Prop := ∀ σ Hd H (Q : Bool → Hp → Prop), Rl X.K Γ σ Hd H → (∀ Hd' H', Stp Hd H Hd' H' → Q b H') → wW X e σ H Q
/-- arguments -/
def DA (es : List Expr) (ds : List D) : Prop := ∀ σ Hd H (Q : List V → Hp → Prop), Rl X.K Γ σ Hd H → (∀ vs Hd' H', Stp Hd H Hd' H' → IsAll X.K Hd' vs ds → Q vs H') → wA X es σ H Q
end

section
variable {X : Cx} {Γ : List Cell} {e a b c : Expr} {es : List Expr} {d x y : D} {ds xs ys : List D} {i j : Int} {pos p : Pos}
theorem DE.of {e : Expr} {d d' : D} (h : DE X Γ e d) (q : d = d') : DE X Γ e d' := q ▸ h
theorem DT.of {e : Expr} {d d' : Bool} (h : DT X Γ e d) (q : d = d') : DT X Γ e d' := q ▸ h
theorem DN.of {e : Expr} {d d' : List D} (h : DN X Γ e d) (q : d = d') : DN X Γ e d' := q ▸ h
theorem DN.dl (h : DN X Γ e ds) : DL X Γ e ds := fun σ Hd H Q r q => h σ Hd H Q r fun l vs Hd' H' s _ _ h1 h2 => q l vs Hd' H' s h1 h2
theorem DN.de (h : DN X Γ e ds) : DE X Γ e (.list ds) := fun σ Hd H Q r q => h σ Hd H Q r fun l vs Hd' H' s h0 hd h1 h2 =>
  q (.ref l) (upd Hd' l (.lst vs)) H' (s.toD h0 h1 hd) (.lst (.inl (.inl upd_same)) (h2.mono (Ex.new hd)))
theorem DM.de {es : List (D × D)} (h : DM X Γ e es) : DE X Γ e (.dict es) := fun σ Hd H Q r q => h σ Hd H Q r fun l kvs Hd' H' s h0 hd h1 h2 =>
  q (.ref l) (upd Hd' l (.dK kvs)) H' (s.toD h0 h1 hd) (.dic (.inl upd_same) (h2.mono (Ex.new hd)))
/-- a value that needs nothing -/
theorem de_c {v : V} (h : PE X e (tC v)) (q : ∀ Hd, Is X.K Hd v d) : DE X Γ e d := fun σ Hd H Q r k => wE_of h (k v Hd H (Stp.refl r.sub) (q Hd))
theorem de_int {k : Int} {j : Nat} : DE X Γ (.Constant (.int k) j pos) (.int k) := de_c pe_int fun _ => .int k
theorem de_bl {k : Bool} {j : Nat} : DE X Γ (.Constant (.bool k) j pos) (.bool k) := de_c pe_bl fun _ => .bl k
theorem de_non {j : Nat} : DE X Γ (.Constant .none j pos) .none := de_c pe_non fun _ => .non
theorem de_str {k : Str} {j : Nat} : DE X Γ (.Constant (.str k) j pos) (.str k) := de_c pe_str fun _ => .str k
theorem de_var {n : Nat} {x : Str} (h : Γ[n]? = some (.d d)) (hp : PE X (.Name x p) (tVar n)) : DE X Γ (.Name x p) d := fun σ Hd H Q r k => by
  have hl : n < σ.length := by rw [r.len]; exact (List.getElem?_eq_some_iff.mp h).1
  obtain ⟨v, e, i⟩ := r.cell n _ _ h (List.getElem?_eq_getElem hl)
  exact wE_of hp ⟨v, by rw [List.getElem?_eq_getElem hl, e], k v Hd H (Stp.refl r.sub) i⟩
theorem dl_var {n : Nat} {x : Str} (h : Γ[n]? = some (.ml ds)) (hp : PE X (.Name x p) (tVar n)) : DL X Γ (.Name x p) ds := fun σ Hd H Q r k => by
  have hl : n < σ.length := by rw [r.len]; exact (List.getElem?_eq_some_iff.mp h).1
  obtain ⟨l, vs, e, _, h1, i⟩ := r.cell n _ _ h (List.getElem?_eq_getElem hl)
  exact wE_of hp ⟨.ref l, by rw [List.getElem?_eq_getElem hl, e], k l vs Hd H (Stp.refl r.sub) h1 i⟩
theorem de_opI {op : Operator} {C : Int → Int → Prop} {g : Int → Int → Int} (ho : OpR X (binaryOp op) (rI C fun i j => .int (g i j))) (ha : DE X Γ a (.int i)) (hb : DE X Γ b (.int j)) (hc : C i j) : DE X Γ (.BinOp a op b pos) (.int (g i j)) :=
  fun σ Hd H Q r k => wE_of (pe_op ho pe_w pe_w) (ha σ Hd H _ r fun v Hd1 H1 s1 i1 => hb σ Hd1 H1 _ (r.stp s1) fun u Hd2 H2 s2 i2 => by
    cases i1; cases i2
    exact ⟨i, j, rfl, rfl, hc, k _ Hd2 H2 (s1.trans s2) (.int _)⟩)
theorem de_opI0 {op : Operator} {g : Int → Int → Int} (ho : OpR X (binaryOp op) (rI0 fun i j => .int (g i j))) (ha : DE X Γ a (.int i)) (hb : DE X Γ b (.int j)) : DE X Γ (.BinOp a op b pos) (.int (g i j)) :=
  fun σ Hd H Q r k => wE_of (pe_op ho pe_w pe_w) (ha σ Hd H _ r fun v Hd1 H1 s1 i1 => hb σ Hd1 H1 _ (r.stp s1) fun u Hd2 H2 s2 i2 => by
    cases i1; cases i2
    exact ⟨i, j, rfl, rfl, k _ Hd2 H2 (s1.trans s2) (.int _)⟩)
theorem de_add (ha : DE X Γ a (.int i)) (hb : DE X Γ b (.int j)) : DE X Γ (.BinOp a .Add b pos) (.int (i + j)) := de_opI0 op_add ha hb
theorem de_sub (ha : DE X Γ a (.int i)) (hb : DE X Γ b (.int j)) : DE X Γ (.BinOp a .Sub b pos) (.int (i - j)) := de_opI0 op_sub ha hb
/-- * of two factors of together less than some hundred million bits -/
def CMulB (i j : Int) : Prop := i.natAbs.log2 + j.natAbs.log2 < 134217000
theorem CMulB.ok {i j : Int} (h : CMulB i j) : IntMulOk i j := by
  have b : ∀ x : Int, Builtin.Int.intBits x ≤ x.natAbs.log2 + 1 := fun x => by
    unfold Builtin.Int.intBits
    split <;> omega
  have h1 := b i
  have h2 := b j
  have h3 : i.natAbs.log2 + j.natAbs.log2 < 134217000 := h
  have e : bitsLine = 134217728 := by decide
  unfold IntMulOk
  intro z
  rw [Bool.and_eq_true] at z
  have z2 := z.2
  unfold Builtin.Int.intTooBig at z2
  have z3 := of_decide_eq_true z2
  rw [e] at z3
  omega
theorem op_mulB : OpR X (binaryOp .Mult) (rI CMulB fun i j => .int (i * j)) := opI fun _ _ _ _ _ _ _ hc q => mul_int q hc.ok
theorem de_mulB (ha : DE X Γ a (.int i)) (hb : DE X Γ b (.int j)) (hc : CMulB i j) : DE X Γ (.BinOp a .Mult b pos) (.int (i * j)) := de_opI op_mulB ha hb hc
/-- one factor small -/
theorem de_mulS (ha : DE X Γ a (.int i)) (hb : DE X Γ b (.int j)) (hc : (-18446744073709551616 < i ∧ i < 18446744073709551616) ∨ (-18446744073709551616 < j ∧ j < 18446744073709551616)) : DE X Γ (.BinOp a .Mult b pos) (.int (i * j)) := de_opI op_mul ha hb hc
theorem de_fdiv (ha : DE X Γ a (.int i)) (hb : DE X Γ b (.int j)) (hc : CDivW i j) : DE X Γ (.BinOp a .FloorDiv b pos) (.int (i / j)) := de_opI op_fdivW ha hb hc
/-- a divisor of either sign -/
def CDivX (_ j : Int) : Prop := j ≠ 0 ∧ j.natAbs.log2 < 9000
theorem op_fdivX : OpR X (binaryOp .FloorDiv) (rI CDivX fun i j => .int (i.fdiv j)) := opI fun i j _ _ _ _ _ hc q => floordiv_int hc.1 q (.inl (PyProof.noPylong_of_log2 hc.2))
theorem de_fdivX (ha : DE X Γ a (.int i)) (hb : DE X Γ b (.int j)) (hc : CDivX i j) : DE X Γ (.BinOp a .FloorDiv b pos) (.int (i.fdiv j)) := de_opI op_fdivX ha hb hc
theorem de_mod (ha : DE X Γ a (.int i)) (hb : DE X Γ b (.int j)) (hc : 0 < j) : DE X Γ (.BinOp a .Mod b pos) (.int (i % j)) := de_opI op_mod ha hb hc
theorem de_pow (ha : DE X Γ a (.int i)) (hb : DE X Γ b (.int j)) (hc : CPow i j) : DE X Γ (.BinOp a .Pow b pos) (.int (i ^ j.toNat)) := de_opI op_pow ha hb hc
theorem de_neg (ha : DE X Γ a (.int i)) : DE X Γ (.UnaryOp .USub a pos) (.int (-i)) := fun σ Hd H Q r k => wE_of (pe_un un_neg pe_w) (ha σ Hd H _ r fun v Hd1 H1 s1 i1 => by
  cases i1
  exact ⟨i, rfl, k _ Hd1 H1 s1 (.int _)⟩)
def wC (X : Cx) (op : CmpOp) (a b : Expr) : TE := fun σ H Q => ∀ (pins : List (Addr × Obj)) (s : Shared), Inv X pins σ H s →
    wpAny (model X.prog X.w) X.A (eval a X.env) (fun v s₁ => wpAny (model X.prog X.w) X.A (eval b X.env) (fun u s₂ => wpAny (model X.prog X.w) X.A (compareOp op v u) (EP X pins σ Q) X.xe s₂) X.xe s₁) X.xe s
theorem pc_w {op : CmpOp} : PC X op a b (wC X op a b) := ⟨fun pins s _ _ _ I h => h pins s I⟩
theorem wC_of {op : CmpOp} {r : R2} {σ : St} {H : Hp} {Q : VK} (ho : OpR X (compareOp op) r) (h : tOp r (wE X a) (wE X b) σ H Q) : wC X op a b σ H Q := fun pins s I =>
  thn (wE.run h pins s I) fun v s1 ⟨x, H1, I1, r1, q1⟩ => thn (wE.run q1 pins s1 I1) fun u s2 ⟨y, H2, I2, r2, q2⟩ => ho pins s2 σ H2 x y v u Q I2 r1 r2 q2
/-- a comparison's answer -/
def DC (X : Cx) (Γ : List Cell) (op : CmpOp) (a b : Expr) (m : Bool) : Prop := ∀ σ Hd H (Q : VK), Rl X.K Γ σ Hd H → (∀ Hd' H', Stp Hd H Hd' H' → Q (.bl m) H') → wC X op a b σ H Q
theorem de_cmp {op : CmpOp} {m : Bool} (h : DC X Γ op a b m) (hm : behindInMarks op b = false := by first | exact nobehind _ (by decide) (by decide) | rfl) : DE X Γ (.Compare a [op] [b] pos) (.bool m) := fun σ Hd H Q r k => wE_of (pe_cmp pc_w hm) (h σ Hd H _ r fun Hd' H' s => k _ Hd' H' s (.bl _))
theorem dt_cmp {op : CmpOp} {m : Bool} (h : DC X Γ op a b m) (hm : behindInMarks op b = false := by first | exact nobehind _ (by decide) (by decide) | rfl) : DT X Γ (.Compare a [op] [b] pos) m := fun σ Hd H Q r k => wT_of (pt_cmp pc_w hm) (h σ Hd H _ r fun Hd' H' s => ⟨m, rfl, k Hd' H' s⟩)
theorem DC.of {op : CmpOp} {m m' : Bool} (h : DC X Γ op a b m) (q : m = m') : DC X Γ op a b m' := q ▸ h
theorem dc_I {op : CmpOp} {g : Int → Int → Bool} (ho : OpR X (compareOp op) (rI0 fun i j => .bl (g i j))) (ha : DE X Γ a (.int i)) (hb : DE X Γ b (.int j)) : DC X Γ op a b (g i j) :=
  fun σ Hd H Q r k => wC_of ho (ha σ Hd H _ r fun v Hd1 H1 s1 i1 => hb σ Hd1 H1 _ (r.stp s1) fun u Hd2 H2 s2 i2 => by
    cases i1; cases i2
    exact ⟨i, j, rfl, rfl, k Hd2 H2 (s1.trans s2)⟩)
theorem dc_lt (ha : DE X Γ a (.int i)) (hb : DE X Γ b (.int j)) : DC X Γ .Lt a b (decide (i < j)) := dc_I op_lt ha hb
theorem dc_le (ha : DE X Γ a (.int i)) (hb : DE X Γ b (.int j)) : DC X Γ .LtE a b (decide (i ≤ j)) := dc_I op_le ha hb
theorem dc_gt (ha : DE X Γ a (.int i)) (hb : DE X Γ b (.int j)) : DC X Γ .Gt a b (decide (j < i)) := dc_I op_gt ha hb
theorem dc_ge (ha : DE X Γ a (.int i)) (hb : DE X Γ b (.int j)) : DC X Γ .GtE a b (decide (j ≤ i)) := dc_I op_ge ha hb
/-- the room that == of data wants -/
def Roomy (X : Cx) : Prop := X.A.units + 64 < cLine
theorem dc_eq (hu : Roomy X) (ha : DE X Γ a x) (hb : DE X Γ b y) (h1 : SeqAt.shaped x = true) (h2 : SeqAt.shaped y = true) : DC X Γ .Eq a b (PyData.eqv x y) :=
  fun σ Hd H Q r k => wC_of (op_eqD hu) (ha σ Hd H _ r fun v Hd1 H1 s1 i1 => hb σ Hd1 H1 _ (r.stp s1) fun u Hd2 H2 s2 i2 =>
    ⟨x, y, ((i1.mono s2.d).mono s2.s).dp (SeqAt.canLay_of_shaped h1), (i2.mono s2.s).dp (SeqAt.canLay_of_shaped h2), h1, h2, k Hd2 H2 (s1.trans s2)⟩)
theorem dc_ne (hu : Roomy X) (ha : DE X Γ a x) (hb : DE X Γ b y) (h1 : SeqAt.shaped x = true) (h2 : SeqAt.shaped y = true) : DC X Γ .NotEq a b (!PyData.eqv x y) :=
  fun σ Hd H Q r k => wC_of (op_neD hu) (ha σ Hd H _ r fun v Hd1 H1 s1 i1 => hb σ Hd1 H1 _ (r.stp s1) fun u Hd2 H2 s2 i2 =>
    ⟨x, y, ((i1.mono s2.d).mono s2.s).dp (SeqAt.canLay_of_shaped h1), (i2.mono s2.s).dp (SeqAt.canLay_of_shaped h2), h1, h2, k Hd2 H2 (s1.trans s2)⟩)
/-- ints -/
theorem dc_eqI (ha : DE X Γ a (.int i)) (hb : DE X Γ b (.int j)) : DC X Γ .Eq a b (decide (i = j)) :=
  fun σ Hd H Q r k => wC_of op_eq (ha σ Hd H _ r fun v Hd1 H1 s1 i1 => hb σ Hd1 H1 _ (r.stp s1) fun u Hd2 H2 s2 i2 => by
    cases i1; cases i2
    refine ⟨rfl, ?_⟩
    rw [show decide (V.int i = V.int j) = decide (i = j) from decide_eq_decide.mpr ⟨V.int.inj, congrArg _⟩]
    exact k Hd2 H2 (s1.trans s2))
theorem dc_neI (ha : DE X Γ a (.int i)) (hb : DE X Γ b (.int j)) : DC X Γ .NotEq a b (!decide (i = j)) :=
  fun σ Hd H Q r k => wC_of op_ne (ha σ Hd H _ r fun v Hd1 H1 s1 i1 => hb σ Hd1 H1 _ (r.stp s1) fun u Hd2 H2 s2 i2 => by
    cases i1; cases i2
    refine ⟨rfl, ?_⟩
    rw [show decide (V.int i = V.int j) = decide (i = j) from decide_eq_decide.mpr ⟨V.int.inj, congrArg _⟩]
    exact k Hd2 H2 (s1.trans s2))
/-- texts -/
theorem dc_eqS {z w : Str} (ha : DE X Γ a (.str z)) (hb : DE X Γ b (.str w)) : DC X Γ .Eq a b (decide (z = w)) :=
  fun σ Hd H Q r k => wC_of op_eq (ha σ Hd H _ r fun v Hd1 H1 s1 i1 => hb σ Hd1 H1 _ (r.stp s1) fun u Hd2 H2 s2 i2 => by
    cases i1; cases i2
    refine ⟨rfl, ?_⟩
    rw [show decide (V.str z = V.str w) = decide (z = w) from decide_eq_decide.mpr ⟨V.str.inj, congrArg _⟩]
    exact k Hd2 H2 (s1.trans s2))
theorem dc_neS {z w : Str} (ha : DE X Γ a (.str z)) (hb : DE X Γ b (.str w)) : DC X Γ .NotEq a b (!decide (z = w)) :=
  fun σ Hd H Q r k => wC_of op_ne (ha σ Hd H _ r fun v Hd1 H1 s1 i1 => hb σ Hd1 H1 _ (r.stp s1) fun u Hd2 H2 s2 i2 => by
    cases i1; cases i2
    refine ⟨rfl, ?_⟩
    rw [show decide (V.str z = V.str w) = decide (z = w) from decide_eq_decide.mpr ⟨V.str.inj, congrArg _⟩]
    exact k Hd2 H2 (s1.trans s2))
/-- is None, of data -/
def isNon : D → Bool
  | .none => true
  | _ => false
theorem Is.non_iff {K : PySem.W.Frag} {H : Hp} {v : V} {d : D} (h : Is K H v d) : decide (v = .non) = isNon d := by cases h <;> rfl
theorem dc_isN {j : Nat} {p2 : Pos} (ha : DE X Γ a x) : DC X Γ .Is a (.Constant .none j p2) (isNon x) :=
  fun σ Hd H Q r k => wC_of op_isN (ha σ Hd H _ r fun v Hd1 H1 s1 i1 => wE_of pe_non ⟨rfl, by rw [i1.non_iff]; exact k Hd1 H1 s1⟩)
theorem dc_notN {j : Nat} {p2 : Pos} (ha : DE X Γ a x) : DC X Γ .IsNot a (.Constant .none j p2) (!isNon x) :=
  fun σ Hd H Q r k => wC_of op_notN (ha σ Hd H _ r fun v Hd1 H1 s1 i1 => wE_of pe_non ⟨rfl, by rw [i1.non_iff]; exact k Hd1 H1 s1⟩)
/-- in a tuple or list of flat things -/
def flatD : D → Bool
  | .none => true
  | .bool _ => true
  | .int _ => true
  | .str _ => true
  | _ => false
theorem Is.flat {K : PySem.W.Frag} {H : Hp} {v : V} {d : D} (h : Is K H v d) : flatV v = flatD d := by cases h <;> rfl
theorem IsAll.flatV {K : PySem.W.Frag} {H : Hp} {vs : List V} {ds : List D} (h : IsAll K H vs ds) : vs.all flatV = ds.all flatD := by
  induction vs generalizing ds with
  | nil => cases h; rfl
  | cons v vs ih => cases h with | cons a b => rw [List.all_cons, List.all_cons, a.flat, ih b]
theorem eqV_eqv {K : PySem.W.Frag} {H : Hp} {v w : V} {d e : D} (h : Is K H v d) (g : Is K H w e) (fd : flatD d = true) (fe : flatD e = true) : eqV v w = PyData.eqv d e := by
  cases h <;> cases g <;> first | rfl | cases fd | cases fe
def inD (d : D) (ds : List D) : Bool := ds.any fun y => PyData.eqv y d
theorem inV_inD {K : PySem.W.Frag} {H : Hp} {v : V} {d : D} {vs : List V} {ds : List D} (h : Is K H v d) (g : IsAll K H vs ds) (fd : flatD d = true) (fe : ds.all flatD = true) : inV v vs = inD d ds := by
  induction vs generalizing ds with
  | nil => cases g; rfl
  | cons w vs ih =>
    cases g with
    | cons a b =>
      have fe' := Bool.and_eq_true_iff.mp fe
      have z := ih b fe'.2
      unfold inV inD at z ⊢
      rw [List.any_cons, List.any_cons, eqV_eqv a h fe'.1 fd, z]
theorem dc_in (ha : DE X Γ a x) (hb : DE X Γ b y) (q : y = .list ds ∨ y = .tuple ds) (f1 : flatD x = true) (f2 : ds.all flatD = true) : DC X Γ .In a b (inD x ds) :=
  fun σ Hd H Q r k => wC_of op_in_seq (ha σ Hd H _ r fun v Hd1 H1 s1 i1 => hb σ Hd1 H1 _ (r.stp s1) fun u Hd2 H2 s2 i2 => by
    rcases q with rfl | rfl
    · cases i2 with
      | lst t al => exact ⟨_, _, rfl, .inl (Evl.ex_l s2.s t), by rw [i1.flat]; exact f1, by rw [al.flatV]; exact f2, by rw [inV_inD (i1.mono s2.d) al f1 f2]; exact k Hd2 H2 (s1.trans s2)⟩
    · cases i2 with
      | tup t al => exact ⟨_, _, rfl, .inr (Evl.ex_t s2.s t), by rw [i1.flat]; exact f1, by rw [al.flatV]; exact f2, by rw [inV_inD (i1.mono s2.d) al f1 f2]; exact k Hd2 H2 (s1.trans s2)⟩)
theorem dc_notin (ha : DE X Γ a x) (hb : DE X Γ b y) (q : y = .list ds ∨ y = .tuple ds) (f1 : flatD x = true) (f2 : ds.all flatD = true) : DC X Γ .NotIn a b (!inD x ds) :=
  fun σ Hd H Q r k => wC_of op_notIn_seq (ha σ Hd H _ r fun v Hd1 H1 s1 i1 => hb σ Hd1 H1 _ (r.stp s1) fun u Hd2 H2 s2 i2 => by
    rcases q with rfl | rfl
    · cases i2 with
      | lst t al => exact ⟨_, _, rfl, .inl (Evl.ex_l s2.s t), by rw [i1.flat]; exact f1, by rw [al.flatV]; exact f2, by rw [inV_inD (i1.mono s2.d) al f1 f2]; exact k Hd2 H2 (s1.trans s2)⟩
    · cases i2 with
      | tup t al => exact ⟨_, _, rfl, .inr (Evl.ex_t s2.s t), by rw [i1.flat]; exact f1, by rw [al.flatV]; exact f2, by rw [inV_inD (i1.mono s2.d) al f1 f2]; exact k Hd2 H2 (s1.trans s2)⟩)
/-- one sign in a text -/
theorem dc_inS {z : Str} {n : Nat} (ha : DE X Γ a (.str ⟨#[n]⟩)) (hb : DE X Γ b (.str z)) : DC X Γ .In a b (decide (n ∈ z.cps.toList)) :=
  fun σ Hd H Q r k => wC_of op_in_sign (ha σ Hd H _ r fun v Hd1 H1 s1 i1 => hb σ Hd1 H1 _ (r.stp s1) fun u Hd2 H2 s2 i2 => by
    cases i1; cases i2
    exact ⟨n, z, rfl, rfl, k Hd2 H2 (s1.trans s2)⟩)
theorem dc_notinS {z : Str} {n : Nat} (ha : DE X Γ a (.str ⟨#[n]⟩)) (hb : DE X Γ b (.str z)) : DC X Γ .NotIn a b (!decide (n ∈ z.cps.toList)) :=
  fun σ Hd H Q r k => wC_of op_notIn_sign (ha σ Hd H _ r fun v Hd1 H1 s1 i1 => hb σ Hd1 H1 _ (r.stp s1) fun u Hd2 H2 s2 i2 => by
    cases i1; cases i2
    exact ⟨n, z, rfl, rfl, k Hd2 H2 (s1.trans s2)⟩)
/-- a op1 b op2 c of ints -/
theorem de_chain {op op' : CmpOp} {g g' : Int → Int → Bool} {l : Int} (ho : OpR X (compareOp op) (rI0 fun i j => .bl (g i j))) (ho' : OpR X (compareOp op') (rI0 fun i j => .bl (g' i j))) (hm : lastMarks [op, op'] [b, c] = false)
    (ha : DE X Γ a (.int i)) (hb : DE X Γ b (.int j)) (hc : DE X Γ c (.int l)) : DE X Γ (.Compare a [op, op'] [b, c] pos) (.bool (g i j && g' j l)) :=
  fun σ Hd H Q r k => wE_of (pe_chain ho ho' pe_w pe_w pe_w hm) (ha σ Hd H _ r fun v Hd1 H1 s1 i1 => hb σ Hd1 H1 _ (r.stp s1) fun u Hd2 H2 s2 i2 => by
    cases i1; cases i2
    refine ⟨i, j, rfl, rfl, _, rfl, ?_⟩
    cases q : g i j with
    | false =>
      have z := k (.bl (g i j && g' j l)) Hd2 H2 (s1.trans s2) (.bl _)
      rw [q] at z; exact z
    | true =>
      refine hc σ Hd2 H2 _ (r.stp (s1.trans s2)) fun w Hd3 H3 s3 i3 => ?_
      cases i3
      refine ⟨j, l, rfl, rfl, ?_⟩
      have z := k (.bl (g i j && g' j l)) Hd3 H3 ((s1.trans s2).trans s3) (.bl _)
      rw [q] at z; exact z)
theorem de_one {op} (h : DE X Γ a d) : DE X Γ (.BoolOp op [a] pos) d := fun σ Hd H Q r k => wE_of (pe_one pe_w) (h σ Hd H Q r k)
theorem de_and {m n : Bool} (ha : DE X Γ a (.bool m)) (hb : m = true → DE X Γ (.BoolOp .And (b :: es) pos) (.bool n)) : DE X Γ (.BoolOp .And (a :: b :: es) pos) (.bool (m && n)) :=
  fun σ Hd H Q r k => wE_of (pe_and pe_w pe_w) (ha σ Hd H _ r fun v Hd1 H1 s1 i1 => by
    cases i1
    refine ⟨m, rfl, ?_⟩
    cases m with
    | true => exact hb rfl σ Hd1 H1 _ (r.stp s1) fun u Hd2 H2 s2 i2 => k u Hd2 H2 (s1.trans s2) i2
    | false => exact k _ Hd1 H1 s1 (.bl _))
theorem de_or {m n : Bool} (ha : DE X Γ a (.bool m)) (hb : m = false → DE X Γ (.BoolOp .Or (b :: es) pos) (.bool n)) : DE X Γ (.BoolOp .Or (a :: b :: es) pos) (.bool (m || n)) :=
  fun σ Hd H Q r k => wE_of (pe_or pe_w pe_w) (ha σ Hd H _ r fun v Hd1 H1 s1 i1 => by
    cases i1
    refine ⟨m, rfl, ?_⟩
    cases m with
    | false => exact hb rfl σ Hd1 H1 _ (r.stp s1) fun u Hd2 H2 s2 i2 => k u Hd2 H2 (s1.trans s2) i2
    | true => exact k _ Hd1 H1 s1 (.bl _))
theorem de_not {m : Bool} (ha : DE X Γ a (.bool m)) : DE X Γ (.UnaryOp .Not a pos) (.bool (!m)) := fun σ Hd H Q r k => wE_of (pe_not pe_w) (ha σ Hd H _ r fun v Hd1 H1 s1 i1 => by
  cases i1
  exact ⟨m, rfl, k _ Hd1 H1 s1 (.bl _)⟩)
/-- a comparison, a call that gives a bool, as a test -/
theorem dt_val {m : Bool} (ha : DE X Γ a (.bool m)) (he : ∀ whole, isTrue a X.env whole = (do let v ← whole; standAt a.pos; holding [v] (truthy v)) := by intro _; rfl) : DT X Γ a m :=
  fun σ Hd H Q r k => wT_of (pt_val pe_w he) (ha σ Hd H _ r fun v Hd1 H1 s1 i1 => by
    cases i1
    exact ⟨m, rfl, k Hd1 H1 s1⟩)
/-- a chain as a test -/
theorem dt_chain {op op' : CmpOp} {g g' : Int → Int → Bool} {l : Int} (ho : OpR X (compareOp op) (rI0 fun i j => .bl (g i j))) (ho' : OpR X (compareOp op') (rI0 fun i j => .bl (g' i j))) (hm : lastMarks [op, op'] [b, c] = false)
    (ha : DE X Γ a (.int i)) (hb : DE X Γ b (.int j)) (hc : DE X Γ c (.int l)) : DT X Γ (.Compare a [op, op'] [b, c] pos) (g i j && g' j l) :=
  fun σ Hd H Q r k => wT_of (pt_chain ho ho' pe_w pe_w pe_w hm) (ha σ Hd H _ r fun v Hd1 H1 s1 i1 => hb σ Hd1 H1 _ (r.stp s1) fun u Hd2 H2 s2 i2 => by
    cases i1; cases i2
    refine ⟨i, j, rfl, rfl, _, rfl, ?_⟩
    cases q : g i j with
    | false =>
      have z := k Hd2 H2 (s1.trans s2)
      rw [q] at z; exact ⟨_, rfl, z⟩
    | true =>
      refine hc σ Hd2 H2 _ (r.stp (s1.trans s2)) fun w Hd3 H3 s3 i3 => ?_
      cases i3
      refine ⟨j, l, rfl, rfl, _, rfl, ?_⟩
      have z := k Hd3 H3 ((s1.trans s2).trans s3)
      rw [q] at z; exact z)
theorem dt_not {m : Bool} (ha : DT X Γ a m) : DT X Γ (.UnaryOp .Not a pos) (!m) := fun σ Hd H Q r k => wT_of (pt_not pt_w) (ha σ Hd H _ r k)
theorem dt_w {m : Bool} (h : DW X Γ a m) : DT X Γ a m := fun σ Hd H Q r k => wT_of (PW.pt pw_w) (h σ Hd H Q r k)
theorem dw_and1 {m : Bool} (h : DT X Γ a m) : DW X Γ (.BoolOp .And [a] pos) m := fun σ Hd H Q r k => wW_of (pw_and1 pt_w) (h σ Hd H Q r k)
theorem dw_or1 {m : Bool} (h : DT X Γ a m) : DW X Γ (.BoolOp .Or [a] pos) m := fun σ Hd H Q r k => wW_of (pw_or1 pt_w) (h σ Hd H Q r k)
theorem dw_and {m n : Bool} (ha : DT X Γ a m) (hb : m = true → DW X Γ (.BoolOp .And (b :: es) pos) n) : DW X Γ (.BoolOp .And (a :: b :: es) pos) (m && n) :=
  fun σ Hd H Q r k => wW_of (pw_and pt_w pw_w) (ha σ Hd H _ r fun Hd1 H1 s1 => by
    cases m with
    | true => exact hb rfl σ Hd1 H1 _ (r.stp s1) fun Hd2 H2 s2 => k Hd2 H2 (s1.trans s2)
    | false => exact k Hd1 H1 s1)
theorem dw_or {m n : Bool} (ha : DT X Γ a m) (hb : m = false → DW X Γ (.BoolOp .Or (b :: es) pos) n) : DW X Γ (.BoolOp .Or (a :: b :: es) pos) (m || n) :=
  fun σ Hd H Q r k => wW_of (pw_or pt_w pw_w) (ha σ Hd H _ r fun Hd1 H1 s1 => by
    cases m with
    | false => exact hb rfl σ Hd1 H1 _ (r.stp s1) fun Hd2 H2 s2 => k Hd2 H2 (s1.trans s2)
    | true => exact k Hd1 H1 s1)
theorem dt_and {m n : Bool} (ha : DT X Γ a m) (hb : m = true → DW X Γ (.BoolOp .And (b :: es) pos) n) : DT X Γ (.BoolOp .And (a :: b :: es) pos) (m && n) := dt_w (dw_and ha hb)
theorem dt_or {m n : Bool} (ha : DT X Γ a m) (hb : m = false → DW X Γ (.BoolOp .Or (b :: es) pos) n) : DT X Γ (.BoolOp .Or (a :: b :: es) pos) (m || n) := dt_w (dw_or ha hb)
/-- a if t else b -/
theorem de_if {m : Bool} (hc : DT X Γ c m) (ha : m = true → DE X Γ a d) (hb : m = false → DE X Γ b d) : DE X Γ (.IfExp c a b pos) d := fun σ Hd H Q r k => wE_of (pe_ifExp pt_w pe_w pe_w) (hc σ Hd H _ r fun Hd1 H1 s1 => by
  cases m with
  | true => exact ha rfl σ Hd1 H1 _ (r.stp s1) fun u Hd2 H2 s2 i2 => k u Hd2 H2 (s1.trans s2) i2
  | false => exact hb rfl σ Hd1 H1 _ (r.stp s1) fun u Hd2 H2 s2 i2 => k u Hd2 H2 (s1.trans s2) i2)
theorem da_nil : DA X Γ [] [] := fun σ Hd H Q r k => wA_of pa_nil (k [] Hd H (Stp.refl r.sub) .nil)
theorem da_cons (ha : DE X Γ e d) (hr : DA X Γ es ds) (hs : starEach (e :: es) X.env = (false, eval e X.env) :: starEach es X.env := by rfl) : DA X Γ (e :: es) (d :: ds) :=
  fun σ Hd H Q r k => wA_of (pa_cons pe_w pa_w hs) (ha σ Hd H _ r fun v Hd1 H1 s1 i1 => hr σ Hd1 H1 _ (r.stp s1) fun vs Hd2 H2 s2 i2 => k _ Hd2 H2 (s1.trans s2) (.cons (i1.mono s2.d) i2))
theorem de_tup {x1} (h : DA X Γ es ds) (hl : ds.length ≤ 1000) : DE X Γ (.Tuple es x1 pos) (.tuple ds) := fun σ Hd H Q r k => wE_of (pe_tup pa_w) (h σ Hd H _ r fun vs Hd1 H1 s1 i1 =>
  ⟨by rw [i1.len]; exact Nat.le_of_lt (small1000 hl), fun p hp => k _ (upd Hd1 p (.tup vs)) _ (s1.trans (Stp.newD s1.s hp)) (.tup (.inl (.inl upd_same)) (i1.mono (Ex.new (ex_none s1.s hp))))⟩)
theorem dn_lst (h : DA X Γ es ds) (hl : ds.length ≤ 1000) : DN X Γ (.List es pos) ds := fun σ Hd H Q r k => wE_of (pe_lst pa_w) (h σ Hd H _ r fun vs Hd1 H1 s1 i1 =>
  ⟨by rw [i1.len]; exact Nat.le_of_lt (small1000 hl), fun p hp => k p vs Hd1 _ (s1.trans (Stp.new s1.s hp)) (ex_none s1.h hp) (ex_none s1.s hp) upd_same i1⟩)
theorem de_lst (h : DA X Γ es ds) (hl : ds.length ≤ 1000) : DE X Γ (.List es pos) (.list ds) := (dn_lst h hl).de
theorem atI_all {K : PySem.W.Frag} {H : Hp} {vs : List V} {n : Int} (h : IsAll K H vs ds) (q : atI ds n = some d) : ∃ v, atI vs n = some v ∧ Is K H v d := by
  obtain ⟨j, h1, h2⟩ : ∃ j, ixN ds.length n = some j ∧ ds[j]? = some d := by
    unfold atI at q
    cases z : ixN ds.length n with
    | none => rw [z] at q; cases q
    | some j => rw [z] at q; exact ⟨j, rfl, q⟩
  obtain ⟨v, h3, h4⟩ := h.get h2
  refine ⟨v, ?_, h4⟩
  unfold atI
  rw [h.len, h1]; exact h3
theorem plainIx_of (b : Expr) (h : ∀ o i, subscripted b false o i = operate [o, i] (getItem o i)) : PlainIx b := h
theorem de_ixT (ha : DE X Γ a (.tuple ds)) (hb : DE X Γ b (.int i)) (q : atI ds i = some d) (hp : PlainIx b := by exact fun _ _ => rfl) : DE X Γ (.Subscript a b pos) d :=
  fun σ Hd H Q r k => wE_of (pe_ix ix_tup pe_w pe_w hp) (ha σ Hd H _ r fun v Hd1 H1 s1 i1 => hb σ Hd1 H1 _ (r.stp s1) fun u Hd2 H2 s2 i2 => by
    cases i2
    cases i1 with
    | tup t al =>
      obtain ⟨w, h1, h2⟩ := atI_all al q
      exact ⟨_, _, i, w, rfl, rfl, Evl.ex_t (s2.d.trans s2.s) t, h1, k _ Hd2 H2 (s1.trans s2) (h2.mono s2.d)⟩)
theorem de_ixL (ha : DE X Γ a (.list ds)) (hb : DE X Γ b (.int i)) (q : atI ds i = some d) (hp : PlainIx b := by exact fun _ _ => rfl) : DE X Γ (.Subscript a b pos) d :=
  fun σ Hd H Q r k => wE_of (pe_ix ix_list pe_w pe_w hp) (ha σ Hd H _ r fun v Hd1 H1 s1 i1 => hb σ Hd1 H1 _ (r.stp s1) fun u Hd2 H2 s2 i2 => by
    cases i2
    cases i1 with
    | lst t al =>
      obtain ⟨w, h1, h2⟩ := atI_all al q
      exact ⟨_, _, i, w, rfl, rfl, Evl.ex_l (s2.d.trans s2.s) t, h1, k _ Hd2 H2 (s1.trans s2) (h2.mono s2.d)⟩)
/-- of a tracked list (one's own) -/
theorem de_ixM (ha : DL X Γ a ds) (hb : DE X Γ b (.int i)) (q : atI ds i = some d) (hp : PlainIx b := by exact fun _ _ => rfl) : DE X Γ (.Subscript a b pos) d :=
  fun σ Hd H Q r k => wE_of (pe_ix ix_list pe_w pe_w hp) (ha σ Hd H _ r fun l vs Hd1 H1 s1 h1 i1 => hb σ Hd1 H1 _ (r.stp s1) fun u Hd2 H2 s2 i2 => by
    cases i2
    obtain ⟨w, h3, h2⟩ := atI_all i1 q
    exact ⟨_, _, i, w, rfl, rfl, SqL.of (s2.h _ _ h1), h3, k _ Hd2 H2 (s1.trans s2) (h2.mono s2.d)⟩)
/-- a sign of a text -/
theorem de_ixS {z : Str} {n : Nat} (ha : DE X Γ a (.str z)) (hb : DE X Γ b (.int i)) (hz : z.length ≤ 100000) (q : atI z.cps.toList i = some n) (hp : PlainIx b := by exact fun _ _ => rfl) : DE X Γ (.Subscript a b pos) (.str ⟨#[n]⟩) :=
  fun σ Hd H Q r k => wE_of (pe_ix ix_str pe_w pe_w hp) (ha σ Hd H _ r fun v Hd1 H1 s1 i1 => hb σ Hd1 H1 _ (r.stp s1) fun u Hd2 H2 s2 i2 => by
    cases i2; cases i1
    exact ⟨z, i, n, rfl, rfl, Evl.sz_of hz, q, k _ Hd2 H2 (s1.trans s2) (.str _)⟩)
def DO (X : Cx) (Γ : List Cell) (e : Option Expr) (o : Option Int) : Prop := ∃ t : TO, PO X e t ∧ ∀ σ Hd H (Q : Option Int → Hp → Prop), Rl X.K Γ σ Hd H → (∀ Hd' H', Stp Hd H Hd' H' → Q o H') → t σ H Q
theorem do_none : DO X Γ none none := ⟨_, po_none, fun σ Hd H Q r k => k Hd H (Stp.refl r.sub)⟩
theorem do_some (h : DE X Γ e (.int i)) : DO X Γ (some e) (some i) := ⟨_, po_some pe_w, fun σ Hd H Q r k => h σ Hd H _ r fun v Hd1 H1 s1 i1 => by
  cases i1
  exact ⟨i, rfl, k Hd1 H1 s1⟩⟩
/-- the items of a slice -/
def cutD {α : Type} (ds : List α) (lo hi : Option Int) : List α := (ds.drop (HT.sIx ds.length 0 lo)).take (HT.sIx ds.length ds.length hi - HT.sIx ds.length 0 lo)
theorem cut_all {K : PySem.W.Frag} {H : Hp} {vs : List V} (h : IsAll K H vs ds) (lo hi : Option Int) : IsAll K H (cutV vs lo hi) (cutD ds lo hi) := by
  unfold cutV cutD
  rw [h.len]
  exact (h.drop _).take _
theorem dn_slL {lo hi : Option Expr} {o u : Option Int} {p2 : Pos} (ha : DE X Γ a (.list ds)) (hl : DO X Γ lo o) (hh : DO X Γ hi u) : DN X Γ (.Subscript a (.Slice lo hi none p2) pos) (cutD ds o u) := by
  obtain ⟨tl, pl, kl⟩ := hl
  obtain ⟨th, ph, kh⟩ := hh
  exact fun σ Hd H Q r k => wE_of (pe_slice sl_list pe_w pl ph) (ha σ Hd H _ r fun v Hd1 H1 s1 i1 => kl σ Hd1 H1 _ (r.stp s1) fun Hd2 H2 s2 => kh σ Hd2 H2 _ (r.stp (s1.trans s2)) fun Hd3 H3 s3 => by
    have s23 := s2.trans s3
    cases i1 with
    | lst t al => exact ⟨_, _, rfl, Evl.ex_l (s23.d.trans s23.s) t, fun p hp => k p _ Hd3 _ ((s1.trans s23).trans (Stp.new s23.s hp)) (ex_none (s1.trans s23).h hp) (ex_none s23.s hp) upd_same ((cut_all al o u).mono s23.d)⟩)
theorem dn_slM {lo hi : Option Expr} {o u : Option Int} {p2 : Pos} (ha : DL X Γ a ds) (hl : DO X Γ lo o) (hh : DO X Γ hi u) : DN X Γ (.Subscript a (.Slice lo hi none p2) pos) (cutD ds o u) := by
  obtain ⟨tl, pl, kl⟩ := hl
  obtain ⟨th, ph, kh⟩ := hh
  exact fun σ Hd H Q r k => wE_of (pe_slice sl_list pe_w pl ph) (ha σ Hd H _ r fun l vs Hd1 H1 s1 h1 i1 => kl σ Hd1 H1 _ (r.stp s1) fun Hd2 H2 s2 => kh σ Hd2 H2 _ (r.stp (s1.trans s2)) fun Hd3 H3 s3 => by
    have s23 := s2.trans s3
    exact ⟨_, _, rfl, SqL.of (s23.h _ _ h1), fun p hp => k p _ Hd3 _ ((s1.trans s23).trans (Stp.new s23.s hp)) (ex_none (s1.trans s23).h hp) (ex_none s23.s hp) upd_same ((cut_all i1 o u).mono s23.d)⟩)
theorem cut_whole {α : Type} {ds : List α} {lo hi : Option Int} (h : HT.sIx ds.length 0 lo = 0 ∧ HT.sIx ds.length ds.length hi = ds.length) : cutD ds lo hi = ds := by
  unfold cutD
  rw [h.1, h.2]
  simp
theorem de_slT {lo hi : Option Expr} {o u : Option Int} {p2 : Pos} (ha : DE X Γ a (.tuple ds)) (hl : DO X Γ lo o) (hh : DO X Γ hi u) : DE X Γ (.Subscript a (.Slice lo hi none p2) pos) (.tuple (cutD ds o u)) := by
  obtain ⟨tl, pl, kl⟩ := hl
  obtain ⟨th, ph, kh⟩ := hh
  exact fun σ Hd H Q r k => wE_of (pe_slice sl_tupA pe_w pl ph) (ha σ Hd H _ r fun v Hd1 H1 s1 i1 => kl σ Hd1 H1 _ (r.stp s1) fun Hd2 H2 s2 => kh σ Hd2 H2 _ (r.stp (s1.trans s2)) fun Hd3 H3 s3 => by
    have s23 := s2.trans s3
    cases i1 with
    | tup t al =>
      refine ⟨_, _, rfl, Evl.ex_t (s23.d.trans s23.s) t, fun w => ?_, fun w p hp => ?_⟩
      · rw [al.len] at w
        rw [cut_whole w] at k
        exact k _ Hd3 H3 (s1.trans s23) (.tup (Evl.ex_t s23.d t) (al.mono s23.d))
      · exact k _ _ _ ((s1.trans s23).trans (Stp.newD s23.s hp)) (.tup (.inl (.inl upd_same)) ((cut_all al o u).mono (s23.d.trans (Ex.new (ex_none s23.s hp))))))
theorem de_B {id : String} {r : List V → Hp → VK → Prop} {x : Str} (hc : CallR X (.builtin id) r) (hg : Gl X x) (hm : X.mg x = none) (hv : bootBuiltins x = some (.builtin id)) (ha : DA X Γ (e :: es) ds)
    (hr : ∀ vs Hd H (Q : VK), Ex Hd H → IsAll X.K Hd vs ds → (∀ v Hd' H', Stp Hd H Hd' H' → Is X.K Hd' v d → Q v H') → r vs H Q)
    (hn : x ≠ "__name__" := by decide) (hdb : (x == ("__debug__" : Str)) = false := by decide) (he : starEach (e :: es) X.env = (false, eval e X.env) :: starEach es X.env := by rfl) (hpl : (backTo pos (starEach es X.env)).any (·.1) = false := by rfl) :
    DE X Γ (.Call (.Name x p) (e :: es) [] pos) d := fun σ Hd H Q rl k => wE_of (pe_callB hc hg hm hv pa_w hn hdb he hpl) (ha σ Hd H _ rl fun vs Hd1 H1 s1 i1 => hr vs Hd1 H1 _ s1.s i1 fun v Hd2 H2 s2 i2 => k v Hd2 H2 (s1.trans s2) i2)
theorem de_Ty {T : String} {r : List V → Hp → VK → Prop} {x : Str} (hc : CallR X (.type T) r) (hg : Gl X x) (hm : X.mg x = none) (hv : bootBuiltins x = some (.type T)) (ha : DA X Γ (e :: es) ds)
    (hr : ∀ vs Hd H (Q : VK), Ex Hd H → IsAll X.K Hd vs ds → (∀ v Hd' H', Stp Hd H Hd' H' → Is X.K Hd' v d → Q v H') → r vs H Q)
    (hn : x ≠ "__name__" := by decide) (hdb : (x == ("__debug__" : Str)) = false := by decide) (he : starEach (e :: es) X.env = (false, eval e X.env) :: starEach es X.env := by rfl) (hpl : (backTo pos (starEach es X.env)).any (·.1) = false := by rfl) :
    DE X Γ (.Call (.Name x p) (e :: es) [] pos) d := fun σ Hd H Q rl k => wE_of (pe_callTy hc hg hm hv pa_w hn hdb he hpl) (ha σ Hd H _ rl fun vs Hd1 H1 s1 i1 => hr vs Hd1 H1 _ s1.s i1 fun v Hd2 H2 s2 i2 => k v Hd2 H2 (s1.trans s2) i2)
/-- the global names of the built-ins: what stands under them at the top -/
abbrev NoMg (X : Cx) (x : Str) : Prop := X.mg x = none
theorem all1 {K : PySem.W.Frag} {H : Hp} {vs : List V} {d : D} (h : IsAll K H vs [d]) : ∃ v, vs = [v] ∧ Is K H v d := by
  cases h with | cons a b => cases b; exact ⟨_, rfl, a⟩
theorem all2 {K : PySem.W.Frag} {H : Hp} {vs : List V} {d d' : D} (h : IsAll K H vs [d, d']) : ∃ v v', vs = [v, v'] ∧ Is K H v d ∧ Is K H v' d' := by
  cases h with | cons a b => cases b with | cons a' b' => cases b'; exact ⟨_, _, rfl, a, a'⟩
theorem de_len (hg : Gl X "len") (hm : NoMg X "len") (ha : DE X Γ a x) (q : x = .list ds ∨ x = .tuple ds) (hs : starEach [a] X.env = (false, eval a X.env) :: starEach [] X.env := by rfl) : DE X Γ (.Call (.Name "len" p) [a] [] pos) (.int (ds.length : Int)) :=
  de_B call_len_seq hg hm PySem.boot_len (da_cons ha da_nil hs) (hdb := by decide) (hn := by decide) (he := hs) (hpl := rfl) (hr := fun vs Hd H Q s h k => by
    obtain ⟨v, rfl, i⟩ := all1 h
    rcases q with rfl | rfl
    · cases i with | lst t al => exact ⟨_, _, rfl, .inl (Evl.ex_l s t), by rw [al.len]; exact k _ Hd H (Stp.refl s) (.int _)⟩
    · cases i with | tup t al => exact ⟨_, _, rfl, .inr (Evl.ex_t s t), by rw [al.len]; exact k _ Hd H (Stp.refl s) (.int _)⟩)
theorem de_lenL (hg : Gl X "len") (hm : NoMg X "len") (ha : DE X Γ a (.list ds)) (hs : starEach [a] X.env = (false, eval a X.env) :: starEach [] X.env := by rfl) : DE X Γ (.Call (.Name "len" p) [a] [] pos) (.int (ds.length : Int)) := de_len hg hm ha (.inl rfl) hs
theorem de_lenT (hg : Gl X "len") (hm : NoMg X "len") (ha : DE X Γ a (.tuple ds)) (hs : starEach [a] X.env = (false, eval a X.env) :: starEach [] X.env := by rfl) : DE X Γ (.Call (.Name "len" p) [a] [] pos) (.int (ds.length : Int)) := de_len hg hm ha (.inr rfl) hs
theorem de_lenS {z : Str} (hg : Gl X "len") (hm : NoMg X "len") (ha : DE X Γ a (.str z)) (hz : z.length ≤ 100000) (hs : starEach [a] X.env = (false, eval a X.env) :: starEach [] X.env := by rfl) : DE X Γ (.Call (.Name "len" p) [a] [] pos) (.int (z.length : Int)) :=
  de_B call_len_str hg hm PySem.boot_len (da_cons ha da_nil hs) (hdb := by decide) (hn := by decide) (he := hs) (hpl := rfl) (hr := fun vs Hd H Q s h k => by
    obtain ⟨v, rfl, i⟩ := all1 h
    cases i
    exact ⟨z, rfl, Evl.sz_of hz, k _ Hd H (Stp.refl s) (.int _)⟩)
theorem de_lenM (hg : Gl X "len") (hm : NoMg X "len") (ha : DL X Γ a ds) (hs : starEach [a] X.env = (false, eval a X.env) :: starEach [] X.env := by rfl) : DE X Γ (.Call (.Name "len" p) [a] [] pos) (.int (ds.length : Int)) :=
  fun σ Hd H Q rl k => wE_of (pe_callB call_len_seq hg hm PySem.boot_len (pa_cons pe_w pa_nil hs) (by decide) (by decide) hs rfl) (ha σ Hd H _ rl fun l vs Hd1 H1 s1 h1 i1 => ⟨_, _, rfl, .inl (SqL.of h1), by rw [i1.len]; exact k _ Hd1 H1 s1 (.int _)⟩)
theorem de_abs (hg : Gl X "abs") (hm : NoMg X "abs") (ha : DE X Γ a (.int i)) (hs : starEach [a] X.env = (false, eval a X.env) :: starEach [] X.env := by rfl) : DE X Γ (.Call (.Name "abs" p) [a] [] pos) (.int (if i < 0 then -i else i)) :=
  de_B call_abs hg hm (by decide +kernel) (da_cons ha da_nil hs) (hdb := by decide) (hn := by decide) (he := hs) (hpl := rfl) (hr := fun vs Hd H Q s h k => by
    obtain ⟨v, rfl, q⟩ := all1 h
    cases q
    exact ⟨i, rfl, k _ Hd H (Stp.refl s) (.int _)⟩)
theorem de_max2 (hc : X.calm = true) (hg : Gl X "max") (hm : NoMg X "max") (ha : DE X Γ a (.int i)) (hb : DE X Γ b (.int j)) (hs : starEach [a, b] X.env = (false, eval a X.env) :: starEach [b] X.env := by rfl) (hpl : (backTo pos (starEach [b] X.env)).any (·.1) = false := by rfl) (hs2 : starEach [b] X.env = (false, eval b X.env) :: starEach [] X.env := by rfl) : DE X Γ (.Call (.Name "max" p) [a, b] [] pos) (.int (if j > i then j else i)) :=
  de_B (call_max2 hc) hg hm (by decide +kernel) (da_cons ha (da_cons hb da_nil hs2) hs) (fun vs Hd H Q s h k => by
    obtain ⟨v, v', rfl, q, q'⟩ := all2 h
    cases q; cases q'
    exact ⟨i, j, rfl, k _ Hd H (Stp.refl s) (.int _)⟩) (by decide) (by decide) hs hpl
theorem de_min2 (hc : X.calm = true) (hg : Gl X "min") (hm : NoMg X "min") (ha : DE X Γ a (.int i)) (hb : DE X Γ b (.int j)) (hs : starEach [a, b] X.env = (false, eval a X.env) :: starEach [b] X.env := by rfl) (hpl : (backTo pos (starEach [b] X.env)).any (·.1) = false := by rfl) (hs2 : starEach [b] X.env = (false, eval b X.env) :: starEach [] X.env := by rfl) : DE X Γ (.Call (.Name "min" p) [a, b] [] pos) (.int (if j < i then j else i)) :=
  de_B (call_min2 hc) hg hm (by decide +kernel) (da_cons ha (da_cons hb da_nil hs2) hs) (fun vs Hd H Q s h k => by
    obtain ⟨v, v', rfl, q, q'⟩ := all2 h
    cases q; cases q'
    exact ⟨i, j, rfl, k _ Hd H (Stp.refl s) (.int _)⟩) (by decide) (by decide) hs hpl
theorem de_intB {m : Bool} (hg : Gl X "int") (hm : NoMg X "int") (ha : DE X Γ a (.bool m)) (hs : starEach [a] X.env = (false, eval a X.env) :: starEach [] X.env := by rfl) : DE X Γ (.Call (.Name "int" p) [a] [] pos) (.int (if m then 1 else 0)) :=
  de_Ty call_int1 hg hm (by decide +kernel) (da_cons ha da_nil hs) (hdb := by decide) (hn := by decide) (he := hs) (hpl := rfl) (hr := fun vs Hd H Q s h k => by
    obtain ⟨v, rfl, q⟩ := all1 h
    cases q
    exact .inr ⟨m, rfl, k _ Hd H (Stp.refl s) (.int _)⟩)
/-- tuple(x) -/
theorem de_tuple (hg : Gl X "tuple") (hm : NoMg X "tuple") (ha : DE X Γ a x) (q : x = .list ds ∨ x = .tuple ds) (hs : starEach [a] X.env = (false, eval a X.env) :: starEach [] X.env := by rfl) : DE X Γ (.Call (.Name "tuple" p) [a] [] pos) (.tuple ds) :=
  de_Ty call_tuple_of hg hm (by decide +kernel) (da_cons ha da_nil hs) (hdb := by decide) (hn := by decide) (he := hs) (hpl := rfl) (hr := fun vs Hd H Q s h k => by
    obtain ⟨v, rfl, i⟩ := all1 h
    rcases q with rfl | rfl
    · cases i with | lst t al => exact ⟨_, _, rfl, .inl ⟨Evl.ex_l s t, fun l hl => k _ (upd Hd l (.tup _)) _ (Stp.newD s hl) (.tup (.inl (.inl upd_same)) (al.mono (Ex.new (ex_none s hl))))⟩⟩
    · cases i with | tup t al => exact ⟨_, _, rfl, .inr ⟨Evl.ex_t s t, k _ Hd H (Stp.refl s) (.tup t al)⟩⟩)
theorem de_tupleM (hg : Gl X "tuple") (hm : NoMg X "tuple") (ha : DL X Γ a ds) (hs : starEach [a] X.env = (false, eval a X.env) :: starEach [] X.env := by rfl) : DE X Γ (.Call (.Name "tuple" p) [a] [] pos) (.tuple ds) :=
  fun σ Hd H Q rl k => wE_of (pe_callTy call_tuple_of hg hm (by decide +kernel) (pa_cons pe_w pa_nil hs) (by decide) (by decide) hs rfl) (ha σ Hd H _ rl fun l vs Hd1 H1 s1 h1 i1 =>
    ⟨_, _, rfl, .inl ⟨SqL.of h1, fun l hl => k _ (upd Hd1 l (.tup _)) _ (s1.trans (Stp.newD s1.s hl)) (.tup (.inl (.inl upd_same)) (i1.mono (Ex.new (ex_none s1.s hl))))⟩⟩)
/-- list(x) -/
theorem dn_list (hg : Gl X "list") (hm : NoMg X "list") (ha : DE X Γ a x) (q : x = .list ds ∨ x = .tuple ds) (hs : starEach [a] X.env = (false, eval a X.env) :: starEach [] X.env := by rfl) : DN X Γ (.Call (.Name "list" p) [a] [] pos) ds :=
  fun σ Hd H Q rl k => wE_of (pe_callTy call_list_of hg hm (by decide +kernel) (pa_cons pe_w pa_nil hs) (by decide) (by decide) hs rfl) (ha σ Hd H _ rl fun v Hd1 H1 s1 i1 => by
    rcases q with rfl | rfl
    · cases i1 with | lst t al => exact ⟨_, _, rfl, .inl (Evl.ex_l s1.s t), fun l hl => k l _ Hd1 _ (s1.trans (Stp.new s1.s hl)) (ex_none s1.h hl) (ex_none s1.s hl) upd_same al⟩
    · cases i1 with | tup t al => exact ⟨_, _, rfl, .inr (Evl.ex_t s1.s t), fun l hl => k l _ Hd1 _ (s1.trans (Stp.new s1.s hl)) (ex_none s1.h hl) (ex_none s1.s hl) upd_same al⟩)
theorem dn_listM (hg : Gl X "list") (hm : NoMg X "list") (ha : DL X Γ a ds) (hs : starEach [a] X.env = (false, eval a X.env) :: starEach [] X.env := by rfl) : DN X Γ (.Call (.Name "list" p) [a] [] pos) ds :=
  fun σ Hd H Q rl k => wE_of (pe_callTy call_list_of hg hm (by decide +kernel) (pa_cons pe_w pa_nil hs) (by decide) (by decide) hs rfl) (ha σ Hd H _ rl fun l vs Hd1 H1 s1 h1 i1 =>
    ⟨_, _, rfl, .inl (SqL.of h1), fun l hl => k l _ Hd1 _ (s1.trans (Stp.new s1.s hl)) (ex_none s1.h hl) (ex_none s1.s hl) upd_same i1⟩)
/-- list + list, list * int -/
theorem dn_cat (ha : DL X Γ a xs) (hb : DL X Γ b ys) (hl : xs.length + ys.length ≤ 1000) : DN X Γ (.BinOp a .Add b pos) (xs ++ ys) :=
  fun σ Hd H Q r k => wE_of (pe_op op_cat pe_w pe_w) (ha σ Hd H _ r fun l vs Hd1 H1 s1 h1 i1 => hb σ Hd1 H1 _ (r.stp s1) fun m us Hd2 H2 s2 h2 i2 =>
    ⟨l, m, vs, us, rfl, rfl, s2.h _ _ h1, h2, by rw [i1.len, i2.len]; exact Nat.le_of_lt (small1000 hl), fun p hp => k p _ Hd2 _ ((s1.trans s2).trans (Stp.new s2.s hp)) (ex_none (s1.trans s2).h hp) (ex_none s2.s hp) upd_same ((i1.mono s2.d).app i2)⟩)
theorem IsAll.flat {K : PySem.W.Frag} {H : Hp} {vs : List V} (h : IsAll K H vs ds) : ∀ n : Nat, IsAll K H (List.replicate n vs).flatten (List.replicate n ds).flatten
  | 0 => .nil
  | n + 1 => by rw [List.replicate_succ, List.flatten_cons, List.replicate_succ, List.flatten_cons]; exact h.app (IsAll.flat h n)
theorem dn_rep (ha : DL X Γ a xs) (hb : DE X Γ b (.int i)) (h0 : -1000 ≤ i) (hi : i ≤ 1000) (hl : xs.length * i.toNat ≤ 1000) : DN X Γ (.BinOp a .Mult b pos) (List.replicate i.toNat xs).flatten :=
  fun σ Hd H Q r k => wE_of (pe_op op_rep pe_w pe_w) (ha σ Hd H _ r fun l vs Hd1 H1 s1 h1 i1 => hb σ Hd1 H1 _ (r.stp s1) fun u Hd2 H2 s2 i2 => by
    cases i2
    exact ⟨l, i, vs, rfl, rfl, s2.h _ _ h1, by omega, by omega, by rw [i1.len]; exact Nat.le_of_lt (small1000 hl), fun p hp => k p _ Hd2 _ ((s1.trans s2).trans (Stp.new s2.s hp)) (ex_none (s1.trans s2).h hp) (ex_none s2.s hp) upd_same ((i1.mono s2.d).flat _)⟩)
end
end Hf

namespace Hf
open PySem PySem.Spec PyProof.Rows L2
open Evl (Ex)
def wG (X : Cx) (tg : Expr) : TG := fun v σ H Q => ∀ (pins : List (Addr × Obj)) (s : Shared) (u : Value), Inv X pins σ H s → RelV v u → wpAny (model X.prog X.w) X.A (assign tg X.env u) (fun _ s' => ∃ σ' H', Inv X pins σ' H' s' ∧ Q σ' H') X.xe s
def wGs (X : Cx) (ts : List Expr) : TGs := fun vs σ H Q => ∀ (pins : List (Addr × Obj)) (s : Shared) (us : List Value), Inv X pins σ H s → Vals vs us → wpAny (model X.prog X.w) X.A (assignInOrder ((assignEach ts X.env).map (·.2)) us) (fun _ s' => ∃ σ' H', Inv X pins σ' H' s' ∧ Q σ' H') X.xe s
def setV (σ : St) : List (Nat × D) → List V → St
  | (j, _) :: r, w :: ws => setV (σ.set j (some w)) r ws
  | _, _ => σ
def setC (Γ : List Cell) : List (Nat × D) → List Cell
  | (j, d) :: r => setC (Γ.set j (.d d)) r
  | [] => Γ
section
variable {X : Cx} {Γ : List Cell} {tg : Expr} {ts : List Expr} {d : D} {ds : List D} {pos p : Pos}
theorem pg_w : PG X tg (wG X tg) := ⟨fun pins s σ H v u Q I r h => h pins s u I r⟩
theorem pgs_w : PGs X ts (wGs X ts) := ⟨fun pins s σ H v u Q I r h => h pins s u I r⟩
theorem wG_of {t : TG} {v : V} {σ : St} {H : Hp} {Q : St → Hp → Prop} (h : PG X tg t) (q : t v σ H Q) : wG X tg v σ H Q := fun pins s u I r => h.run pins s σ H v u Q I r q
theorem wGs_of {t : TGs} {v : List V} {σ : St} {H : Hp} {Q : St → Hp → Prop} (h : PGs X ts t) (q : t v σ H Q) : wGs X ts v σ H Q := fun pins s u I r => h.run pins s σ H v u Q I r q
/-- the target takes data d apart into these stores -/
def DG (X : Cx) (tg : Expr) (d : D) (sts : List (Nat × D)) : Prop := ∀ σ Hd H v (Q : St → Hp → Prop), Is X.K Hd v d → Ex Hd H → (∀ ws, IsAll X.K Hd ws (sts.map (·.2)) → Q (setV σ sts ws) H) → wG X tg v σ H Q
def DGs (X : Cx) (ts : List Expr) (ds : List D) (sts : List (Nat × D)) : Prop := ∀ σ Hd H vs (Q : St → Hp → Prop), IsAll X.K Hd vs ds → Ex Hd H → (∀ ws, IsAll X.K Hd ws (sts.map (·.2)) → Q (setV σ sts ws) H) → wGs X ts vs σ H Q
theorem dg_name {j : Nat} {x : Str} (hp : PG X (.Name x p) (gName j)) : DG X (.Name x p) d [(j, d)] := fun σ Hd H v Q i e k => wG_of hp (k [v] (.one i))
theorem dgs_nil : DGs X [] [] [] := fun σ Hd H vs Q i e k => wGs_of pgs_nil (by cases i; exact ⟨rfl, k [] .nil⟩)
theorem setV_app : ∀ {s1 s2 : List (Nat × D)} {ws us : List V} {σ : St}, ws.length = s1.length → setV (setV σ s1 ws) s2 us = setV σ (s1 ++ s2) (ws ++ us)
  | [], _, [], _, _, _ => rfl
  | [], _, _ :: _, _, _, h => by simp at h
  | _ :: _, _, [], _, _, h => by simp at h
  | (j, d) :: s1, s2, w :: ws, us, σ, h => by
    show setV (setV (σ.set j (some w)) s1 ws) s2 us = setV (σ.set j (some w)) (s1 ++ s2) (ws ++ us)
    exact setV_app (by simpa using h)
theorem dgs_cons {s1 s2 : List (Nat × D)} (h1 : DG X tg d s1) (h2 : DGs X ts ds s2) (hs : (assignEach (tg :: ts) X.env).map (·.2) = assign tg X.env :: (assignEach ts X.env).map (·.2) := by rfl) : DGs X (tg :: ts) (d :: ds) (s1 ++ s2) :=
  fun σ Hd H vs Q i e k => wGs_of (pgs_cons pg_w pgs_w hs) (by
    cases i with
    | cons a b =>
      refine ⟨_, _, rfl, h1 σ Hd H _ _ a e fun ws hw => h2 _ Hd H _ _ b e fun us hu => ?_⟩
      rw [setV_app (by simpa using hw.len)]
      exact k _ (by rw [List.map_append]; exact hw.app hu))
theorem dg_tup {sts : List (Nat × D)} {k : Nat} (hc : X.calm = true) (h : DGs X ts ds sts) (hn : (assignEach ts X.env).length = ds.length := by rfl) (hst : (assignEach ts X.env).findIdx? (·.1) = none := by rfl) : DG X (.Tuple ts k pos) (.tuple ds) sts :=
  fun σ Hd H v Q i e q => wG_of (pg_tup hc pgs_w hn hst) (by
    cases i with
    | tup t al => exact ⟨_, _, rfl, Evl.ex_t e t, al.len, h σ Hd H _ _ al e q⟩)
end
section
variable {K : PySem.W.Frag} {Γ : List Cell} {σ : St} {Hd H Hs H0 Hb : Hp}
theorem Rl.setV (e : Rl K Γ σ Hd H) : ∀ {sts : List (Nat × D)} {ws : List V}, IsAll K Hd ws (sts.map (·.2)) → Rl K (setC Γ sts) (Hf.setV σ sts ws) Hd H := fun {sts} => by
  induction sts generalizing Γ σ with
  | nil => intro ws h; cases h; exact e
  | cons p r ih =>
    intro ws h
    cases h with
    | cons a b => exact ih (e.setD a) b
theorem R.setV (e : R K Hs H0 Hb Γ σ Hd H) : ∀ {sts : List (Nat × D)} {ws : List V}, IsAll K Hd ws (sts.map (·.2)) → R K Hs H0 Hb (setC Γ sts) (Hf.setV σ sts ws) Hd H := fun {sts} => by
  induction sts generalizing Γ σ with
  | nil => intro ws h; cases h; exact e
  | cons p r ih =>
    intro ws h
    cases h with
    | cons a b => exact ih (e.setD a) b
end
def ItOk (K : PySem.W.Frag) (J : It) (items : List D) (Hd1 : Hp) : Prop := ∀ (i : Nat) Hd2 H2, Ex Hd1 Hd2 → Ex Hd2 H2 →
  (∀ d, items[i]? = some d → J.go i H2 ∧ ∀ x H3, J.yld i H2 x H3 → ∃ Hd3, Stp Hd2 H2 Hd3 H3 ∧ Is K Hd3 x d) ∧ (i = items.length → J.stop i H2)
theorem itok {K : PySem.W.Frag} {J : It} {items : List D} {Hd1 : Hp} (h : ∀ (i : Nat) Hd2 H2, Ex Hd1 Hd2 → Ex Hd2 H2 →
  (∀ d, items[i]? = some d → J.go i H2 ∧ ∀ x H3, J.yld i H2 x H3 → ∃ Hd3, Stp Hd2 H2 Hd3 H3 ∧ Is K Hd3 x d) ∧ (items[i]? = none → J.stop i H2)) : ItOk K J items Hd1 :=
  fun i Hd2 H2 e1 e2 => ⟨(h i Hd2 H2 e1 e2).1, fun hi => (h i Hd2 H2 e1 e2).2 (List.getElem?_eq_none (by omega))⟩
def DI (X : Cx) (Γ : List Cell) (tg it : Expr) (items : List D) : Prop := ∃ wi : TI, PI X tg it wi ∧ ∀ σ Hd H (Q : It → Hp → Prop), Rl X.K Γ σ Hd H → (∀ J Hd' H', Stp Hd H Hd' H' → ItOk X.K J items Hd' → Q J H') → wi σ H Q
section
variable {X : Cx} {Γ : List Cell} {tg e a b : Expr} {d x : D} {ds xs ys : List D} {i j : Int} {pos p : Pos}
theorem di_list (h : DE X Γ e (.list ds)) : DI X Γ tg e ds := ⟨_, pi_list pe_w, fun σ Hd H Q r k => h σ Hd H _ r fun v Hd1 H1 s1 i1 => by
  cases i1 with
  | lst t al =>
    refine ⟨_, rfl, ⟨_, Evl.ex_l s1.s t⟩, k _ Hd1 H1 s1 <| itok fun i Hd2 H2 e1 e2 => ⟨fun d hd => ?_, fun hn => ?_⟩⟩
    · obtain ⟨w, h1, h2⟩ := al.get hd
      refine ⟨⟨_, w, Evl.ex_l (e1.trans e2) t, h1⟩, fun y H3 hy => ?_⟩
      obtain ⟨rfl, hy⟩ := hy
      have z := hy _ (Evl.ex_l (e1.trans e2) t)
      rw [h1] at z; cases z
      exact ⟨Hd2, Stp.refl e2, h2.mono e1⟩
    · exact ⟨_, Evl.ex_l (e1.trans e2) t, by rw [al.len]; exact List.getElem?_eq_none_iff.mp hn⟩⟩
theorem di_tup (h : DE X Γ e (.tuple ds)) : DI X Γ tg e ds := ⟨_, pi_tup pe_w, fun σ Hd H Q r k => h σ Hd H _ r fun v Hd1 H1 s1 i1 => by
  cases i1 with
  | tup t al =>
    refine ⟨_, rfl, ⟨_, Evl.ex_t s1.s t⟩, k _ Hd1 H1 s1 <| itok fun i Hd2 H2 e1 e2 => ⟨fun d hd => ?_, fun hn => ?_⟩⟩
    · obtain ⟨w, h1, h2⟩ := al.get hd
      refine ⟨⟨_, w, Evl.ex_t (e1.trans e2) t, h1⟩, fun y H3 hy => ?_⟩
      obtain ⟨rfl, hy⟩ := hy
      have z := hy _ (Evl.ex_t (e1.trans e2) t)
      rw [h1] at z; cases z
      exact ⟨Hd2, Stp.refl e2, h2.mono e1⟩
    · exact ⟨_, Evl.ex_t (e1.trans e2) t, by rw [al.len]; exact List.getElem?_eq_none_iff.mp hn⟩⟩
/-- lo, lo + 1, .., n of them -/
def rngD (lo : Int) (n : Nat) : List D := (List.range n).map fun i : Nat => .int (lo + (i : Int))
theorem rng_some {lo : Int} {n i : Nat} {d : D} (h : (rngD lo n)[i]? = some d) : i < n ∧ d = .int (lo + (i : Int)) := by
  unfold rngD at h
  rw [List.getElem?_map] at h
  by_cases hi : i < n
  · rw [List.getElem?_range hi] at h
    exact ⟨hi, (Option.some.inj h).symm⟩
  · rw [List.getElem?_eq_none (by simpa using hi)] at h; cases h
theorem rng_at {lo : Int} {n i : Nat} (h : i < n) : (rngD lo n)[i]? = some (.int (lo + (i : Int))) := by
  unfold rngD
  rw [List.getElem?_map, List.getElem?_range h]; rfl
theorem rng_none {lo : Int} {n i : Nat} (h : (rngD lo n)[i]? = none) : n ≤ i := by
  have := List.getElem?_eq_none_iff.mp h
  unfold rngD at this
  simpa using this
theorem rng_len (lo : Int) (n : Nat) : (rngD lo n).length = n := by unfold rngD; simp
theorem itok_rng (K : PySem.W.Frag) (lo : Int) (n : Nat) (Hd : Hp) : ItOk K (Itr lo n) (rngD lo n) Hd := itok fun i Hd2 H2 e1 e2 => ⟨fun d hd => by
  obtain ⟨h1, rfl⟩ := rng_some hd
  refine ⟨h1, fun y H3 hy => ?_⟩
  obtain ⟨rfl, rfl⟩ := hy
  exact ⟨Hd2, Stp.refl e2, .int _⟩, fun hn => rng_none hn⟩
/-- 0, 1, .., n of them -/
def rng0 (n : Nat) : List D := (List.range n).map fun i : Nat => .int (i : Int)
theorem rng0_eq (n : Nat) : rng0 n = rngD 0 n := by
  unfold rng0 rngD
  simp
theorem rng0_some {n i : Nat} {d : D} (h : (rng0 n)[i]? = some d) : i < n ∧ d = .int (i : Int) := by
  rw [rng0_eq] at h
  have := rng_some h
  simpa using this
theorem rng0_len (n : Nat) : (rng0 n).length = n := by unfold rng0; simp
theorem di_r1 (hg : Gl X "range") (hm : NoMg X "range") (h : DE X Γ a (.int j)) (hb : -1000000 ≤ j ∧ j ≤ 1000000) (hs : starEach [a] X.env = [(false, eval a X.env)] := by rfl) : DI X Γ tg (.Call (.Name "range" p) [a] [] pos) (rng0 j.toNat) :=
  ⟨_, pi_range1 hg hm pa_w hs, fun σ Hd H Q r k => da_cons (es := []) h da_nil hs σ Hd H _ r fun vs Hd1 H1 s1 i1 => by
    obtain ⟨v, rfl, iv⟩ := all1 i1
    cases iv
    exact ⟨j, rfl, by omega, by omega, k _ Hd1 H1 s1 (by rw [rng0_eq]; exact itok_rng _ _ _ _)⟩⟩
theorem di_r2 (hg : Gl X "range") (hm : NoMg X "range") (ha : DE X Γ a (.int i)) (h : DE X Γ b (.int j)) (hb : -1000000 ≤ i ∧ i ≤ 1000000 ∧ -1000000 ≤ j ∧ j ≤ 1000000)
    (hs : starEach [a, b] X.env = [(false, eval a X.env), (false, eval b X.env)] := by rfl) (hs2 : starEach [b] X.env = [(false, eval b X.env)] := by rfl) : DI X Γ tg (.Call (.Name "range" p) [a, b] [] pos) (rngD i (j - i).toNat) :=
  ⟨_, pi_range2 hg hm pa_w hs hs2, fun σ Hd H Q r k => da_cons (es := [b]) ha (da_cons (es := []) h da_nil hs2) (by rw [hs, hs2]) σ Hd H _ r fun vs Hd1 H1 s1 i1 => by
    obtain ⟨v, v', rfl, iv, iv'⟩ := all2 i1
    cases iv; cases iv'
    exact ⟨i, j, rfl, by omega, k _ Hd1 H1 s1 (itok_rng _ _ _ _)⟩⟩
theorem di_enum {elts : List Expr} {kk : Nat} {tpos : Pos} (hg : Gl X "enumerate") (hm : NoMg X "enumerate") (h : DE X Γ e (.list ds)) (hs : starEach [e] X.env = [(false, eval e X.env)] := by rfl) :
    DI X Γ (.Tuple elts kk tpos) (.Call (.Name "enumerate" p) [e] [] pos) (ds.mapIdx fun i d => .tuple [.int (i : Nat), d]) :=
  ⟨_, pi_enum hg hm pa_w hs, fun σ Hd H Q r k => da_cons (es := []) h da_nil hs σ Hd H _ r fun vs Hd1 H1 s1 i1 => by
    obtain ⟨v, rfl, iv⟩ := all1 i1
    cases iv with
    | lst t al =>
      refine ⟨_, _, rfl, Evl.ex_l s1.s t, k _ Hd1 H1 s1 <| itok fun i Hd2 H2 e1 e2 => ⟨fun d hd => ?_, fun hn => ?_⟩⟩
      · rw [List.getElem?_mapIdx] at hd
        obtain ⟨d', hd', rfl⟩ := Option.map_eq_some_iff.mp hd
        obtain ⟨w, h1, h2⟩ := al.get hd'
        refine ⟨⟨_, w, Evl.ex_l (e1.trans e2) t, h1⟩, fun y H3 hy => ?_⟩
        obtain ⟨T, x, rfl, hT, rfl, hx⟩ := hy
        have z := hx _ (Evl.ex_l (e1.trans e2) t)
        rw [h1] at z; cases z
        exact ⟨upd Hd2 T _, Stp.newD e2 hT, .tup (.inl (.inl upd_same)) (.cons (.int _) (.cons (h2.mono (e1.trans (Ex.new (ex_none e2 hT)))) .nil))⟩
      · refine ⟨_, Evl.ex_l (e1.trans e2) t, ?_⟩
        rw [al.len]
        simpa using hn⟩
/-- reversed of a list or a tuple -/
theorem di_rev (hg : Gl X "reversed") (hm : NoMg X "reversed") (h : DE X Γ e x) (q : x = .list ds ∨ x = .tuple ds) (hs : starEach [e] X.env = (false, eval e X.env) :: starEach [] X.env := by rfl) :
    DI X Γ tg (.Call (.Name "reversed" p) [e] [] pos) ds.reverse :=
  ⟨_, RT.pi_revA hg hm pe_w hs, fun σ Hd H Q r k => h σ Hd H _ r fun v Hd1 H1 s1 i1 => by
    have rv : ∀ {vs : List V} {i : Nat} {d : D}, IsAll X.K Hd1 vs ds → ds.reverse[i]? = some d → i < vs.length ∧ ∃ w, vs[vs.length - 1 - i]? = some w ∧ Is X.K Hd1 w d := fun {vs i d} al hd => by
      obtain ⟨w, h1, h2⟩ := al.reverse.get hd
      have hi : i < vs.length := by
        have := (List.getElem?_eq_some_iff.mp h1).1
        simpa using this
      rw [List.getElem?_reverse hi] at h1
      exact ⟨hi, w, h1, h2⟩
    rcases q with rfl | rfl
    · cases i1 with
      | lst t al =>
        refine ⟨_, _, rfl, .inl ⟨Evl.ex_l s1.s t, k _ Hd1 H1 s1 <| itok fun i Hd2 H2 e1 e2 => ⟨fun d hd => ?_, fun hn => ?_⟩⟩⟩
        · obtain ⟨hi, w, h1, h2⟩ := rv al hd
          refine ⟨⟨hi, _, w, Evl.ex_l (e1.trans e2) t, h1⟩, fun y H3 hy => ?_⟩
          obtain ⟨rfl, hx⟩ := hy
          have z := hx _ (Evl.ex_l (e1.trans e2) t)
          rw [h1] at z; cases z
          exact ⟨Hd2, Stp.refl e2, h2.mono e1⟩
        · show _ ≤ i
          rw [al.len]
          simpa using hn
    · cases i1 with
      | tup t al =>
        refine ⟨_, _, rfl, .inr ⟨Evl.ex_t s1.s t, k _ Hd1 H1 s1 <| itok fun i Hd2 H2 e1 e2 => ⟨fun d hd => ?_, fun hn => ?_⟩⟩⟩
        · obtain ⟨hi, w, h1, h2⟩ := rv al hd
          refine ⟨⟨hi, _, w, Evl.ex_t (e1.trans e2) t, h1⟩, fun y H3 hy => ?_⟩
          obtain ⟨rfl, hx⟩ := hy
          have z := hx _ (Evl.ex_t (e1.trans e2) t)
          rw [h1] at z; cases z
          exact ⟨Hd2, Stp.refl e2, h2.mono e1⟩
        · show _ ≤ i
          rw [al.len]
          simpa using hn⟩
end
theorem wipe_get {σ : St} {i : Nat} : ∀ {vs : List Nat}, (wipe σ vs)[i]? = if i ∈ vs then (σ[i]?).map (fun _ => none) else σ[i]?
  | [] => by simp [wipe]
  | v :: vs => by
    unfold wipe
    have ih := wipe_get (σ := σ) (i := i) (vs := vs)
    by_cases hi : v = i
    · subst hi
      have hm : v ∈ v :: vs := List.mem_cons_self
      rw [if_pos hm]
      by_cases hv : v < σ.length
      · rw [List.getElem?_set_self (by rw [wipe_length]; exact hv), List.getElem?_eq_getElem hv]; rfl
      · rw [List.getElem?_eq_none (by rw [List.length_set, wipe_length]; omega), List.getElem?_eq_none (by omega)]; rfl
    · rw [List.getElem?_set_ne hi, ih]
      have : (i ∈ v :: vs) ↔ i ∈ vs := by simp [Ne.symm hi]
      simp only [this]
theorem wipe_set {σ : St} {j : Nat} {x : Option V} {vs : List Nat} (h : j ∈ vs) : wipe (σ.set j x) vs = wipe σ vs := by
  refine List.ext_getElem? fun i => ?_
  rw [wipe_get, wipe_get]
  by_cases hi : i ∈ vs
  · rw [if_pos hi, if_pos hi]
    by_cases e : j = i
    · subst e
      by_cases hv : j < σ.length
      · rw [List.getElem?_set_self hv, List.getElem?_eq_getElem hv]; rfl
      · rw [List.getElem?_eq_none (by simpa using hv), List.getElem?_eq_none (by omega)]
    · rw [List.getElem?_set_ne e]
  · rw [if_neg hi, if_neg hi, List.getElem?_set_ne (show j ≠ i from fun e => hi (by rw [← e]; exact h))]
theorem wipe_wipe {σ : St} {vs : List Nat} : wipe (wipe σ vs) vs = wipe σ vs := by
  refine List.ext_getElem? fun i => ?_
  rw [wipe_get]
  by_cases hi : i ∈ vs
  · rw [if_pos hi, wipe_get, if_pos hi]
    cases σ[i]? <;> rfl
  · rw [if_neg hi]
theorem wipe_setV {vs : List Nat} : ∀ {sts : List (Nat × D)} {ws : List V} {σ : St}, (∀ p ∈ sts, p.1 ∈ vs) → wipe (setV σ sts ws) vs = wipe σ vs
  | [], _, σ, _ => by unfold setV; rfl
  | _ :: _, [], σ, _ => by unfold setV; rfl
  | (j, d) :: r, w :: ws, σ, h => by
    show wipe (setV (σ.set j (some w)) r ws) vs = wipe σ vs
    rw [wipe_setV fun p hp => h p (List.mem_cons_of_mem _ hp), wipe_set (h (j, d) List.mem_cons_self)]
def wipeC (Γ : List Cell) : List Nat → List Cell
  | [] => Γ
  | v :: vs => (wipeC Γ vs).set v .no
theorem Rl.wipe {K : PySem.W.Frag} {Γ : List Cell} {σ : St} {Hd H : Hp} (r : Rl K Γ σ Hd H) : ∀ vs : List Nat, Rl K (wipeC Γ vs) (L2.wipe σ vs) Hd H
  | [] => r
  | _ :: vs => (Rl.wipe r vs).setNo
section
variable {X : Cx} {Γ : List Cell} {elt tg iter c : Expr} {ifs : List Expr} {scope : Scope} {own : List (Str × Nat)} {pos : Pos} {items rs : List D}
def blkG (X : Cx) (scope : Scope) (tg : Expr) : TG := fun v σ H Q => ∀ (s : Shared) (H' : Hp) (C : Addr) (cl : List (Str × Addr)) (fp : List Addr), wG (X.blk s H' scope (compEnvC scope cl C X.env) fp) tg v σ H Q
def blkT (X : Cx) (scope : Scope) (c : Expr) : TT := fun σ H Q => ∀ (s : Shared) (H' : Hp) (C : Addr) (cl : List (Str × Addr)) (fp : List Addr), wT (X.blk s H' scope (compEnvC scope cl C X.env) fp) c σ H Q
def blkE (X : Cx) (scope : Scope) (e : Expr) : TE := fun σ H Q => ∀ (s : Shared) (H' : Hp) (C : Addr) (cl : List (Str × Addr)) (fp : List Addr), wE (X.blk s H' scope (compEnvC scope cl C X.env) fp) e σ H Q
theorem pg_blk (s : Shared) (H : Hp) (C : Addr) (cl : List (Str × Addr)) (fp : List Addr) : PG (X.blk s H scope (compEnvC scope cl C X.env) fp) tg (blkG X scope tg) := ⟨fun pins s' σ H' v u Q I rr h => h s H C cl fp pins s' u I rr⟩
theorem pts_blk (s : Shared) (H : Hp) (C : Addr) (cl : List (Str × Addr)) (fp : List Addr) : PTs (X.blk s H scope (compEnvC scope cl C X.env) fp) [c] (blkT X scope c) := pts_one ⟨fun pins s' σ H' Q I h => h s H C cl fp pins s' I⟩
theorem pe_blk (s : Shared) (H : Hp) (C : Addr) (cl : List (Str × Addr)) (fp : List Addr) : PE (X.blk s H scope (compEnvC scope cl C X.env) fp) elt (blkE X scope elt) := ⟨fun pins s' σ H' Q I h => h s H C cl fp pins s' I⟩
/-- a reading that gives a new list -/
def RN (X : Cx) (Γ : List Cell) (te : TE) (ds : List D) : Prop := ∀ σ Hd H (Q : VK), Rl X.K Γ σ Hd H → (∀ l vs Hd' H', Stp Hd H Hd' H' → H l = none → Hd' l = none → H' l = some (.lst vs) → IsAll X.K Hd' vs ds → Q (.ref l) H') → te σ H Q
/-- [elt for tg in iter if ..]: outs tells of each item what is made of it, or that it is left out -/
theorem rn_lcIf {outs : List (Option D)} {tt : Nat → Bool} {wi : TI} (hwi : ∀ σ Hd H (Q : It → Hp → Prop), Rl X.K Γ σ Hd H → (∀ J Hd' H', Stp Hd H Hd' H' → ItOk X.K J items Hd' → Q J H') → wi σ H Q) (stf : Nat → D → List (Nat × D)) (hl : outs.length = items.length) (hsz : items.length ≤ 100000)
    (hin : ∀ i d, items[i]? = some d → ∀ p ∈ stf i d, p.1 ∈ own.map (·.2))
    (hg : ∀ i d, items[i]? = some d → ∀ (s : Shared) (H : Hp) (C : Addr) (cl : List (Str × Addr)) (fp : List Addr), DG (X.blk s H scope (compEnvC scope cl C X.env) fp) tg d (stf i d))
    (ht : ∀ i d o, items[i]? = some d → outs[i]? = some o → ∀ (s : Shared) (H : Hp) (C : Addr) (cl : List (Str × Addr)) (fp : List Addr), DT (X.blk s H scope (compEnvC scope cl C X.env) fp) (setC (wipeC Γ (own.map (·.2))) (stf i d)) c o.isSome)
    (he : ∀ i d y, items[i]? = some d → outs[i]? = some (some y) → ∀ (s : Shared) (H : Hp) (C : Addr) (cl : List (Str × Addr)) (fp : List Addr), DE (X.blk s H scope (compEnvC scope cl C X.env) fp) (setC (wipeC Γ (own.map (·.2))) (stf i d)) elt y)
    :
    RN X Γ (tLc wi (blkG X scope tg) (blkT X scope c) (blkE X scope elt) (own.map (·.2))) (outs.filterMap id) := by
  intro σ Hd H Q r k
  refine hwi σ Hd H _ r fun J Hd1 H1 s1 it => fun D hD => ?_
  have hd1 : Hd1 D = none := ex_none s1.s hD
  let Inv0 : Nat → Hp → Prop := fun i H2 => ∃ Hd2 acc, Stp Hd1 H1 Hd2 H2 ∧ Hd2 D = none ∧ H2 D = some (.lst acc) ∧ IsAll X.K Hd2 acc ((outs.take i).filterMap id)
  refine ⟨fun i m H2 => i + m = items.length ∧ Inv0 i H2, ⟨items.length, by omega, Hd1, [], Stp.new s1.s hD, hd1, upd_same, .nil⟩, ?_⟩
  rintro i m H2 ⟨em, Hd2, acc, s2, hd2, hacc, al⟩
  obtain ⟨g1, g2⟩ := it i Hd2 H2 s2.d s2.s
  by_cases hi : i < items.length
  · have e1 := List.getElem?_eq_getElem hi
    obtain ⟨go, yl⟩ := g1 _ e1
    refine .inr ⟨go, fun H' => Inv0 (i + 1) H', fun H' q => ⟨m - 1, by omega, by omega, q⟩, fun x H3 hy => ?_⟩
    obtain ⟨Hd3, s3, ix⟩ := yl x H3 hy
    have s13 := s2.trans s3
    have hd3 : Hd3 D = none := s3.non hd2 hacc
    have rl : Rl X.K (wipeC Γ (own.map (·.2))) (L2.wipe σ (own.map (·.2))) Hd3 H3 := ((r.stp s1).stp s13).wipe _
    intro s H' C cl fp
    refine hg i _ e1 s H' C cl fp _ Hd3 H3 x _ ix s3.s fun ws hw => ?_
    have rl2 := rl.setV hw
    refine ⟨by rw [wipe_setV (hin i _ e1), wipe_wipe], fun s' H'' C' cl' fp' => ?_⟩
    have eo := List.getElem?_eq_getElem (show i < outs.length by omega)
    refine ht i _ _ e1 eo s' H'' C' cl' fp' _ Hd3 H3 _ rl2 fun Hd4 H4 s4 => ?_
    have a4 : H4 D = some (.lst acc) := s4.h _ _ (s3.h _ _ hacc)
    have hd4 : Hd4 D = none := s4.non hd3 (s3.h _ _ hacc)
    have tk : (outs.take (i + 1)).filterMap id = (outs.take i).filterMap id ++ (match outs[i] with | some y => [y] | none => []) := by
      rw [List.take_add_one, eo, List.filterMap_append]
      cases outs[i] <;> rfl
    cases q : outs[i] with
    | none =>
      show Inv0 (i + 1) H4
      refine ⟨Hd4, acc, s13.trans s4, hd4, a4, ?_⟩
      rw [tk, q, List.append_nil]
      exact al.mono (s3.d.trans s4.d)
    | some y =>
      intro s5 H5 C5 cl5 fp5
      refine he i _ y e1 (by rw [eo, q]) s5 H5 C5 cl5 fp5 _ Hd4 H4 _ (rl2.stp s4) fun v Hd5 H6 s6 iv => ?_
      have a6 : H6 D = some (.lst acc) := s6.h _ _ a4
      have hd5 : Hd5 D = none := s6.non hd4 a4
      refine ⟨acc, a6, ?_, Hd5, acc ++ [v], ((s13.trans s4).trans s6).mut hD hd5, hd5, upd_same, ?_⟩
      · have h1 := al.len
        have h2 := List.length_filterMap_le id (outs.take i)
        have h3 : (outs.take i).length ≤ i := by rw [List.length_take]; omega
        exact Nat.lt_of_le_of_lt (show acc.length ≤ 100000 by omega) (by decide)
      · rw [tk, q]
        exact (al.mono ((s3.d.trans s4.d).trans s6.d)).app (.one iv)
  · refine .inl ⟨g2 (by omega), ?_⟩
    have hm : (outs.take i).filterMap id = outs.filterMap id := by rw [List.take_of_length_le (by omega)]
    rw [hm] at al
    exact k D acc Hd2 H2 (s1.trans s2) (ex_none s1.h hD) hd2 hacc al
/-- [elt for tg in iter] -/
theorem rn_lc {wi : TI} (hwi : ∀ σ Hd H (Q : It → Hp → Prop), Rl X.K Γ σ Hd H → (∀ J Hd' H', Stp Hd H Hd' H' → ItOk X.K J items Hd' → Q J H') → wi σ H Q) (stf : Nat → D → List (Nat × D)) (hl : rs.length = items.length) (hsz : items.length ≤ 100000)
    (hin : ∀ i d, items[i]? = some d → ∀ p ∈ stf i d, p.1 ∈ own.map (·.2))
    (hg : ∀ i d, items[i]? = some d → ∀ (s : Shared) (H : Hp) (C : Addr) (cl : List (Str × Addr)) (fp : List Addr), DG (X.blk s H scope (compEnvC scope cl C X.env) fp) tg d (stf i d))
    (he : ∀ i d y, items[i]? = some d → rs[i]? = some y → ∀ (s : Shared) (H : Hp) (C : Addr) (cl : List (Str × Addr)) (fp : List Addr), DE (X.blk s H scope (compEnvC scope cl C X.env) fp) (setC (wipeC Γ (own.map (·.2))) (stf i d)) elt y)
    :
    RN X Γ (tLc wi (blkG X scope tg) (tYes) (blkE X scope elt) (own.map (·.2))) rs := by
  intro σ Hd H Q r k
  refine hwi σ Hd H _ r fun J Hd1 H1 s1 it => fun D hD => ?_
  have hd1 : Hd1 D = none := ex_none s1.s hD
  let Inv0 : Nat → Hp → Prop := fun i H2 => ∃ Hd2 acc, Stp Hd1 H1 Hd2 H2 ∧ Hd2 D = none ∧ H2 D = some (.lst acc) ∧ IsAll X.K Hd2 acc (rs.take i)
  refine ⟨fun i m H2 => i + m = items.length ∧ Inv0 i H2, ⟨items.length, by omega, Hd1, [], Stp.new s1.s hD, hd1, upd_same, .nil⟩, ?_⟩
  rintro i m H2 ⟨em, Hd2, acc, s2, hd2, hacc, al⟩
  obtain ⟨g1, g2⟩ := it i Hd2 H2 s2.d s2.s
  by_cases hi : i < items.length
  · have e1 := List.getElem?_eq_getElem hi
    obtain ⟨go, yl⟩ := g1 _ e1
    refine .inr ⟨go, fun H' => Inv0 (i + 1) H', fun H' q => ⟨m - 1, by omega, by omega, q⟩, fun x H3 hy => ?_⟩
    obtain ⟨Hd3, s3, ix⟩ := yl x H3 hy
    have s13 := s2.trans s3
    have hd3 : Hd3 D = none := s3.non hd2 hacc
    have rl : Rl X.K (wipeC Γ (own.map (·.2))) (L2.wipe σ (own.map (·.2))) Hd3 H3 := ((r.stp s1).stp s13).wipe _
    intro s H' C cl fp
    refine hg i _ e1 s H' C cl fp _ Hd3 H3 x _ ix s3.s fun ws hw => ?_
    have rl2 := rl.setV hw
    refine ⟨by rw [wipe_setV (hin i _ e1), wipe_wipe], ?_⟩
    simp only [tYes, ↓reduceIte]
    intro s5 H5 C5 cl5 fp5
    have eo := List.getElem?_eq_getElem (show i < rs.length by omega)
    refine he i _ _ e1 eo s5 H5 C5 cl5 fp5 _ Hd3 H3 _ rl2 fun v Hd5 H6 s6 iv => ?_
    have a6 : H6 D = some (.lst acc) := s6.h _ _ (s3.h _ _ hacc)
    have hd5 : Hd5 D = none := s6.non hd3 (s3.h _ _ hacc)
    refine ⟨acc, a6, ?_, Hd5, acc ++ [v], (s13.trans s6).mut hD hd5, hd5, upd_same, ?_⟩
    · have h1 := al.len
      have h3 : (rs.take i).length ≤ i := by rw [List.length_take]; omega
      exact Nat.lt_of_le_of_lt (show acc.length ≤ 100000 by omega) (by decide)
    · rw [List.take_add_one, eo]
      exact (al.mono (s3.d.trans s6.d)).app (.one iv)
  · refine .inl ⟨g2 (by omega), ?_⟩
    rw [List.take_of_length_le (by omega)] at al
    exact k D acc Hd2 H2 (s1.trans s2) (ex_none s1.h hD) hd2 hacc al
theorem dn_lcIf {outs : List (Option D)} {tt : Nat → Bool} (hc : X.calm = true) (hN : X.N.Nodup) (hi : DI X Γ tg iter items) (ok : BlkOk X.N X.env.scope scope own) (stf : Nat → D → List (Nat × D)) (hl : outs.length = items.length) (hsz : items.length ≤ 100000)
    (hin : ∀ i d, items[i]? = some d → ∀ p ∈ stf i d, p.1 ∈ own.map (·.2))
    (hg : ∀ i d, items[i]? = some d → ∀ (s : Shared) (H : Hp) (C : Addr) (cl : List (Str × Addr)) (fp : List Addr), DG (X.blk s H scope (compEnvC scope cl C X.env) fp) tg d (stf i d))
    (ht : ∀ i d o, items[i]? = some d → outs[i]? = some o → ∀ (s : Shared) (H : Hp) (C : Addr) (cl : List (Str × Addr)) (fp : List Addr), DT (X.blk s H scope (compEnvC scope cl C X.env) fp) (setC (wipeC Γ (own.map (·.2))) (stf i d)) c o.isSome)
    (he : ∀ i d y, items[i]? = some d → outs[i]? = some (some y) → ∀ (s : Shared) (H : Hp) (C : Addr) (cl : List (Str × Addr)) (fp : List Addr), DE (X.blk s H scope (compEnvC scope cl C X.env) fp) (setC (wipeC Γ (own.map (·.2))) (stf i d)) elt y)
    (hs : ∀ x, foldedSetIterable iter X.env x = pure x := by intro _; rfl) : DN X Γ (.ListComp elt [⟨tg, iter, [c], 0⟩] scope pos) (outs.filterMap id) := by
  obtain ⟨wi, hpi, hwi⟩ := hi
  exact fun σ Hd H Q r k => wE_of (pe_lc hc hN hpi ok pg_blk pts_blk pe_blk hs) (rn_lcIf (tt := tt) hwi stf hl hsz hin hg ht he σ Hd H Q r k)
theorem dn_lc (hc : X.calm = true) (hN : X.N.Nodup) (hi : DI X Γ tg iter items) (ok : BlkOk X.N X.env.scope scope own) (stf : Nat → D → List (Nat × D)) (hl : rs.length = items.length) (hsz : items.length ≤ 100000)
    (hin : ∀ i d, items[i]? = some d → ∀ p ∈ stf i d, p.1 ∈ own.map (·.2))
    (hg : ∀ i d, items[i]? = some d → ∀ (s : Shared) (H : Hp) (C : Addr) (cl : List (Str × Addr)) (fp : List Addr), DG (X.blk s H scope (compEnvC scope cl C X.env) fp) tg d (stf i d))
    (he : ∀ i d y, items[i]? = some d → rs[i]? = some y → ∀ (s : Shared) (H : Hp) (C : Addr) (cl : List (Str × Addr)) (fp : List Addr), DE (X.blk s H scope (compEnvC scope cl C X.env) fp) (setC (wipeC Γ (own.map (·.2))) (stf i d)) elt y)
    (hs : ∀ x, foldedSetIterable iter X.env x = pure x := by intro _; rfl) : DN X Γ (.ListComp elt [⟨tg, iter, [], 0⟩] scope pos) rs := by
  obtain ⟨wi, hpi, hwi⟩ := hi
  exact fun σ Hd H Q r k => wE_of (pe_lc hc hN hpi ok pg_blk (fun _ _ _ _ _ => pts_nil) pe_blk hs) (rn_lc hwi stf hl hsz hin hg he σ Hd H Q r k)
end
end Hf

namespace Hf
open PySem PySem.Spec PyProof.Rows L2
open Evl (Ex)
def outer (tp : Bool) (xs : List V) : HO := if tp = true then .tup xs else .lst xs
def MuOk (tp : Bool) (as : List Addr) (dss : List (List D)) (K : PySem.W.Frag) (Hd H : Hp) (ov : Option V) : Prop :=
  ∃ l, ov = some (.ref l) ∧ Hd l = none ∧ H l = some (outer tp (as.map V.ref)) ∧ as.Nodup ∧ l ∉ as ∧ as.length = dss.length ∧
    ∀ (j : Nat) a ds, as[j]? = some a → dss[j]? = some ds → Hd a = none ∧ ∃ vs, H a = some (.lst vs) ∧ IsAll K Hd vs ds
theorem mu_in {as : List Addr} {dss : List (List D)} {a : Addr} (e : as.length = dss.length) (h : a ∈ as) : ∃ (j : Nat) (ds : List D), as[j]? = some a ∧ dss[j]? = some ds := by
  obtain ⟨j, hj⟩ := List.getElem?_of_mem h
  have hl := (List.getElem?_eq_some_iff.mp hj).1
  exact ⟨j, _, hj, List.getElem?_eq_getElem (by omega)⟩
def muC (tp : Bool) (as : List Addr) (dss : List (List D)) : Cu where
  own := fun ov l => ov = some (.ref l) ∨ l ∈ as
  ok := MuOk tp as dss
  carry := fun {K Hd H Hd' H' ov} c hl ⟨l, e, n, h, nd, nl, le, q⟩ => ⟨l, e, (hl l (.inl e)).1, by rw [(hl l (.inl e)).2]; exact h, nd, nl, le, fun j a ds h1 h2 => by
    obtain ⟨n1, vs, h3, h4⟩ := q j a ds h1 h2
    have z := hl a (.inr (List.mem_of_getElem? h1))
    exact ⟨z.1, vs, by rw [z.2]; exact h3, h4.carry c⟩⟩
  has := fun {K Hd H ov l} ⟨l', e, n, h, nd, nl, le, q⟩ o => by
    rcases o with o | o
    · rw [e] at o; cases o
      refine ⟨n, _, h, fun fs z => ?_⟩
      unfold outer at z
      split at z <;> cases z
    · obtain ⟨j, ds, h1, h2⟩ := mu_in le o
      obtain ⟨n1, vs, h3, h4⟩ := q j l ds h1 h2
      exact ⟨n1, _, h3, fun fs z => by cases z⟩
inductive Out
  | val (d : D)
  | newL (ds : List D)
  | newM (es : List (D × D))
  /-- some data, some new list, of which this is known -/
  | any (P : D → Prop)
  | anyL (P : List D → Prop)
  | anyM (P : List (D × D) → Prop)
  /-- a tuple of two new lists -/
  | newLL (ds es : List D)
  /-- a tuple of a new list and of data -/
  | newLD (ds : List D) (x : D)
  /-- a new list, or tuple, of new lists -/
  | newMu (tp : Bool) (dss : List (List D))
  /-- a tuple known to the object -/
  | newTf (ds : List D)
inductive Res
  | ok (o : Out)
  /-- an error of the class at C, with its fields -/
  | exc (C : Addr) (fs : List (Str × D))
def OutIs (K : PySem.W.Frag) (Hs H0 : Hp) : Out → V → Hp → Prop
  | .val d, v, H => ∃ Hd, Stp Hs H0 Hd H ∧ Is K Hd v d
  | .newL ds, v, H => ∃ Hd l vs, v = .ref l ∧ Stp Hs H0 Hd H ∧ H0 l = none ∧ Hd l = none ∧ H l = some (.lst vs) ∧ IsAll K Hd vs ds
  | .newM es, v, H => ∃ Hd l kvs, v = .ref l ∧ Stp Hs H0 Hd H ∧ H0 l = none ∧ Hd l = none ∧ H l = some (.dK kvs) ∧ IsKv K Hd kvs es
  | .any P, v, H => ∃ Hd d, P d ∧ Stp Hs H0 Hd H ∧ Is K Hd v d
  | .anyL P, v, H => ∃ Hd l vs ds, P ds ∧ v = .ref l ∧ Stp Hs H0 Hd H ∧ H0 l = none ∧ Hd l = none ∧ H l = some (.lst vs) ∧ IsAll K Hd vs ds
  | .anyM P, v, H => ∃ Hd l kvs es, P es ∧ v = .ref l ∧ Stp Hs H0 Hd H ∧ H0 l = none ∧ Hd l = none ∧ H l = some (.dK kvs) ∧ IsKv K Hd kvs es
  | .newLL ds es, v, H => ∃ Hd t l m vs ws, v = .ref t ∧ Stp Hs H0 Hd H ∧ (H0 t = none ∧ Hd t = none ∧ H t = some (.tup [.ref l, .ref m])) ∧ (H0 l = none ∧ Hd l = none ∧ H l = some (.lst vs) ∧ IsAll K Hd vs ds) ∧ (H0 m = none ∧ Hd m = none ∧ H m = some (.lst ws) ∧ IsAll K Hd ws es) ∧ l ≠ m
  | .newLD ds x, v, H => ∃ Hd t l u vs, v = .ref t ∧ Stp Hs H0 Hd H ∧ (H0 t = none ∧ Hd t = none ∧ H t = some (.tup [.ref l, u])) ∧ (H0 l = none ∧ Hd l = none ∧ H l = some (.lst vs) ∧ IsAll K Hd vs ds) ∧ Is K Hd u x
  | .newMu tp dss, v, H => ∃ Hd as, Stp Hs H0 Hd H ∧ MuOk tp as dss K Hd H (some v) ∧ ∀ l, (some v = some (V.ref l) ∨ l ∈ as) → H0 l = none
  | .newTf ds, v, H => ∃ Hd l o vs, v = .ref l ∧ Stp Hs H0 Hd H ∧ Hd l = some (.frz o (.tup vs)) ∧ o.cls = .type "tuple" ∧ o.dict = none ∧ IsAll K Hd vs ds
/-- the fields of an error's own dict -/
inductive Flds (K : PySem.W.Frag) (H : Hp) : List (Str × V) → List (Str × D) → Prop
  | nil : Flds K H [] []
  | cons {f : Str} {v : V} {d : D} {a : List (Str × V)} {b : List (Str × D)} : Is K H v d → Flds K H a b → Flds K H ((f, v) :: a) ((f, d) :: b)
def ExcIs (K : PySem.W.Frag) (Hs H0 : Hp) (fs : List (Str × D)) (d : Option Addr) (H : Hp) : Prop :=
  (fs = [] ∧ d = none ∧ ∃ Hd, Stp Hs H0 Hd H) ∨ fs ≠ [] ∧ ∃ dd vs Hd, d = some dd ∧ Stp Hs H0 Hd H ∧ H0 dd = none ∧ Hd dd = none ∧ H dd = some (.xd vs) ∧ Flds K Hd vs fs
def ResW (K : PySem.W.Frag) (Hs H0 : Hp) (Q : VK) (E : XK) : Res → Prop
  | .ok o => ∀ v H, OutIs K Hs H0 o v H → Q v H
  | .exc C fs => ∀ d H, ExcIs K Hs H0 fs d H → E (.ref C) d H
/-- a promise: on data ds the result r, where S tells so -/
def spF (K : PySem.W.Frag) (S : List D → Res → Prop) : Sp := fun vs H Q E => ∃ Hs ds r, Ex Hs H ∧ IsAll K Hs vs ds ∧ S ds r ∧ ResW K Hs H Q E r
structure AD where
  nx : List Cell → Prop
  rt : Out → Prop
  bk : List Cell → Prop := fun _ => False
  ct : List Cell → Prop := fun _ => False
  ex : Addr → List (Str × D) → List Cell → Prop := fun _ _ _ => False
def AD.ends (K : PySem.W.Frag) (Hs H0 Hb : Hp) (A : AD) : Ends where
  nx := fun σ H => ∃ Γ Hd, R K Hs H0 Hb Γ σ Hd H ∧ A.nx Γ
  rt := fun v H => ∃ o, A.rt o ∧ OutIs K Hs H0 o v H
  bk := fun σ H => ∃ Γ Hd, R K Hs H0 Hb Γ σ Hd H ∧ A.bk Γ
  ct := fun σ H => ∃ Γ Hd, R K Hs H0 Hb Γ σ Hd H ∧ A.ct Γ
/-- the own dict of an error -/
def FldD (K : PySem.W.Frag) (H0 Hd H : Hp) (fs : List (Str × D)) (d : Option Addr) : Prop :=
  (fs = [] ∧ d = none) ∨ fs ≠ [] ∧ ∃ dd vs, d = some dd ∧ H0 dd = none ∧ Hd dd = none ∧ H dd = some (.xd vs) ∧ Flds K Hd vs fs
def AD.W (K : PySem.W.Frag) (Hs H0 Hb : Hp) (ex : Addr → List (Str × D) → List Cell → Prop) : WX := fun cls d σ H => ∃ C fs Γ Hd, cls = .ref C ∧ ex C fs Γ ∧ R K Hs H0 Hb Γ σ Hd H ∧ FldD K H0 Hd H fs d
theorem FldD.is {K : PySem.W.Frag} {Hs H0 Hd H : Hp} {fs : List (Str × D)} {d : Option Addr} (s : Stp Hs H0 Hd H) (h : FldD K H0 Hd H fs d) : ExcIs K Hs H0 fs d H := by
  rcases h with ⟨h1, h2⟩ | ⟨h0, dd, vs, h1, h2, h3, h4, h5⟩
  · exact .inl ⟨h1, h2, Hd, s⟩
  · exact .inr ⟨h0, dd, vs, Hd, h1, s, h2, h3, h4, h5⟩
def DS (X : Cx) (Γ : List Cell) (sts : List Stmt) (A : AD) : Prop := ∀ Hs H0 Hb, L2N.Takes X (AD.W X.K Hs H0 Hb A.ex) → ∀ σ Hd H, R X.K Hs H0 Hb Γ σ Hd H → wSs X sts (A.ends X.K Hs H0 Hb) σ H
section
variable {X : Cx} {Γ : List Cell} {A : AD} {st : Stmt} {rest body els : List Stmt} {e a b c tg it : Expr} {d : D} {ds : List D} {i j n : Nat} {x : Str} {pos p : Pos}
theorem exec_one {M : Model} {Ar : Around} {E : Value → Shared → Prop} {env : Env} {s : Shared} {Q : Flow → Shared → Prop} (h : wpAny M Ar (execs [st] env) Q E s) : wpAny M Ar (exec st env) Q E s := by
  have e : execs [st] env = exec st env := by
    have e1 : execs [st] env = exec st env >>= fun f : Flow => match f with | .next => execs [] env | f => pure f := by
      unfold execs
      rfl
    rw [e1]
    have e2 : (fun f : Flow => match f with | .next => execs [] env | f => (pure f : Sem Flow)) = pure := by
      funext f
      cases f <;> first | rfl | (unfold execs; rfl)
    rw [e2, bind_pure]
  rw [e] at h
  exact h
theorem wSs_cons {D : Ends} {σ : St} {H : Hp} (h : wS X st { D with nx := fun σ' H' => wSs X rest D σ' H' } σ H) : wSs X (st :: rest) D σ H := wSs_of (pss_cons ps_w pss_w) h
theorem ds_nil (h : A.nx Γ) : DS X Γ [] A := fun Hs H0 Hb tk σ Hd H r => wSs_of pss_nil ⟨Γ, Hd, r, h⟩
theorem ds_pass (h : DS X Γ rest A) : DS X Γ (.Pass pos :: rest) A := fun Hs H0 Hb tk σ Hd H r => wSs_cons (wS_of ps_pass (h Hs H0 Hb tk σ Hd H r))
theorem ds_doc {z : Str} {k : Nat} {p2 : Pos} (h : DS X Γ rest A) : DS X Γ (.Expr (.Constant (.str z) k p2) pos :: rest) A := fun Hs H0 Hb tk σ Hd H r => wSs_cons (wS_of ps_doc (h Hs H0 Hb tk σ Hd H r))
theorem ds_break (h : A.bk Γ) : DS X Γ (.Break pos :: rest) A := fun Hs H0 Hb tk σ Hd H r => wSs_cons (wS_of ps_break ⟨Γ, Hd, r, h⟩)
theorem ds_cont (h : A.ct Γ) : DS X Γ (.Continue pos :: rest) A := fun Hs H0 Hb tk σ Hd H r => wSs_cons (wS_of ps_continue ⟨Γ, Hd, r, h⟩)
/-- the way is not taken -/
theorem ds_absurd {sts : List Stmt} (h : False) : DS X Γ sts A := h.elim
/-- name = e -/
theorem ds_set (he : DE X Γ e d) (hp : PS X (.Assign [.Name x p] e pos) (tAsg (wE X e) (gName i))) (h : DS X (Γ.set i (.d d)) rest A) : DS X Γ (.Assign [.Name x p] e pos :: rest) A := fun Hs H0 Hb tk σ Hd H r =>
  wSs_cons (wS_of hp (he σ Hd H _ r.l fun v Hd1 H1 s1 i1 => h Hs H0 Hb tk _ Hd1 H1 ((r.stp s1).setD i1)))
theorem notown_new {K : PySem.W.Frag} {Hs H0 Hb Hd H : Hp} {σ : St} {l : Addr} (r : R K Hs H0 Hb Γ σ Hd H) (hl : H l = none) : ∀ (j : Nat) cj ov, Γ[j]? = some cj → σ[j]? = some ov → ¬ ownAt cj ov l := fun j cj ov h1 h2 o => by
  obtain ⟨_, u, q⟩ := own_ok (r.l.cell j cj ov h1 h2) o
  rw [hl] at q; cases q
theorem ds_setN (he : DN X Γ e ds) (hp : PS X (.Assign [.Name x p] e pos) (tAsg (wE X e) (gName i))) (h : DS X (Γ.set i (.ml ds)) rest A) : DS X Γ (.Assign [.Name x p] e pos :: rest) A := fun Hs H0 Hb tk σ Hd H r =>
  wSs_cons (wS_of hp (he σ Hd H _ r.l fun l vs Hd1 H1 s1 hl hd h1 i1 => h Hs H0 Hb tk _ Hd1 H1 ((r.stp s1).setOwn (c := .ml ds) ⟨l, vs, rfl, hd, h1, i1⟩ (ex_none r.e.h hl) fun j cj ov _ a b => notown_new r hl j cj ov a b)))
theorem ds_setM {es : List (D × D)} (he : DM X Γ e es) (hp : PS X (.Assign [.Name x p] e pos) (tAsg (wE X e) (gName i))) (h : DS X (Γ.set i (.md es)) rest A) : DS X Γ (.Assign [.Name x p] e pos :: rest) A := fun Hs H0 Hb tk σ Hd H r =>
  wSs_cons (wS_of hp (he σ Hd H _ r.l fun l vs Hd1 H1 s1 hl hd h1 i1 => h Hs H0 Hb tk _ Hd1 H1 ((r.stp s1).setOwn (c := .md es) ⟨l, vs, rfl, hd, h1, i1⟩ (ex_none r.e.h hl) fun j cj ov _ a b => notown_new r hl j cj ov a b)))
/-- target = e, the target a tuple of names -/
theorem ds_asg {sts : List (Nat × D)} (he : DE X Γ e d) (hg : DG X tg d sts) (hs : swapsWithSole [tg] e pos.line X.env = pure false := by rfl) (hw : swappedStores [tg] e X.env = pure none := by rfl)
    (h1 : (assignEach [tg] X.env).map (·.2) = [assign tg X.env] := by rfl) (h : DS X (setC Γ sts) rest A) : DS X Γ (.Assign [tg] e pos :: rest) A := fun Hs H0 Hb tk σ Hd H r =>
  wSs_cons (wS_of (ps_asg pe_w pg_w hs hw h1) (he σ Hd H _ r.l fun v Hd1 H1 s1 i1 => hg σ Hd1 H1 v _ i1 s1.s fun ws hw => h Hs H0 Hb tk _ Hd1 H1 ((r.stp s1).setV hw)))
/-- a, b = e1, e2 -/
theorem ds_par {y : Str} {px py pt : Pos} {kt k2 : Nat} {pt2 : Pos} {d1 d2 : D} (ha : DA X Γ [a, b] [d1, d2]) (hp : PS X (.Assign [.Tuple [.Name x px, .Name y py] kt pt] (.Tuple [a, b] k2 pt2) pos) (tPar i j (wA X [a, b])))
    (h : DS X ((Γ.set i (.d d1)).set j (.d d2)) rest A) : DS X Γ (.Assign [.Tuple [.Name x px, .Name y py] kt pt] (.Tuple [a, b] k2 pt2) pos :: rest) A := fun Hs H0 Hb tk σ Hd H r =>
  wSs_cons (wS_of hp (ha σ Hd H _ r.l fun vs Hd1 H1 s1 i1 => by
    obtain ⟨v, w, rfl, iv, iw⟩ := all2 i1
    exact ⟨v, w, rfl, h Hs H0 Hb tk _ Hd1 H1 (((r.stp s1).setD iv).setD iw)⟩))
theorem ds_expr (he : DE X Γ e d) (hs : swapsWith e none pos.line X.env = pure false := by rfl) (h : DS X Γ rest A) : DS X Γ (.Expr e pos :: rest) A := fun Hs H0 Hb tk σ Hd H r =>
  wSs_cons (wS_of (ps_expr pe_w hs) (he σ Hd H _ r.l fun v Hd1 H1 s1 i1 => h Hs H0 Hb tk _ Hd1 H1 (r.stp s1)))
theorem ds_ret (he : DE X Γ e d) (h : A.rt (.val d)) : DS X Γ (.Return (some e) pos :: rest) A := fun Hs H0 Hb tk σ Hd H r =>
  wSs_cons (wS_of (ps_ret pe_w) (he σ Hd H _ r.l fun v Hd1 H1 s1 i1 => ⟨_, h, Hd1, r.e.trans s1, i1⟩))
theorem ds_retN (he : DN X Γ e ds) (h : A.rt (.newL ds)) : DS X Γ (.Return (some e) pos :: rest) A := fun Hs H0 Hb tk σ Hd H r =>
  wSs_cons (wS_of (ps_ret pe_w) (he σ Hd H _ r.l fun l vs Hd1 H1 s1 hl hd h1 i1 => ⟨_, h, Hd1, l, vs, rfl, r.e.trans s1, ex_none r.e.h hl, hd, h1, i1⟩))
/-- return of a list of one's own -/
theorem ds_retL (hi : Γ[i]? = some (.ml ds)) (hp : PE X (.Name x p) (tVar i)) (h : A.rt (.newL ds)) : DS X Γ (.Return (some (.Name x p)) pos :: rest) A := fun Hs H0 Hb tk σ Hd H r => by
  have hl : i < σ.length := by rw [r.l.len]; exact (List.getElem?_eq_some_iff.mp hi).1
  have es := List.getElem?_eq_getElem hl
  obtain ⟨l, vs, e, hd, h1, i1⟩ := r.l.cell i _ _ hi es
  exact wSs_cons (wS_of (ps_ret hp) ⟨.ref l, by rw [es, e], _, h, Hd, l, vs, rfl, r.e, r.o i _ _ l hi es e, hd, h1, i1⟩)
theorem ds_retK {es : List (D × D)} (hi : Γ[i]? = some (.md es)) (hp : PE X (.Name x p) (tVar i)) (h : A.rt (.newM es)) : DS X Γ (.Return (some (.Name x p)) pos :: rest) A := fun Hs H0 Hb tk σ Hd H r => by
  have hl : i < σ.length := by rw [r.l.len]; exact (List.getElem?_eq_some_iff.mp hi).1
  have es := List.getElem?_eq_getElem hl
  obtain ⟨l, vs, e, hd, h1, i1⟩ := r.l.cell i _ _ hi es
  exact wSs_cons (wS_of (ps_ret hp) ⟨.ref l, by rw [es, e], _, h, Hd, l, vs, rfl, r.e, r.o i _ _ l hi es e, hd, h1, i1⟩)
theorem ds_retNone (h : A.rt (.val .none)) : DS X Γ (.Return none pos :: rest) A := fun Hs H0 Hb tk σ Hd H r => wSs_cons (wS_of ps_retN ⟨_, h, Hd, r.e, .non⟩)
theorem ds_if {m : Bool} (hc : DT X Γ c m) (h1 : m = true → DS X Γ body { A with nx := fun Γ' => DS X Γ' rest A }) (h2 : m = false → DS X Γ els { A with nx := fun Γ' => DS X Γ' rest A }) : DS X Γ (.If c body els pos :: rest) A := fun Hs H0 Hb tk σ Hd H r =>
  wSs_cons (wS_of (ps_if pt_w pss_w pss_w) (hc σ Hd H _ r.l fun Hd1 H1 s1 => by
    have key : ∀ sts, DS X Γ sts { A with nx := fun Γ' => DS X Γ' rest A } → wSs X sts { A.ends X.K Hs H0 Hb with nx := fun σ' H' => wSs X rest (A.ends X.K Hs H0 Hb) σ' H' } σ H1 := fun sts h => ⟨fun pins s I =>
      thn ((h Hs H0 Hb tk σ Hd1 H1 (r.stp s1)).run pins s I) fun f s' q => by
        cases f with
        | next =>
          obtain ⟨σ', H', I', Γ', Hd', r', q'⟩ := q
          exact ⟨σ', H', I', q' Hs H0 Hb tk σ' Hd' H' r'⟩
        | ret v => exact q
        | brk => exact q
        | cont => exact q⟩
    cases m with
    | true => exact L2.iteT (key _ (h1 rfl))
    | false => exact L2.iteF (key _ (h2 rfl))))
/-- if t: (leaves, or goes on) -/
theorem ds_when {m : Bool} (hc : DT X Γ c m) (h1 : m = true → DS X Γ body { A with nx := fun Γ' => DS X Γ' rest A }) (h2 : m = false → DS X Γ rest A) : DS X Γ (.If c body [] pos :: rest) A := ds_if hc h1 fun q => ds_nil (h2 q)
theorem ds_imp {A' : AD} {sts : List Stmt} (h : DS X Γ sts A') (nx : ∀ Γ, A'.nx Γ → A.nx Γ) (rt : ∀ o, A'.rt o → A.rt o) (bk : ∀ Γ, A'.bk Γ → A.bk Γ) (ct : ∀ Γ, A'.ct Γ → A.ct Γ) (ex : ∀ C fs Γ, A'.ex C fs Γ → A.ex C fs Γ) : DS X Γ sts A := fun Hs H0 Hb tk σ Hd H r => ⟨fun pins s I =>
  thn ((h Hs H0 Hb (tk.imp fun c d σ H ⟨C, fs, G, Hd, e1, e2, e3⟩ => ⟨C, fs, G, Hd, e1, ex _ _ _ e2, e3⟩) σ Hd H r).run pins s I) fun f s' q => by
    cases f with
    | next =>
      obtain ⟨σ', H', I', Γ', Hd', r', q'⟩ := q
      exact ⟨σ', H', I', Γ', Hd', r', nx _ q'⟩
    | ret v =>
      obtain ⟨v', σ', H', I', rv, o, q1, q2⟩ := q
      exact ⟨v', σ', H', I', rv, o, rt _ q1, q2⟩
    | brk =>
      obtain ⟨σ', H', I', Γ', Hd', r', q'⟩ := q
      exact ⟨σ', H', I', Γ', Hd', r', bk _ q'⟩
    | cont =>
      obtain ⟨σ', H', I', Γ', Hd', r', q'⟩ := q
      exact ⟨σ', H', I', Γ', Hd', r', ct _ q'⟩⟩
/-- a statement, with a word behind it -/
theorem ds_cut (M : List Cell → Prop) (h1 : DS X Γ [st] { A with nx := M }) (h2 : ∀ Γ', M Γ' → DS X Γ' rest A) : DS X Γ (st :: rest) A := fun Hs H0 Hb tk σ Hd H r => by
  constructor
  intro pins s I
  have z := h1 Hs H0 Hb tk σ Hd H r
  have z2 : wS X st { A.ends X.K Hs H0 Hb with nx := fun σ H => ∃ Γ Hd, R X.K Hs H0 Hb Γ σ Hd H ∧ M Γ } σ H := by
    constructor
    intro pins s I
    have y := z.run pins s I
    exact exec_one y
  refine (wSs_cons (D := A.ends X.K Hs H0 Hb) ⟨fun pins s I => thn (z2.run pins s I) fun f s' q => ?_⟩).run pins s I
  cases f with
  | next =>
    obtain ⟨σ', H', I', Γ', Hd', r', q'⟩ := q
    exact ⟨σ', H', I', h2 Γ' q' Hs H0 Hb tk σ' Hd' H' r'⟩
  | ret v => exact q
  | brk => exact q
  | cont => exact q
/-- a list of one's own becomes data -/
theorem ds_frz {sts : List Stmt} (i : Nat) (hi : Γ[i]? = some (.ml ds)) (h : DS X (Γ.set i (.d (.list ds))) sts A) : DS X Γ sts A := fun Hs H0 Hb tk σ Hd H r => by
  obtain ⟨Hd', r'⟩ := r.frz hi
  exact h Hs H0 Hb tk σ Hd' H r'
theorem ds_drop {sts : List Stmt} (i : Nat) (h : DS X (Γ.set i .no) sts A) : DS X Γ sts A := fun Hs H0 Hb tk σ Hd H r => h Hs H0 Hb tk σ Hd H r.drop
theorem ds_while (W : Nat → List Cell → Prop) (hp : PassesOwn (model X.prog X.w) X.A X.env X.xe) (m0 : Nat) (w0 : W m0 Γ)
    (h : ∀ m Γ', W m Γ' → ∃ t, DT X Γ' c t ∧ (t = true → DS X Γ' body { A with nx := fun Γ2 => ∃ m', m' < m ∧ W m' Γ2, ct := fun Γ2 => ∃ m', m' < m ∧ W m' Γ2, bk := fun Γ2 => DS X Γ2 rest A }) ∧ (t = false → DS X Γ' rest A)) :
    DS X Γ (.While c body [] pos :: rest) A := fun Hs H0 Hb tk σ Hd H r => by
  refine wSs_cons (wS_of (ps_while hp pt_w pss_w) ⟨fun m σ H => ∃ Γ' Hd, R X.K Hs H0 Hb Γ' σ Hd H ∧ W m Γ', ⟨m0, Γ, Hd, r, w0⟩, fun m σ1 H1 ⟨Γ1, Hd1, r1, w1⟩ => ?_⟩)
  obtain ⟨t, ht, hy, hn⟩ := h m Γ1 w1
  refine ht σ1 Hd1 H1 _ r1.l fun Hd2 H2 s2 => ?_
  cases t with
  | false => exact L2.iteF (hn rfl Hs H0 Hb tk σ1 Hd2 H2 (r1.stp s2))
  | true =>
    refine L2.iteT ⟨fun σ' H' => ∃ Γ' Hd', R X.K Hs H0 Hb Γ' σ' Hd' H' ∧ ∃ m', m' < m ∧ W m' Γ', fun σ' H' ⟨Γ', Hd', r', m', lt, w'⟩ => ⟨m', lt, Γ', Hd', r', w'⟩, ⟨fun pins s I => thn ((hy rfl Hs H0 Hb tk σ1 Hd2 H2 (r1.stp s2)).run pins s I) fun f s' q => ?_⟩⟩
    cases f with
    | next => exact q
    | ret v => exact q
    | cont => exact q
    | brk =>
      obtain ⟨σ', H', I', Γ', Hd', r', q'⟩ := q
      exact ⟨σ', H', I', q' Hs H0 Hb tk σ' Hd' H' r'⟩
theorem ds_for {items : List D} (Pv : Nat → List Cell → Prop) (stf : Nat → D → List (Nat × D)) (hp : PassesOwn (model X.prog X.w) X.A X.env X.xe) (hc : X.calm = true) (hi : DI X Γ tg it items)
    (hg : ∀ i d, items[i]? = some d → DG X tg d (stf i d)) (h0 : Pv 0 Γ)
    (hb : ∀ i d Γ', items[i]? = some d → Pv i Γ' → DS X (setC Γ' (stf i d)) body { A with nx := Pv (i + 1), ct := Pv (i + 1), bk := fun Γ2 => DS X Γ2 rest A })
    (hd : ∀ Γ', Pv items.length Γ' → DS X Γ' rest A) (hs : ∀ x, foldedSetIterable it X.env x = pure x := by intro _; rfl) : DS X Γ (.For tg it body [] pos :: rest) A := by
  obtain ⟨wi, hpi, hwi⟩ := hi
  intro Hs H0 Hb tk σ Hd H r
  refine wSs_cons (wS_of (ps_for hp hc hpi pg_w pss_w hs) (hwi σ Hd H _ r.l fun J Hd1 H1 s1 io => ?_))
  have rb1 : Ex Hb Hd1 := r.b.trans s1.d
  refine ⟨fun i m σ' H' => i + m = items.length ∧ ∃ Γ' Hd', R X.K Hs H0 Hb Γ' σ' Hd' H' ∧ Ex Hd1 Hd' ∧ Pv i Γ', ⟨items.length, by omega, Γ, Hd1, r.stp s1, Ex.refl _, h0⟩, ?_⟩
  rintro i m σ' H' ⟨em, Γ', Hd', r', e', q⟩
  obtain ⟨g1, g2⟩ := io i Hd' H' e' r'.l.sub
  by_cases hi : i < items.length
  · have e1 := List.getElem?_eq_getElem hi
    obtain ⟨go, yl⟩ := g1 _ e1
    refine .inr ⟨go, fun σ2 H2 => ∃ Γ2 Hd2, R X.K Hs H0 Hb Γ2 σ2 Hd2 H2 ∧ Ex Hd1 Hd2 ∧ Pv (i + 1) Γ2, fun σ2 H2 ⟨Γ2, Hd2, a, b, c⟩ => ⟨m - 1, by omega, by omega, Γ2, Hd2, a, b, c⟩, fun x H3 hy => ?_⟩
    obtain ⟨Hd3, s3, ix⟩ := yl x H3 hy
    refine hg i _ e1 σ' Hd3 H3 x _ ix s3.s fun ws hw => ?_
    have r3 := (r'.stp s3).setV hw
    -- the data heap grows within the body: the body's own end tells so by its entry, Hd3
    constructor
    intro pins s I
    have r4 : R X.K Hs H0 Hd1 (setC Γ' (stf i items[i])) (setV σ' (stf i items[i]) ws) Hd3 H3 := ⟨r3.l, r3.e, e'.trans s3.d, r3.o⟩
    refine thn ((hb i _ Γ' e1 q Hs H0 Hd1 (tk.imp fun c d σ H ⟨C, fs, G, Hx, e1, e2, e3, e4⟩ => ⟨C, fs, G, Hx, e1, e2, ⟨e3.l, e3.e, rb1.trans e3.b, e3.o⟩, e4⟩) _ Hd3 H3 r4).run pins s I) fun f s' z => ?_
    have lo : ∀ {Γ2 σ2 Hd2 H2}, R X.K Hs H0 Hd1 Γ2 σ2 Hd2 H2 → R X.K Hs H0 Hb Γ2 σ2 Hd2 H2 := fun a => ⟨a.l, a.e, rb1.trans a.b, a.o⟩
    cases f with
    | next =>
      obtain ⟨σ2, H2, I2, Γ2, Hd2, a, b⟩ := z
      exact ⟨σ2, H2, I2, Γ2, Hd2, lo a, a.b, b⟩
    | cont =>
      obtain ⟨σ2, H2, I2, Γ2, Hd2, a, b⟩ := z
      exact ⟨σ2, H2, I2, Γ2, Hd2, lo a, a.b, b⟩
    | brk =>
      obtain ⟨σ2, H2, I2, Γ2, Hd2, a, b⟩ := z
      exact ⟨σ2, H2, I2, b Hs H0 Hb tk σ2 Hd2 H2 (lo a)⟩
    | ret v => exact z
  · refine .inl ⟨g2 (by omega), ?_⟩
    have ei : i = items.length := by omega
    subst ei
    exact hd Γ' q Hs H0 Hb tk σ' Hd' H' r'
end
end Hf

namespace Hf
open PySem PySem.Spec PyProof.Rows L2
open Evl (Ex)
section
variable {X : Cx} {Γ : List Cell} {A : AD} {st : Stmt} {rest body els : List Stmt} {e a b c tg it o : Expr} {d : D} {ds es : List D} {i j n : Nat} {x : Str} {pos p : Pos}
/-- the slot's own list -/
theorem own_list {K : PySem.W.Frag} {Hs H0 Hb Hd H : Hp} {σ : St} (r : R K Hs H0 Hb Γ σ Hd H) (hi : Γ[i]? = some (.ml ds)) : ∃ l vs, σ[i]? = some (some (.ref l)) ∧ Hd l = none ∧ H l = some (.lst vs) ∧ IsAll K Hd vs ds := by
  have hl : i < σ.length := by rw [r.l.len]; exact (List.getElem?_eq_some_iff.mp hi).1
  have es := List.getElem?_eq_getElem hl
  obtain ⟨l, vs, e, hd, h1, i1⟩ := r.l.cell i _ _ hi es
  exact ⟨l, vs, by rw [es, e], hd, h1, i1⟩
theorem own_dict {K : PySem.W.Frag} {Hs H0 Hb Hd H : Hp} {σ : St} {es : List (D × D)} (r : R K Hs H0 Hb Γ σ Hd H) (hi : Γ[i]? = some (.md es)) : ∃ l kvs, σ[i]? = some (some (.ref l)) ∧ Hd l = none ∧ H l = some (.dK kvs) ∧ IsKv K Hd kvs es := by
  have hl : i < σ.length := by rw [r.l.len]; exact (List.getElem?_eq_some_iff.mp hi).1
  have es := List.getElem?_eq_getElem hl
  obtain ⟨l, vs, e, hd, h1, i1⟩ := r.l.cell i _ _ hi es
  exact ⟨l, vs, by rw [es, e], hd, h1, i1⟩
/-- x.append(e), x one's own list -/
theorem ds_app {apos pos2 : Pos} (hi : Γ[i]? = some (.ml ds)) (hx : PE X (.Name x p) (tVar i)) (he : DE X Γ e d) (hz : ds.length < 100000)
    (hp : PS X (.Expr (.Call (.Attribute (.Name x p) "append" apos) [e] [] pos) pos2) (tDrop (tBM X.K "list" rAppend (wE X (.Name x p)) (tCons (wE X e) tNil))))
    (h : DS X (Γ.set i (.ml (ds ++ [d]))) rest A) : DS X Γ (.Expr (.Call (.Attribute (.Name x p) "append" apos) [e] [] pos) pos2 :: rest) A := fun Hs H0 Hb tk σ Hd H r =>
  wSs_cons (wS_of hp (by
    obtain ⟨l, vs, es, hd, h1, i1⟩ := own_list r hi
    refine wE_of hx ⟨_, es, .inl ⟨rfl, vs, SqL.of h1⟩, he σ Hd H _ r.l fun v Hd1 H1 s1 iv => ?_⟩
    have h2 := s1.h _ _ h1
    refine ⟨l, vs, v, rfl, rfl, h2, Evl.sz_lt (by rw [i1.len]; exact hz), ?_⟩
    exact h Hs H0 Hb tk σ Hd1 _ ((r.stp s1).chg hi es (show some (V.ref l) = some (.ref l) from rfl) ⟨l, _, rfl, s1.non hd h1, upd_same, (i1.mono s1.d).app (.one iv)⟩)))
/-- x.extend(e), x one's own list, e a tracked list -/
theorem ds_ext {apos pos2 : Pos} (hi : Γ[i]? = some (.ml ds)) (hx : PE X (.Name x p) (tVar i)) (he : DL X Γ e es) (hz : ds.length + es.length ≤ 100000)
    (hp : PS X (.Expr (.Call (.Attribute (.Name x p) "extend" apos) [e] [] pos) pos2) (tDrop (tBM X.K "list" rExtend (wE X (.Name x p)) (tCons (wE X e) tNil))))
    (h : DS X (Γ.set i (.ml (ds ++ es))) rest A) : DS X Γ (.Expr (.Call (.Attribute (.Name x p) "extend" apos) [e] [] pos) pos2 :: rest) A := fun Hs H0 Hb tk σ Hd H r =>
  wSs_cons (wS_of hp (by
    obtain ⟨l, vs, es, hd, h1, i1⟩ := own_list r hi
    refine wE_of hx ⟨_, es, .inl ⟨rfl, vs, SqL.of h1⟩, he σ Hd H _ r.l fun m us Hd1 H1 s1 hm iv => ?_⟩
    have h2 := s1.h _ _ h1
    refine ⟨l, m, vs, us, rfl, rfl, h2, hm, Evl.sz_of (by rw [i1.len, iv.len]; exact hz), ?_⟩
    exact h Hs H0 Hb tk σ Hd1 _ ((r.stp s1).chg hi es (show some (V.ref l) = some (.ref l) from rfl) ⟨l, _, rfl, s1.non hd h1, upd_same, (i1.mono s1.d).app iv⟩)))
theorem ixN_of {k : Int} {m n : Nat} (h : ixN n k = some m) : ixN n k = some m := h
/-- x[k] = e, x one's own list -/
theorem ds_put {spos : Pos} {k : Int} {m : Nat} (hi : Γ[i]? = some (.ml ds)) (hx : PE X (.Name x p) (tVar i)) (he : DE X Γ e d) (hk : DE X Γ b (.int k)) (hm : ixN ds.length k = some m)
    (hp : PS X (.Assign [.Subscript (.Name x p) b spos] e pos) (tAsg (wE X e) (gSub (wE X (.Name x p)) (wE X b) rSetL)))
    (h : DS X (Γ.set i (.ml (ds.set m d))) rest A) : DS X Γ (.Assign [.Subscript (.Name x p) b spos] e pos :: rest) A := fun Hs H0 Hb tk σ Hd H r =>
  wSs_cons (wS_of hp (he σ Hd H _ r.l fun v Hd1 H1 s1 iv => by
    have r1 := r.stp s1
    obtain ⟨l, vs, es, hd, h1, i1⟩ := own_list r1 hi
    refine wE_of hx ⟨_, es, hk σ Hd1 H1 _ r1.l fun u Hd2 H2 s2 iu => ?_⟩
    cases iu
    refine ⟨l, vs, k, m, rfl, rfl, s2.h _ _ h1, by rw [i1.len]; exact hm, ?_⟩
    exact h Hs H0 Hb tk σ Hd2 _ ((r1.stp s2).chg hi es (show some (V.ref l) = some (.ref l) from rfl) ⟨l, _, rfl, s2.non hd h1, upd_same, (i1.mono s2.d).set m (iv.mono s2.d)⟩)))
section
variable {elt iter : Expr} {scope : Scope} {own : List (Str × Nat)} {spos py : Pos} {items rs : List D} {y : Str}
theorem set_new {te : TE} {Hs H0 Hb : Hp} {σ : St} {Hd H : Hp} (h : DS X (Γ.set i (.ml rs)) rest A) (tk : L2N.Takes X (AD.W X.K Hs H0 Hb A.ex)) (r : R X.K Hs H0 Hb Γ σ Hd H) (hr : RN X Γ te rs) : tAsg te (gName i) { A.ends X.K Hs H0 Hb with nx := fun σ' H' => wSs X rest (A.ends X.K Hs H0 Hb) σ' H' } σ H :=
  hr σ Hd H _ r.l fun l vs Hd1 H1 s1 hl hd h1 i1 => h Hs H0 Hb tk _ Hd1 H1 ((r.stp s1).setOwn (c := .ml rs) ⟨l, vs, rfl, hd, h1, i1⟩ (ex_none r.e.h hl) fun j cj ov _ a b => notown_new r hl j cj ov a b)
theorem ds_setLc (hc : X.calm = true) (hN : X.N.Nodup) (hy : X.N[i]? = some y) (hyl : X.env.scope.names.lookup y = some .local) (hsw : swapsWith (.ListComp elt [⟨tg, iter, [], 0⟩] scope pos) (some (.Name y py)) spos.line X.env = pure true) (hi : DI X Γ tg iter items) (ok : BlkOk X.N X.env.scope scope own)
    (stf : Nat → D → List (Nat × D)) (hl : rs.length = items.length) (hsz : items.length ≤ 100000)
    (hin : ∀ i d, items[i]? = some d → ∀ p ∈ stf i d, p.1 ∈ own.map (·.2))
    (hg : ∀ i d, items[i]? = some d → ∀ (s : Shared) (H : Hp) (C : Addr) (cl : List (Str × Addr)) (fp : List Addr), DG (X.blk s H scope (compEnvC scope cl C X.env) fp) tg d (stf i d))
    (he : ∀ i d y, items[i]? = some d → rs[i]? = some y → ∀ (s : Shared) (H : Hp) (C : Addr) (cl : List (Str × Addr)) (fp : List Addr), DE (X.blk s H scope (compEnvC scope cl C X.env) fp) (setC (wipeC Γ (own.map (·.2))) (stf i d)) elt y)
    (h : DS X (Γ.set i (.ml rs)) rest A) (hs : ∀ x, foldedSetIterable iter X.env x = pure x := by intro _; rfl) : DS X Γ (.Assign [.Name y py] (.ListComp elt [⟨tg, iter, [], 0⟩] scope pos) spos :: rest) A := by
  obtain ⟨wi, hpi, hwi⟩ := hi
  exact fun Hs H0 Hb tk σ Hd H r => wSs_cons (wS_of (ps_setLc hc hN hy hyl hsw hpi ok pg_blk (fun _ _ _ _ _ => pts_nil) pe_blk hs) (set_new h tk r (rn_lc hwi stf hl hsz hin hg he)))
theorem ds_setLcIf {c : Expr} {outs : List (Option D)} (hc : X.calm = true) (hN : X.N.Nodup) (hy : X.N[i]? = some y) (hyl : X.env.scope.names.lookup y = some .local) (hsw : swapsWith (.ListComp elt [⟨tg, iter, [c], 0⟩] scope pos) (some (.Name y py)) spos.line X.env = pure true) (hi : DI X Γ tg iter items) (ok : BlkOk X.N X.env.scope scope own)
    (stf : Nat → D → List (Nat × D)) (hl : outs.length = items.length) (hsz : items.length ≤ 100000)
    (hin : ∀ i d, items[i]? = some d → ∀ p ∈ stf i d, p.1 ∈ own.map (·.2))
    (hg : ∀ i d, items[i]? = some d → ∀ (s : Shared) (H : Hp) (C : Addr) (cl : List (Str × Addr)) (fp : List Addr), DG (X.blk s H scope (compEnvC scope cl C X.env) fp) tg d (stf i d))
    (ht : ∀ i d o, items[i]? = some d → outs[i]? = some o → ∀ (s : Shared) (H : Hp) (C : Addr) (cl : List (Str × Addr)) (fp : List Addr), DT (X.blk s H scope (compEnvC scope cl C X.env) fp) (setC (wipeC Γ (own.map (·.2))) (stf i d)) c o.isSome)
    (he : ∀ i d y, items[i]? = some d → outs[i]? = some (some y) → ∀ (s : Shared) (H : Hp) (C : Addr) (cl : List (Str × Addr)) (fp : List Addr), DE (X.blk s H scope (compEnvC scope cl C X.env) fp) (setC (wipeC Γ (own.map (·.2))) (stf i d)) elt y)
    (h : DS X (Γ.set i (.ml (outs.filterMap id))) rest A) (hs : ∀ x, foldedSetIterable iter X.env x = pure x := by intro _; rfl) : DS X Γ (.Assign [.Name y py] (.ListComp elt [⟨tg, iter, [c], 0⟩] scope pos) spos :: rest) A := by
  obtain ⟨wi, hpi, hwi⟩ := hi
  exact fun Hs H0 Hb tk σ Hd H r => wSs_cons (wS_of (ps_setLc hc hN hy hyl hsw hpi ok pg_blk pts_blk pe_blk hs) (set_new h tk r (rn_lcIf (tt := fun _ => true) hwi stf hl hsz hin hg ht he)))
end
theorem ds_raise {C : Addr} (hc : X.calm = true) (he : L2N.PMk X e (fun _ H Q => Q (.ref C) none H)) (h : A.ex C [] Γ) : DS X Γ (.Raise (some e) none pos :: rest) A := fun Hs H0 Hb tk σ Hd H r =>
  wSs_cons (wS_of (L2N.ps_raise hc tk he) ⟨C, [], Γ, Hd, rfl, h, r, .inl ⟨rfl, rfl⟩⟩)
end
def startC (N : List Str) (ds : List D) : List Cell := ds.map Cell.d ++ List.replicate (N.length - ds.length) .no
def AD.ret (r : Res) : AD where
  nx := fun _ => r = .ok (.val .none)
  rt := fun o => r = .ok o
  ex := fun C fs _ => r = .exc C fs
theorem start_R {K : PySem.W.Frag} {N : List Str} {vs : List V} {ds : List D} {Hs H : Hp} (e : Ex Hs H) (h : IsAll K Hs vs ds) : R K Hs H Hs (startC N ds) (L2.start N vs) Hs H := by
  have hl := h.len
  have noown : ∀ (i : Nat) c ov l, (startC N ds)[i]? = some c → ¬ ownAt c ov l := fun i c ov l h1 o => by
    unfold startC at h1
    rw [List.getElem?_append] at h1
    split at h1
    · rw [List.getElem?_map] at h1
      obtain ⟨x, _, rfl⟩ := Option.map_eq_some_iff.mp h1
      cases o
    · rw [List.getElem?_replicate] at h1
      split at h1
      · cases h1; cases o
      · cases h1
  refine ⟨⟨by unfold L2.start startC; simp [hl], e, fun i c ov h1 h2 => ?_, fun i j ci cj oi oj l h1 _ _ _ q _ => (noown i ci oi l h1 q).elim⟩, ⟨Ex.refl _, Ex.refl _, e, fun a o h1 h2 => by rw [h2] at h1; cases h1⟩, Ex.refl _, fun i c ov l h1 _ q => (noown i c ov l h1 q).elim⟩
  unfold startC at h1
  unfold L2.start at h2
  rw [List.getElem?_append] at h1 h2
  rw [List.length_map] at h1 h2
  rw [hl] at h2
  split at h1
  · rename_i hi
    rw [if_pos hi] at h2
    rw [List.getElem?_map] at h1 h2
    obtain ⟨x, hx, rfl⟩ := Option.map_eq_some_iff.mp h1
    obtain ⟨v, hv, rfl⟩ := Option.map_eq_some_iff.mp h2
    obtain ⟨v', q1, q2⟩ := h.get hx
    rw [hv] at q1; cases q1
    exact ⟨v, rfl, q2⟩
  · rw [List.getElem?_replicate] at h1
    split at h1
    · cases h1; trivial
    · cases h1
section
variable {P : Program} {w : World} {K : PySem.W.Frag} {mg : Str → Option Value} {base : Heap}
theorem passN {X : Cx} : Passes (L2N.CX X.prog X.w) X E0 := fun _ _ _ _ _ _ _ h => by
  obtain ⟨_, _, _, _, _, _, _, _, _, _, _, _, z⟩ := h
  exact z.elim
theorem okN {x qual : Str} {st : Stmt} {f : Addr} {fd : FuncData} {N ps : List Str} {k : Nat} {sp : Sp} (F : Fun K x qual st f fd) (sc : FnScope N ps (defScope st)) (len : ∀ vs H Q E, sp vs H Q E → vs.length = ps.length)
    (body : ∀ (cdv : Value) (Ar : Around) (outer : List Env) (s : Shared) (H : Hp) (vs : List V) (Q : VK) (E : XK), Room k (Ar.deeper (envOfC qual (defScope st) s.heap.objs.size f cdv)) → sp vs H Q E →
      ∃ t, PSs (cxOf (L2N.CX P w) P w K mg base N qual (defScope st) f cdv Ar outer s H E) (defBody st) t ∧ t { nx := fun _ H' => Q .non H', rt := Q } (L2.start N vs) H) : FnOk P w K mg base (L2N.CX P w) (k + 1) f fd ps sp := by
  obtain ⟨oc, od, kV, doc, pm, an, cdv, ct, osl, rfl, lk, hcd⟩ := F.ex
  exact fn_of lk hcd sc len fun Ar outer s H vs Q E hr h => body cdv Ar outer s H vs Q E hr h
/-- THE RULE for a def: its body keeps the promise S -/
theorem fn_ok {x qual : Str} {st : Stmt} {f : Addr} {fd : FuncData} {N ps : List Str} {k : Nat} {S : List D → Res → Prop} (F : Fun K x qual st f fd) (sc : FnScope N ps (defScope st)) (len : ∀ ds r, S ds r → ds.length = ps.length)
    (body : ∀ (cdv : Value) (Ar : Around) (outer : List Env) (s : Shared) (H : Hp) (E : XK), Room k (Ar.deeper (envOfC qual (defScope st) s.heap.objs.size f cdv)) → ∀ ds r, S ds r →
      DS (cxOf (L2N.CX P w) P w K mg base N qual (defScope st) f cdv Ar outer s H E) (startC N ds) (defBody st) (AD.ret r)) : FnOk P w K mg base (L2N.CX P w) (k + 1) f fd ps (spF K S) := by
  refine okN F sc (fun vs H Q E ⟨Hs, ds, r, e, al, hs, _⟩ => by rw [al.len]; exact len ds r hs) (fun cdv Ar outer s H vs Q E hr ⟨Hs, ds, r, e, al, hs, hw⟩ => ⟨_, pss_w, ⟨fun pins s' I => ?_⟩⟩)
  have tk : L2N.Takes (cxOf (L2N.CX P w) P w K mg base N qual (defScope st) f cdv Ar outer s H E) (AD.W K Hs H Hs (AD.ret r).ex) := (L2N.takes_of (X := cxOf (L2N.CX P w) P w K mg base N qual (defScope st) f cdv Ar outer s H E) (E := E) rfl rfl rfl rfl).imp fun cls d σ H' ⟨C, fs, G, Hd, e1, e2, e3, e4⟩ => by
    subst e1
    have e2' : r = .exc C fs := e2
    subst e2'
    exact hw d H' (e4.is e3.e)
  refine thn (body cdv Ar outer s H E hr ds r hs Hs H Hs tk _ Hs H (start_R e al) pins s' I) fun fl s2 q => ?_
  cases fl with
  | next =>
    obtain ⟨σ', H', I', Γ', Hd', r', q'⟩ := q
    have q2 : r = .ok (.val .none) := q'
    subst q2
    exact ⟨σ', H', I', hw .non H' ⟨Hd', r'.e, .non⟩⟩
  | ret v =>
    obtain ⟨v', σ', H', I', rv, o, q1, q2⟩ := q
    have q3 : r = .ok o := q1
    subst q3
    exact ⟨v', σ', H', I', rv, hw v' H' q2⟩
  | brk =>
    obtain ⟨_, _, _, _, _, _, z⟩ := q
    exact z.elim
  | cont =>
    obtain ⟨_, _, _, _, _, _, z⟩ := q
    exact z.elim
/-- a def that stands at the top by the name x, all parameters written -/
structure Has (P : Program) (w : World) (K : PySem.W.Frag) (mg : Str → Option Value) (base : Heap) (x : Str) (k : Nat) (S : List D → Res → Prop) : Prop where
  ok : ∃ f fd ps, FnOk P w K mg base (L2N.CX P w) k f fd ps (spF K S) ∧ mg x = some (.ref f) ∧ PySem.W.keepIn K (.ref f) = true ∧ Binds K fd ps []
end
section
variable {X : Cx} {Γ : List Cell} {e : Expr} {es : List Expr} {d : D} {ds rs : List D} {k : Nat} {x : Str} {S : List D → Res → Prop} {pos p : Pos}
theorem OutIs.stp {K : PySem.W.Frag} {Hs H0 : Hp} {o : Out} {v : V} {H : Hp} (h : OutIs K Hs H0 o v H) : ∃ Hd, Stp Hs H0 Hd H := by
  cases o with
  | val d => exact ⟨h.choose, h.choose_spec.1⟩
  | newL ds => obtain ⟨Hd, l, vs, _, s, _⟩ := h; exact ⟨Hd, s⟩
  | newM ds => obtain ⟨Hd, l, vs, _, s, _⟩ := h; exact ⟨Hd, s⟩
  | any P => obtain ⟨Hd, d, _, s, _⟩ := h; exact ⟨Hd, s⟩
  | anyL P => obtain ⟨Hd, l, vs, ds, _, _, s, _⟩ := h; exact ⟨Hd, s⟩
  | anyM P => obtain ⟨Hd, l, vs, ds, _, _, s, _⟩ := h; exact ⟨Hd, s⟩
  | newLL ds es => obtain ⟨Hd, t, l, m, vs, ws, _, s, _⟩ := h; exact ⟨Hd, s⟩
  | newLD ds x => obtain ⟨Hd, t, l, u, vs, _, s, _⟩ := h; exact ⟨Hd, s⟩
  | newMu tp dss => obtain ⟨Hd, as, s, _⟩ := h; exact ⟨Hd, s⟩
  | newTf ds => obtain ⟨Hd, l, o, vs, _, s, _⟩ := h; exact ⟨Hd, s⟩
theorem call_core (h : Has X.prog X.w X.K X.mg X.base x k S) (hr : Room k X.A) (hg : Gl X x) (ha : DA X Γ (e :: es) ds) {o : Out} (hs : S ds (.ok o)) (hdb : (x == ("__debug__" : Str)) = false) (he : starEach (e :: es) X.env = (false, eval e X.env) :: starEach es X.env)
    (hpl : (backTo pos (starEach es X.env)).any (·.1) = false) {σ : St} {Hd H : Hp} {Q : VK} (r : Rl X.K Γ σ Hd H) (q : ∀ v Hd1 H1 H2, Stp Hd H Hd1 H1 → OutIs X.K Hd1 H1 o v H2 → Q v H2) : wE X (.Call (.Name x p) (e :: es) [] pos) σ H Q := by
  obtain ⟨f, fd, ps, F, hm, hk, hb⟩ := h.ok
  refine wE_of (pe_call F hr hg hm hk hb .nil passN pa_w hdb he hpl) (ha σ Hd H _ r fun vs Hd1 H1 s1 i1 => ?_)
  rw [List.append_nil]
  exact ⟨Hd1, ds, .ok o, s1.s, i1, hs, fun v H2 w => q v Hd1 H1 H2 s1 w⟩
/-- f(..): data -/
theorem de_call (h : Has X.prog X.w X.K X.mg X.base x k S) (hr : Room k X.A) (hg : Gl X x) (ha : DA X Γ (e :: es) ds) (hs : S ds (.ok (.val d))) (hdb : (x == ("__debug__" : Str)) = false := by decide)
    (he : starEach (e :: es) X.env = (false, eval e X.env) :: starEach es X.env := by rfl) (hpl : (backTo pos (starEach es X.env)).any (·.1) = false := by rfl) : DE X Γ (.Call (.Name x p) (e :: es) [] pos) d := fun σ Hd H Q r k =>
  call_core h hr hg ha hs hdb he hpl r fun v Hd1 H1 H2 s1 ⟨Hd2, s2, i2⟩ => k v Hd2 H2 (s1.trans s2) i2
/-- f(..): a new list -/
theorem dn_call (h : Has X.prog X.w X.K X.mg X.base x k S) (hr : Room k X.A) (hg : Gl X x) (ha : DA X Γ (e :: es) ds) (hs : S ds (.ok (.newL rs))) (hdb : (x == ("__debug__" : Str)) = false := by decide)
    (he : starEach (e :: es) X.env = (false, eval e X.env) :: starEach es X.env := by rfl) (hpl : (backTo pos (starEach es X.env)).any (·.1) = false := by rfl) : DN X Γ (.Call (.Name x p) (e :: es) [] pos) rs := fun σ Hd H Q r k =>
  call_core h hr hg ha hs hdb he hpl r fun v Hd1 H1 H2 s1 ⟨Hd2, l, vs, e1, s2, h0, hd, h1, i2⟩ => by
    subst e1
    exact k l vs Hd2 H2 (s1.trans s2) (ex_none s1.h h0) hd h1 i2
theorem dm_call {rs : List (D × D)} (h : Has X.prog X.w X.K X.mg X.base x k S) (hr : Room k X.A) (hg : Gl X x) (ha : DA X Γ (e :: es) ds) (hs : S ds (.ok (.newM rs))) (hdb : (x == ("__debug__" : Str)) = false := by decide)
    (he : starEach (e :: es) X.env = (false, eval e X.env) :: starEach es X.env := by rfl) (hpl : (backTo pos (starEach es X.env)).any (·.1) = false := by rfl) : DM X Γ (.Call (.Name x p) (e :: es) [] pos) rs := fun σ Hd H Q r k =>
  call_core h hr hg ha hs hdb he hpl r fun v Hd1 H1 H2 s1 ⟨Hd2, l, vs, e1, s2, h0, hd, h1, i2⟩ => by
    subst e1
    exact k l vs Hd2 H2 (s1.trans s2) (ex_none s1.h h0) hd h1 i2
/-- the law's own promise -/
theorem Has.mono {P : Program} {w : World} {K : PySem.W.Frag} {mg : Str → Option Value} {base : Heap} {j k : Nat} (h : Has P w K mg base x j S) (le : j ≤ k) : Has P w K mg base x k S := by
  obtain ⟨f, fd, ps, F, a, b, c⟩ := h.ok
  exact ⟨f, fd, ps, F.mono le, a, b, c⟩
/-- a module's constant -/
theorem de_glob {u : Value} {v : V} (hg : Gl X x) (hm : X.mg x = some u) (r : RelV v u) (q : ∀ Hd, Is X.K Hd v d) (hd : (x == ("__debug__" : Str)) = false := by decide) : DE X Γ (.Name x p) d := de_c (pe_glob hg hm r hd) q
end
end Hf

namespace Hf
open PySem PySem.Spec PyProof.Rows L2
open Evl (Ex)
section
variable {X : Cx} {Γ : List Cell} {A : AD} {rest : List Stmt} {e a b c tg : Expr} {es : List Expr} {d x y : D} {ds xs ys : List D} {i j n : Int} {pos p : Pos}
/-- a constant of the module -/
structure Kst (K : PySem.W.Frag) (mg : Str → Option Value) (x : Str) (d : D) : Prop where
  ok : ∃ v u, mg x = some u ∧ RelV v u ∧ ∀ Hd, Is K Hd v d
theorem Kst.de {x : Str} (k : Kst X.K X.mg x d) (hg : Gl X x) (hd : (x == ("__debug__" : Str)) = false := by decide) : DE X Γ (.Name x p) d := by
  obtain ⟨v, u, h1, h2, h3⟩ := k.ok
  exact de_glob hg h1 h2 h3 hd
/-- a written power -/
theorem de_powN (ha : DE X Γ a (.int i)) (hb : DE X Γ b (.int j)) (hc : CPow i j) (h : i ^ j.toNat = n) : DE X Γ (.BinOp a .Pow b pos) (.int n) := h ▸ de_pow ha hb hc
theorem de_cat {z w : Str} (ha : DE X Γ a (.str z)) (hb : DE X Γ b (.str w)) (hl : z.length + w.length ≤ 100000) : DE X Γ (.BinOp a .Add b pos) (.str (z ++ w)) :=
  fun σ Hd H Q r k => wE_of (pe_op op_add_str pe_w pe_w) (ha σ Hd H _ r fun v Hd1 H1 s1 i1 => hb σ Hd1 H1 _ (r.stp s1) fun u Hd2 H2 s2 i2 => by
    cases i1; cases i2
    exact ⟨z, w, rfl, rfl, Evl.sz_of hl, k _ Hd2 H2 (s1.trans s2) (.str _)⟩)
theorem de_catT (ha : DE X Γ a (.tuple xs)) (hb : DE X Γ b (.tuple ys)) (hl : xs.length + ys.length ≤ 1000) : DE X Γ (.BinOp a .Add b pos) (.tuple (xs ++ ys)) :=
  fun σ Hd H Q r k => wE_of (pe_op op_catA pe_w pe_w) (ha σ Hd H _ r fun v Hd1 H1 s1 i1 => hb σ Hd1 H1 _ (r.stp s1) fun u Hd2 H2 s2 i2 => by
    cases i1 with
    | tup t1 a1 =>
      cases i2 with
      | tup t2 a2 =>
        refine ⟨_, _, _, _, rfl, rfl, Evl.ex_t (s2.d.trans s2.s) t1, Evl.ex_t s2.s t2, by rw [a1.len, a2.len]; exact Nat.le_of_lt (small1000 hl), fun h1 => ?_, fun h1 h2 => ?_, fun h1 h2 p hp => ?_⟩
        · have : xs = [] := by
            have := a1.len; rw [h1] at this; exact List.eq_nil_of_length_eq_zero this.symm
          subst this
          exact k _ Hd2 H2 (s1.trans s2) (.tup t2 a2)
        · have : ys = [] := by
            have := a2.len; rw [h2] at this; exact List.eq_nil_of_length_eq_zero this.symm
          subst this
          rw [List.append_nil] at k
          exact k _ Hd2 H2 (s1.trans s2) (.tup (Evl.ex_t s2.d t1) (a1.mono s2.d))
        · exact k _ _ _ ((s1.trans s2).trans (Stp.newD s2.s hp)) (.tup (.inl (.inl upd_same)) (((a1.mono s2.d).app a2).mono (Ex.new (ex_none s2.s hp)))))
def tyS : D → String
  | .none => "NoneType"
  | .bool _ => "bool"
  | .int _ => "int"
  | .str _ => "str"
  | .list _ => "list"
  | .tuple _ => "tuple"
  | .dict _ => "dict"
def noDict : D → Bool
  | .dict _ => false
  | _ => true
theorem Is.tyx {K : PySem.W.Frag} {H : Hp} {v : V} {d : D} (h : Is K H v d) (nd : noDict d = true) : TyX K H v (.type (tyS d)) := by
  cases h with
  | non => exact .base .non
  | bl b => exact .base (.bl b)
  | int i => exact .base (.int i)
  | str x => exact .base (.str x)
  | lst s al =>
    rcases s with s | ⟨o, its, n, h1, h2, _⟩
    · rcases s with s | ⟨o, s⟩
      · exact .base (.lst s)
      · exact .base (.frz s)
    · exact .kList h1 h2
  | tup s al =>
    rcases s with s | ⟨o, its, n, h1, h2, _⟩
    · rcases s with s | ⟨o, s⟩
      · exact .base (.tup s)
      · exact .fTuple s
    · exact .kTuple h1 h2
  | dic _ _ => cases nd
  | obj _ => cases nd
  | ptr _ => cases nd
  | exc _ _ => cases nd
theorem de_isi {T : Str} {S : String} {m : Bool} (hg : Gl X "isinstance") (hm : NoMg X "isinstance") (hgT : Gl X T) (hmT : X.mg T = none) (hvT : bootBuiltins T = some (.type S)) (ha : DE X Γ a d) (hk : kitB (tyS d) S = some m ∧ noDict d = true) (hnT : T ≠ "__name__" := by decide) (hdT : (T == ("__debug__" : Str)) = false := by decide)
    (hs : starEach [a, .Name T p] X.env = (false, eval a X.env) :: starEach [.Name T p] X.env := by rfl) (hs2 : starEach [.Name T p] X.env = (false, eval (.Name T p) X.env) :: starEach [] X.env := by rfl) (hpl : (backTo pos (starEach [.Name T p] X.env)).any (·.1) = false := by rfl) {p2 : Pos} :
    DE X Γ (.Call (.Name "isinstance" p2) [a, .Name T p] [] pos) (.bool m) := fun σ Hd H Q r k =>
  wE_of (pe_callB call_isi hg hm (by decide +kernel) (pa_cons pe_w (pa_cons (pe_bltn (v := .ty S) hgT hmT hvT rfl hnT hdT) pa_nil hs2) hs) (by decide) (by decide) hs hpl) (ha σ Hd H _ r fun v Hd1 H1 s1 i1 =>
    ⟨v, .ty S, .type (tyS d), .type S, m, rfl, .ty S, (i1.mono s1.s).tyx hk.2, kit_ty hk.1, k _ Hd1 H1 s1 (.bl _)⟩)
/-- all of a list of bools -/
theorem IsAll.toBls {K : PySem.W.Frag} {H : Hp} : ∀ {vs : List V} {bs : List Bool}, IsAll K H vs (bs.map PyData.bool) → vs = bs.map V.bl
  | _, [], .nil => rfl
  | _, n :: ns, .cons a b => by cases a; rw [IsAll.toBls b]; rfl
theorem de_all {bs : List Bool} (hc : X.calm = true) (hg : Gl X "all") (hm : NoMg X "all") (ha : DE X Γ a (.list (bs.map PyData.bool))) (hs : starEach [a] X.env = (false, eval a X.env) :: starEach [] X.env := by rfl) : DE X Γ (.Call (.Name "all" p) [a] [] pos) (.bool (bs.all id)) :=
  de_B (cr_all hc) hg hm (by decide +kernel) (da_cons ha da_nil hs) (hn := by decide) (hdb := by decide) (he := hs) (hpl := rfl) (hr := fun vs Hd H Q s h k => by
    obtain ⟨v, rfl, i⟩ := all1 h
    cases i with | lst t al =>
      rw [al.toBls] at t
      exact ⟨_, bs, rfl, Evl.ex_l s t, k _ Hd H (Stp.refl s) (.bl _)⟩)
/-- the signs of a text -/
def signs (z : Str) : List D := z.cps.toList.map fun c => .str ⟨#[c]⟩
theorem di_str {z : Str} (h : DE X Γ e (.str z)) : DI X Γ tg e (signs z) := ⟨_, pi_str pe_w, fun σ Hd H Q r k => h σ Hd H _ r fun v Hd1 H1 s1 i1 => by
  cases i1
  refine ⟨z, rfl, k _ Hd1 H1 s1 <| itok fun i Hd2 H2 e1 e2 => ⟨fun d hd => ?_, fun hn => ?_⟩⟩
  · unfold signs at hd
    rw [List.getElem?_map] at hd
    obtain ⟨c, hc, rfl⟩ := Option.map_eq_some_iff.mp hd
    have hc' : z.cps[i]? = some c := by rw [← Array.getElem?_toList]; exact hc
    refine ⟨?_, fun y H3 hy => ?_⟩
    · exact (Array.getElem?_eq_some_iff.mp hc').1
    · obtain ⟨rfl, c', h1, rfl⟩ := hy
      rw [hc'] at h1; cases h1
      exact ⟨Hd2, Stp.refl e2, .str _⟩
  · have := List.getElem?_eq_none_iff.mp hn
    unfold signs at this
    show z.cps.size ≤ i
    simpa using this⟩
theorem di_zipL {elts : List Expr} {kk : Nat} {tpos : Pos} (hg : Gl X "zip") (hm : NoMg X "zip") (ha : DE X Γ a (.list xs)) (hb : DE X Γ b (.list ys))
    (hs : starEach [a, b] X.env = (false, eval a X.env) :: starEach [b] X.env := by rfl) (hs2 : starEach [b] X.env = (false, eval b X.env) :: starEach [] X.env := by rfl) (hpl : (backTo pos (starEach [b] X.env)).any (·.1) = false := by rfl) :
    DI X Γ (.Tuple elts kk tpos) (.Call (.Name "zip" p) [a, b] [] pos) ((xs.zip ys).map fun q => .tuple [q.1, q.2]) :=
  ⟨_, RZ.pi_zipA hg hm pa_w hs hpl, fun σ Hd H Q r k => da_cons ha (da_cons hb da_nil hs2) hs σ Hd H _ r fun vs Hd1 H1 s1 i1 => by
    obtain ⟨v, v', rfl, iv, iw⟩ := all2 i1
    cases iv with
    | lst t1 a1 =>
      cases iw with
      | lst t2 a2 =>
        refine ⟨_, _, _, _, rfl, .inl ⟨Evl.ex_l s1.s t1, Evl.ex_l s1.s t2, k _ Hd1 H1 s1 <| itok fun i Hd2 H2 e1 e2 => ⟨fun d hd => ?_, fun hn => ?_⟩⟩⟩
        · rw [List.getElem?_map] at hd
          obtain ⟨⟨x, y⟩, hxy, rfl⟩ := Option.map_eq_some_iff.mp hd
          obtain ⟨hx, hy⟩ := List.getElem?_zip_eq_some.mp hxy
          obtain ⟨u1, g1, g2⟩ := a1.get hx
          obtain ⟨u2, g3, g4⟩ := a2.get hy
          refine ⟨⟨_, _, u1, u2, Evl.ex_l (e1.trans e2) t1, Evl.ex_l (e1.trans e2) t2, g1, g3⟩, fun z H3 hz => ?_⟩
          obtain ⟨T, x', y', rfl, hT, rfl, f1, f2⟩ := hz
          have z1 := f1 _ (Evl.ex_l (e1.trans e2) t1)
          have z2 := f2 _ (Evl.ex_l (e1.trans e2) t2)
          rw [g1] at z1; rw [g3] at z2; cases z1; cases z2
          have m := e1.trans (Ex.new (o := .tup [u1, u2]) (ex_none e2 hT))
          exact ⟨upd Hd2 T _, Stp.newD e2 hT, .tup (.inl (.inl upd_same)) (.cons (g2.mono m) (.cons (g4.mono m) .nil))⟩
        · refine ⟨_, _, Evl.ex_l (e1.trans e2) t1, Evl.ex_l (e1.trans e2) t2, ?_⟩
          rw [a1.len, a2.len]
          have := List.getElem?_eq_none_iff.mp hn
          simp only [List.length_map, List.length_zip] at this
          omega⟩
theorem di_zipT {elts : List Expr} {kk : Nat} {tpos : Pos} (hg : Gl X "zip") (hm : NoMg X "zip") (ha : DE X Γ a (.tuple xs)) (hb : DE X Γ b (.tuple ys))
    (hs : starEach [a, b] X.env = (false, eval a X.env) :: starEach [b] X.env := by rfl) (hs2 : starEach [b] X.env = (false, eval b X.env) :: starEach [] X.env := by rfl) (hpl : (backTo pos (starEach [b] X.env)).any (·.1) = false := by rfl) :
    DI X Γ (.Tuple elts kk tpos) (.Call (.Name "zip" p) [a, b] [] pos) ((xs.zip ys).map fun q => .tuple [q.1, q.2]) :=
  ⟨_, RZ.pi_zipA hg hm pa_w hs hpl, fun σ Hd H Q r k => da_cons ha (da_cons hb da_nil hs2) hs σ Hd H _ r fun vs Hd1 H1 s1 i1 => by
    obtain ⟨v, v', rfl, iv, iw⟩ := all2 i1
    cases iv with
    | tup t1 a1 =>
      cases iw with
      | tup t2 a2 =>
        refine ⟨_, _, _, _, rfl, .inr ⟨Evl.ex_t s1.s t1, Evl.ex_t s1.s t2, k _ Hd1 H1 s1 <| itok fun i Hd2 H2 e1 e2 => ⟨fun d hd => ?_, fun hn => ?_⟩⟩⟩
        · rw [List.getElem?_map] at hd
          obtain ⟨⟨x, y⟩, hxy, rfl⟩ := Option.map_eq_some_iff.mp hd
          obtain ⟨hx, hy⟩ := List.getElem?_zip_eq_some.mp hxy
          obtain ⟨u1, g1, g2⟩ := a1.get hx
          obtain ⟨u2, g3, g4⟩ := a2.get hy
          refine ⟨⟨_, _, u1, u2, Evl.ex_t (e1.trans e2) t1, Evl.ex_t (e1.trans e2) t2, g1, g3⟩, fun z H3 hz => ?_⟩
          obtain ⟨T, x', y', rfl, hT, rfl, f1, f2⟩ := hz
          have z1 := f1 _ (Evl.ex_t (e1.trans e2) t1)
          have z2 := f2 _ (Evl.ex_t (e1.trans e2) t2)
          rw [g1] at z1; rw [g3] at z2; cases z1; cases z2
          have m := e1.trans (Ex.new (o := .tup [u1, u2]) (ex_none e2 hT))
          exact ⟨upd Hd2 T _, Stp.newD e2 hT, .tup (.inl (.inl upd_same)) (.cons (g2.mono m) (.cons (g4.mono m) .nil))⟩
        · refine ⟨_, _, Evl.ex_t (e1.trans e2) t1, Evl.ex_t (e1.trans e2) t2, ?_⟩
          rw [a1.len, a2.len]
          have := List.getElem?_eq_none_iff.mp hn
          simp only [List.length_map, List.length_zip] at this
          omega⟩
end
end Hf

namespace Hf
open PySem PySem.Spec PyProof.Rows L2
open Evl (Ex)
open PySem.Sem (wp)
inductive Src where
  | l (a : Addr) | t (a : Addr) | s (x : Str)
def sgs (x : Str) : List V := x.cps.toList.map fun c => .str ⟨#[c]⟩
def Src.At (K : PySem.W.Frag) (H : Hp) : Src → List V → Prop
  | .l a, xs => SqL K H a xs
  | .t a, xs => SqT K H a xs
  | .s x, xs => xs = sgs x
def Src.It : Src → Tok → Addr → Nat → Heap → Prop
  | .l a, _, it, i, h => h.IsListIter it a i
  | .t a, _, it, i, h => h.IsTupleIter it a i
  | .s x, k, it, i, h => h.IsStrIter it (strIterType x) x k i
def Src.v : Src → L2.V
  | .l a => .ref a
  | .t a => .ref a
  | .s x => .str x
def Src.val : Src → Tok → Value
  | .l a, _ => .ref a
  | .t a, _ => .ref a
  | .s x, k => .str x k
def Src.obj : Src → Tok → Obj
  | .l a, _ => { cls := .type "list_iterator", data := .fields #[.ref a, .int 0 0] }
  | .t a, _ => { cls := .type "tuple_iterator", data := .fields #[.ref a, .int 0 0] }
  | .s x, k => { cls := .type (strIterType x), data := .fields #[.str x k, .int 0 0] }
theorem Src.It.ob {src : Src} {t : Tok} {it : Addr} {i : Nat} {h : Heap} (q : src.It t it i h) : ∃ o, h.get? it = some o ∧ ∀ v, o.data ≠ .cell v := by
  cases src <;> · obtain ⟨o, e, _, d⟩ := q; exact ⟨o, e, fun v z => by rw [d] at z; cases z⟩
theorem Src.It.move {src : Src} {t : Tok} {it : Addr} {i : Nat} {h h' : Heap} (q : src.It t it i h) (k : ∀ o, h.get? it = some o → h'.get? it = some o) : src.It t it i h' := by
  cases src <;> · obtain ⟨o, e, r⟩ := q; exact ⟨o, k o e, r⟩
theorem Src.It.zero {src : Src} {t : Tok} {it : Addr} {h : Heap} (e : h.get? it = some (src.obj t)) : src.It t it 0 h := by
  cases src <;> exact ⟨_, e, rfl, rfl⟩
theorem Src.rel {src : Src} {u : Value} (r : RelV src.v u) : ∃ t, u = src.val t := by
  cases src with
  | l a => cases r; exact ⟨0, rfl⟩
  | t a => cases r; exact ⟨0, rfl⟩
  | s x => obtain ⟨t, rfl⟩ := r; exact ⟨t, rfl⟩
/-- what its iterator draws, as it stands -/
structure Drw (X : Cx) (pins : List (Addr × Obj)) (s : Shared) (H : Hp) (src : Src) (t : Tok) (it : Addr) (xs : List V) (fp : List Addr) (P : Nat → Value → Prop) (St : Nat → Heap → Prop) : Prop where
  D : Draws X.prog X.w X.A.in1 it fp xs.length P St
  val : ∀ i v, P i v → ∃ x, xs[i]? = some x ∧ RelV x v
  st : ∀ i, src.It t it i s.heap → St i s.heap
  fro : ∀ i h, St i h → src.It t it i h
  mem : it ∈ fp
  out : ∀ e, e ≠ it → FpOk X pins H e → e ∉ fp
section
variable {X : Cx} {pins : List (Addr × Obj)} {σ : L2.St} {H : Hp} {s : Shared} {xs : List V} {src : Src} {tk : Tok} {it : Addr}
theorem at_ne {a b : Addr} (I : Inv X pins σ H s) (hf : FpOk X pins H b) (h : SqL X.K H a xs ∨ SqT X.K H a xs) : a ≠ b := by
  rintro rfl
  have rd : ∀ {u : HO}, Rd H a u → False := fun r => by
    rcases r with r | ⟨_, r⟩ <;> · rw [hf.1] at r; cases r
  have kk : ∀ o, X.K.lookup a = some o → False := fun o hk => by
    have e := I.mod.kin a o hk
    rcases hf.2.2.2.1 with z | z
    · exact I.ok.noex _ _ e z
    · exact absurd (Heap.lt_size (I.ok.bs _ _ e).1) (Nat.not_lt.mpr z)
  rcases h with h | h
  · rcases h with h | ⟨o, _, _, hk, _⟩
    · exact rd h
    · exact kk o hk
  · rcases h with h | ⟨o, _, _, hk, _⟩
    · exact rd h
    · exact kk o hk
theorem vals_get {us : List Value} (r : Vals xs us) {i : Nat} {v : Value} (h : us.toArray[i]? = some v) : ∃ x, xs[i]? = some x ∧ RelV x v := by
  have e : us[i]? = some v := by simpa using h
  have hi : i < xs.length := by
    have := r.length
    have := (List.getElem?_eq_some_iff.mp e).1
    omega
  obtain ⟨u, hu, ru⟩ := r.get (List.getElem?_eq_getElem hi)
  rw [e] at hu
  cases hu
  exact ⟨_, List.getElem?_eq_getElem hi, ru⟩
theorem Src.draws (I : Inv X pins σ H s) (hc : X.calm = true) (h : src.At X.K H xs) (hf : FpOk X pins H it) : ∃ fp P St, Drw X pins s H src tk it xs fp P St := by
  have hh : X.A.in1.handled = none := I.ok.hd hc
  cases src with
  | l a =>
    obtain ⟨its, rv, p, _⟩ := I.list h
    have hne := at_ne I hf (.inl h)
    have D := Draws.list (prog := X.prog) (w := X.w) hh it a hne its.toArray
    have hl : its.toArray.size = xs.length := by have := rv.length; simp; omega
    rw [hl] at D
    exact ⟨_, _, _, D, fun i v q => vals_get rv q, fun i q => ⟨q, p.isList⟩, fun i h q => q.1, by simp, fun e he hfe => by simp only [List.mem_cons, List.not_mem_nil, or_false, not_or]; exact ⟨he, fun z => at_ne I hfe (.inl h) z.symm⟩⟩
  | t a =>
    obtain ⟨its, rv, p, _⟩ := I.tuple h
    have hne := at_ne I hf (.inr h)
    have D := Draws.tuple (prog := X.prog) (w := X.w) hh it a hne its.toArray
    have hl : its.toArray.size = xs.length := by have := rv.length; simp; omega
    rw [hl] at D
    exact ⟨_, _, _, D, fun i v q => vals_get rv q, fun i q => ⟨q, p⟩, fun i h q => q.1, by simp, fun e he hfe => by simp only [List.mem_cons, List.not_mem_nil, or_false, not_or]; exact ⟨he, fun z => at_ne I hfe (.inr h) z.symm⟩⟩
  | s x =>
    have D := Draws.text (prog := X.prog) (w := X.w) hh it x tk
    have e : xs = sgs x := h
    have hl : x.cps.size = xs.length := by rw [e]; unfold sgs; simp
    rw [hl] at D
    refine ⟨_, _, _, D, fun i v q => ?_, fun i q => q, fun i h q => q, by simp, fun e he hfe => by simpa using he⟩
    obtain ⟨c, u, hx, rfl⟩ := q
    refine ⟨.str ⟨#[c]⟩, ?_, u, rfl⟩
    rw [e]; unfold sgs
    rw [List.getElem?_map]
    have : x.cps.toList[i]? = some c := by simpa using hx
    rw [this]; rfl
end
def ItE (K : PySem.W.Frag) (src : Src) : L2.It :=
  ⟨fun i H => ∃ xs x, src.At K H xs ∧ xs[i]? = some x,
   fun i H v H' => ∃ T x, v = .ref T ∧ H T = none ∧ H' = upd H T (.tup [.int (i : Nat), x]) ∧ ∀ xs, src.At K H xs → xs[i]? = some x,
   fun i H => ∃ xs, src.At K H xs ∧ i = xs.length⟩
theorem at_inj {K : PySem.W.Frag} {H : Hp} {src : Src} {xs ys : List V} {X : Cx} {pins : List (Addr × Obj)} {σ : L2.St} {s : Shared} (I : Inv X pins σ H s) (hK : X.K = K) (h1 : src.At K H xs) (h2 : src.At K H ys) : xs = ys := by
  subst hK
  cases src with
  | l a => exact I.list_inj h1 h2
  | t a => exact I.tuple_inj h1 h2
  | s x => exact h1.trans h2.symm
section
variable {P : Program} {w : World} {K : PySem.W.Frag} {elts : List Expr} {kk : Nat} {tpos : Pos} {src src2 : Src} {tk tk2 : Tok}
theorem new_pair {X : Cx} {H : Hp} {h : Heap} {T : Addr} {x y : V} {u v : Value} (r1 : RelV x u) (r2 : RelV y v) (hT : h.IsTuple T #[u, v]) : ObjOk X.prog X.w (upd H T (.tup [x, y])) h T (.tup [x, y]) :=
  ⟨by show 2 ≤ sizeLine; decide, [u, v], .cons r1 (.cons r2 .nil), hT⟩
theorem turn_enumS (e it : Addr) :
    Turn P w K (.Tuple elts kk tpos) (ItE K src) [e, it] e (fun i h => (∃ old, IsEnum h e it ((i : Nat) : Int) old) ∧ src.It tk it i h ∧ e ≠ it) where
  mem := by simp
  obj := fun i h st b hb => by
    obtain ⟨⟨old, he⟩, hi, _⟩ := st
    rcases List.mem_cons.mp hb with rfl | hb
    · exact ⟨_, he, fun v q => nomatch q⟩
    · rw [List.mem_singleton.mp hb]; exact hi.ob
  keep := fun i h h' st k => let ⟨⟨old, he⟩, hi, hne⟩ := st; ⟨⟨old, k e (by simp) _ he⟩, hi.move fun o q => k it (by simp) o q, hne⟩
  item := by
    intro X hP hw hK hc i pins s σ H E I hf st hg
    subst hP hw hK
    obtain ⟨⟨old, he⟩, hit, hne⟩ := st
    obtain ⟨xs, x, hq, hx⟩ := hg
    have fe := hf e (by simp)
    have fi := hf it (by simp)
    obtain ⟨fp, Pd, St, d⟩ := Src.draws (tk := tk) I hc hq fi
    have W := WalksT.enumerateD d.D e hne (d.out e hne fe) d.mem
    have hi : i < xs.length := (List.getElem?_eq_some_iff.mp hx).1
    refine W.item i s _ _ hi ⟨⟨old, he⟩, d.st i hit⟩ fun T vals h' k' hp hT hTu hm hk => ?_
    refine ⟨_, rfl, W.go elts kk tpos i T { s with heap := h', toks := k' } _ _ hm fun h'' st' hk' => ?_⟩
    obtain ⟨t0, v, hp, rfl⟩ := hp
    obtain ⟨y, hy, ry⟩ := d.val i v hp
    rw [hx] at hy
    cases hy
    have hTn := W.apart i T h' hm
    have hT2 : h''.IsTuple T #[.int i t0, v] := hTu.at fun o q => hk' T o hTn q
    have lt : ∀ b, b = e ∨ b = it → b < s.heap.objs.size := fun b hb => by
      rcases hb with rfl | rfl
      · exact Heap.lt_size he
      · obtain ⟨_, q, _⟩ := hit.ob; exact Heap.lt_size q
    have I1 : Inv X pins σ (upd H T (.tup [.int (i : Nat), x])) { s with heap := h'', toks := k' } :=
      I.turnedNew (ch := [e, it]) (fun b ob hb q => hk' b ob hb (hk b ob hb q)) hf hT (new_pair ⟨_, rfl⟩ ry hT2)
    refine ⟨.ref T, _, I1, rfl, ⟨T, x, rfl, I.hok.fresh hT, rfl, fun ys hy => by rw [at_inj I rfl hy hq]; exact hx⟩, ⟨st'.1, d.fro _ _ st'.2, hne⟩, fun b hb => ?_⟩
    have hb' := lt b (by simpa using hb)
    rw [upd_ne (Nat.ne_of_lt (Nat.lt_of_lt_of_le hb' hT))]
    exact (hf b hb).1
  done := by
    intro X hP hw hK hc i pins s σ H E I hf st hg
    subst hP hw hK
    obtain ⟨⟨old, he⟩, hit, hne⟩ := st
    obtain ⟨xs, hq, rfl⟩ := hg
    have fe := hf e (by simp)
    obtain ⟨fp, Pd, St, d⟩ := Src.draws (tk := tk) I hc hq (hf it (by simp))
    have W := WalksT.enumerateD d.D e hne (d.out e hne fe) d.mem
    exact W.done s _ _ ⟨⟨old, he⟩, d.st _ hit⟩ fun h' k' hk => ⟨rfl, I.turnedL (ch := [e, it]) (fun b o hb q => hk b o hb q) hf⟩
  self := fun A i s Q E st h => let ⟨⟨_, he⟩, _⟩ := st; wpAny_pyIter_enum he h
def ItZ (K : PySem.W.Frag) (src src2 : Src) : L2.It :=
  ⟨fun i H => ∃ xs ys x y, src.At K H xs ∧ src2.At K H ys ∧ xs[i]? = some x ∧ ys[i]? = some y,
   fun i H v H' => ∃ T x y, v = .ref T ∧ H T = none ∧ H' = upd H T (.tup [x, y]) ∧ (∀ xs, src.At K H xs → xs[i]? = some x) ∧ ∀ ys, src2.At K H ys → ys[i]? = some y,
   fun i H => ∃ xs ys, src.At K H xs ∧ src2.At K H ys ∧ i = min xs.length ys.length⟩
theorem turn_zipS {z TI TO i1 i2 : Addr} (n1 : TI ≠ z) (n2 : TO ≠ z) (n3 : TI ≠ TO) (n4 : TI ≠ i1) (n5 : TI ≠ i2) (n6 : i1 ≠ z) (n7 : i2 ≠ z) (n8 : TO ≠ i1) (n9 : TO ≠ i2) (n0 : i1 ≠ i2) :
    Turn P w K (.Tuple elts kk tpos) (ItZ K src src2) [z, TI, TO, i1, i2] z (fun i h => IsZip h z TI TO .none ∧ IsTupOf2 h TI (.ref i1) (.ref i2) ∧ (∃ x y, IsTupOf2 h TO x y) ∧ src.It tk i1 i h ∧ src2.It tk2 i2 i h) where
  mem := by simp
  obj := fun i h st c hc => by
    obtain ⟨hz, hTI, ⟨x, y, hTO⟩, h1, h2⟩ := st
    have e' : c = z ∨ c = TI ∨ c = TO ∨ c = i1 ∨ c = i2 := by simpa using hc
    rcases e' with q | q | q | q | q <;> rw [q]
    · exact ⟨_, hz, fun v q => nomatch q⟩
    · exact ⟨_, hTI, fun v q => nomatch q⟩
    · exact ⟨_, hTO, fun v q => nomatch q⟩
    · exact h1.ob
    · exact h2.ob
  keep := fun i h h' st k => by
    obtain ⟨hz, hTI, ⟨x, y, hTO⟩, h1, h2⟩ := st
    exact ⟨k z (by simp) _ hz, k TI (by simp) _ hTI, ⟨x, y, k TO (by simp) _ hTO⟩, h1.move fun o q => k i1 (by simp) o q, h2.move fun o q => k i2 (by simp) o q⟩
  item := by
    intro X hP hw hK hc i pins s σ H E I hf st hg
    subst hP hw hK
    obtain ⟨hz, hTI, hTO, h1, h2⟩ := st
    obtain ⟨xs, ys, x, y, hqx, hqy, hx, hy⟩ := hg
    obtain ⟨fp1, P1, St1, d1⟩ := Src.draws (tk := tk) I hc hqx (hf i1 (by simp))
    obtain ⟨fp2, P2, St2, d2⟩ := Src.draws (tk := tk2) I hc hqy (hf i2 (by simp))
    have S : ZipSep2 z TI TO i1 i2 fp1 fp2 := ⟨n1, n2, n3, n4, d1.mem, d1.out z n6.symm (hf z (by simp)), d1.out TO n8 (hf TO (by simp)), n5, d2.mem, d2.out z n7.symm (hf z (by simp)), d2.out TO n9 (hf TO (by simp)), d2.out i1 n0 (hf i1 (by simp)), d1.out i2 n0.symm (hf i2 (by simp))⟩
    have W := WalksT.zipD2 S d1.D d2.D
    have hi1 : i < xs.length := (List.getElem?_eq_some_iff.mp hx).1
    have hi2 : i < ys.length := (List.getElem?_eq_some_iff.mp hy).1
    refine W.item i s _ _ (by omega) ⟨hz, hTI, hTO, d1.st i h1, d2.st i h2⟩ fun T vals h' k' hp hT hTu hm hk => ?_
    refine ⟨_, rfl, W.go elts kk tpos i T { s with heap := h', toks := k' } _ _ hm fun h'' st' hk' => ?_⟩
    obtain ⟨v1, v2, hp1, hp2, rfl⟩ := hp
    obtain ⟨x', hx', rx⟩ := d1.val i v1 hp1
    obtain ⟨y', hy', ry⟩ := d2.val i v2 hp2
    rw [hx] at hx'; rw [hy] at hy'
    cases hx'; cases hy'
    have hTn := W.apart i T h' hm
    have hT2 : h''.IsTuple T #[v1, v2] := hTu.at fun o q => hk' T o hTn q
    have sub : ∀ b, b ∉ [z, TI, TO, i1, i2] → b ∉ [z, TO, i1, i2] := fun b hb q => hb (by rcases (by simpa using q : b = z ∨ b = TO ∨ b = i1 ∨ b = i2) with q | q | q | q <;> simp [q])
    have lt : ∀ b ∈ [z, TI, TO, i1, i2], b < s.heap.objs.size := fun b hb => by
      have e' : b = z ∨ b = TI ∨ b = TO ∨ b = i1 ∨ b = i2 := by simpa using hb
      obtain ⟨_, _, hTO'⟩ := hTO
      rcases e' with q | q | q | q | q <;> rw [q]
      · exact Heap.lt_size hz
      · exact Heap.lt_size hTI
      · exact Heap.lt_size hTO'
      · obtain ⟨_, q, _⟩ := h1.ob; exact Heap.lt_size q
      · obtain ⟨_, q, _⟩ := h2.ob; exact Heap.lt_size q
    have I1 : Inv X pins σ (upd H T (.tup [x, y])) { s with heap := h'', toks := k' } :=
      I.turnedNew (ch := [z, TI, TO, i1, i2]) (fun b ob hb q => hk' b ob (sub b hb) (hk b ob (sub b hb) q)) hf hT (new_pair rx ry hT2)
    obtain ⟨a1, a2, a3, a4, a5⟩ := st'
    refine ⟨.ref T, _, I1, rfl, ⟨T, x, y, rfl, I.hok.fresh hT, rfl, fun l hl => by rw [at_inj I rfl hl hqx]; exact hx, fun l hl => by rw [at_inj I rfl hl hqy]; exact hy⟩, ⟨a1, a2, a3, d1.fro _ _ a4, d2.fro _ _ a5⟩, fun b hb => ?_⟩
    rw [upd_ne (Nat.ne_of_lt (Nat.lt_of_lt_of_le (lt b hb) hT))]
    exact (hf b hb).1
  done := by
    intro X hP hw hK hc i pins s σ H E I hf st hg
    subst hP hw hK
    obtain ⟨hz, hTI, hTO, h1, h2⟩ := st
    obtain ⟨xs, ys, hqx, hqy, rfl⟩ := hg
    obtain ⟨fp1, P1, St1, d1⟩ := Src.draws (tk := tk) I hc hqx (hf i1 (by simp))
    obtain ⟨fp2, P2, St2, d2⟩ := Src.draws (tk := tk2) I hc hqy (hf i2 (by simp))
    have S : ZipSep2 z TI TO i1 i2 fp1 fp2 := ⟨n1, n2, n3, n4, d1.mem, d1.out z n6.symm (hf z (by simp)), d1.out TO n8 (hf TO (by simp)), n5, d2.mem, d2.out z n7.symm (hf z (by simp)), d2.out TO n9 (hf TO (by simp)), d2.out i1 n0 (hf i1 (by simp)), d1.out i2 n0.symm (hf i2 (by simp))⟩
    have W := WalksT.zipD2 S d1.D d2.D
    have sub : ∀ b, b ∉ [z, TI, TO, i1, i2] → b ∉ [z, TO, i1, i2] := fun b hb q => hb (by rcases (by simpa using q : b = z ∨ b = TO ∨ b = i1 ∨ b = i2) with q | q | q | q <;> simp [q])
    exact W.done s _ _ ⟨hz, hTI, hTO, d1.st _ h1, d2.st _ h2⟩ fun h' k' hk => ⟨rfl, I.turnedL (ch := [z, TI, TO, i1, i2]) (fun b o hb q => hk b o (sub b hb) q) hf⟩
  self := fun A i s Q E st h => wpAny_pyIter_zip st.1 h
end
theorem Src.begins {X : Cx} {pins : List (Addr × Obj)} {σ : L2.St} {H : Hp} {s : Shared} {xs : List V} {src : Src} (I : Inv X pins σ H s) (h : src.At X.K H xs) (tk : Tok) : ∃ Q : Heap → Prop, Begins (src.val tk) (src.obj tk) Q ∧ Q s.heap := by
  cases src with
  | l a =>
    obtain ⟨its, _, p, _⟩ := I.list h
    exact ⟨_, begins_list a its.toArray, p.isList⟩
  | t a =>
    obtain ⟨its, _, p, _⟩ := I.tuple h
    exact ⟨_, begins_tuple a its.toArray, p⟩
  | s x => exact ⟨_, begins_text x tk, trivial⟩
theorem enum_new1 {v : Value} {o : Obj} {H : Heap → Prop} (B : Begins v o H) :
    Meets (Builtin.«enumerate.__new__» ⟨[.type "enumerate", v], []⟩) (fun _ R s => H s.heap ∧
      R (.ok (.ret (.ref (s.heap.push o).objs.size))) { s with heap := (s.heap.push o).push { cls := .type "enumerate", data := .fields #[.none, .bool false, .ref s.heap.objs.size, rawInt 0, .none, .none] } }) :=
  .of_wp fun prog w A R s hh => by
    obtain ⟨hp, g, d, tk, os⟩ := s
    obtain ⟨hH, hR⟩ := hh
    have hsub := sub_enumerate
    have step : ∀ {A' : Around} {E : Value → Shared → Prop} {Q : Value → Shared → Prop}, Q (.ref hp.objs.size) ⟨hp.push o, g, d, tk, os⟩ → wpAny (model prog w) A' (pyIter v) Q E ⟨hp, g, d, tk, os⟩ :=
      fun q => B.iter prog w _ _ ⟨hp, g, d, tk, os⟩ _ hH q
    wp_walk using step
    refine wpAny_stack_any fun st => wpAny_pure ?_
    split
    · rename_i cc _ _ _ _ _
      cases (cc == Value.type "enumerate") <;>
      · wp_walk using step
        exact ⟨_, rfl, hR⟩
    · wp_walk using step
      exact ⟨_, rfl, hR⟩
theorem enum_begins1 {prog : Program} {w : World} {A : Around} {E : Value → Shared → Prop} {s : Shared} {v : Value} {o : Obj} {H : Heap → Prop} {Q : Value → Shared → Prop} (B : Begins v o H) (h1 : H s.heap)
    (k : ∀ h', IsEnum h' (s.heap.objs.size + 1) s.heap.objs.size 0 .none → h'.get? s.heap.objs.size = some o → (∀ b ob, s.heap.get? b = some ob → h'.get? b = some ob) → Q (.ref (s.heap.objs.size + 1)) { s with heap := h' }) :
    wpAny (model prog w) A (call (.type "enumerate") [v]) Q E s := by
  refine callType_new F.called_enumerate (by decide) (F.typeCall_enumerate_1 _) (F.newCall_enumerate_1 _) (fun obj => F.args_object_init_2 obj _) F.entry_enumerate_new (enum_new1 B) ⟨h1, ?_⟩
  have hz : (s.heap.push o).objs.size = s.heap.objs.size + 1 := Heap.size_push ..
  show _ ∧ _
  rw [hz]
  have he := Heap.get?_push_size (s.heap.push o) (o := { cls := .type "enumerate", data := .fields #[.none, .bool false, .ref s.heap.objs.size, rawInt 0, .none, .none] }) rfl
  rw [hz] at he
  exact ⟨⟨_, he, rfl⟩, k _ he (Heap.get?_push_of_some _ (Heap.get?_push_size _ B.free)) fun b ob x => Heap.get?_push_of_some _ (Heap.get?_push_of_some _ x)⟩
def iEnS (K : PySem.W.Frag) (ta : TA) : TI := fun σ H R => ta σ H fun vs H1 => ∃ src xs, vs = [src.v] ∧ Src.At K H1 src xs ∧ R (ItE K src) H1
def iZpS (K : PySem.W.Frag) (ta : TA) : TI := fun σ H R => ta σ H fun vs H1 => ∃ s1 s2 xs ys, vs = [s1.v, s2.v] ∧ Src.At K H1 s1 xs ∧ Src.At K H1 s2 ys ∧ R (ItZ K s1 s2) H1
section
variable {X : Cx} {Γ : List Cell} {e e2 : Expr} {ta : TA} {p pos tpos : Pos} {elts : List Expr} {kk : Nat} {d d2 : D} {ds ds2 : List D}
theorem pi_enS (hg : Gl X "enumerate") (hm : NoMg X "enumerate") (ha : PA X [e] ta) (hs : starEach [e] X.env = [(false, eval e X.env)] := by rfl) :
    PI X (.Tuple elts kk tpos) (.Call (.Name "enumerate" p) [e] [] pos) (iEnS X.K ta) := by
  refine ⟨fun pins s σ H R I h => ?_⟩
  refine Call_ (ld_blt I hg hm boot_enumerate (PyProof.Rows.callWith_type1 (thn (ha.run pos pins s σ H _ I h) fun us s1 ⟨vs, H1, I1, r1, q1⟩ => ?_) hs rfl))
  obtain ⟨src, xs, rfl, hq, q⟩ := q1
  obtain ⟨u, rfl, ru⟩ := vals1 r1
  obtain ⟨tk, rfl⟩ := Src.rel ru
  obtain ⟨Q, B, hQ⟩ := Src.begins I1 hq tk
  refine enum_begins1 B hQ fun h' he hit hk => wpAny_pyIter_enum he ?_
  have I2 : Inv X pins σ H1 { s1 with heap := h' } := I1.kept (t' := s1.toks) hk
  refine ⟨s1.heap.objs.size + 1, [s1.heap.objs.size + 1, s1.heap.objs.size], _, _, H1, rfl, I2, turn_enumS (tk := tk) (s1.heap.objs.size + 1) s1.heap.objs.size, ⟨⟨.none, he⟩, Src.It.zero hit, Nat.succ_ne_self _⟩, fun b hb => ?_, q⟩
  have e' : b = s1.heap.objs.size + 1 ∨ b = s1.heap.objs.size := by simpa using hb
  have hle : s1.heap.objs.size ≤ b := by
    rcases e' with z | z <;> rw [z]
    · exact Nat.le_add_right _ _
    · exact Nat.le_refl _
  exact I1.fpOk hle (I1.hok.fresh hle)
theorem pi_zpS (hg : Gl X "zip") (hm : NoMg X "zip") (ha : PA X [e, e2] ta)
    (hs : starEach [e, e2] X.env = (false, eval e X.env) :: starEach [e2] X.env := by rfl) (hpl : (backTo pos (starEach [e2] X.env)).any (·.1) = false := by rfl) :
    PI X (.Tuple elts kk tpos) (.Call (.Name "zip" p) [e, e2] [] pos) (iZpS X.K ta) := by
  refine ⟨fun pins s σ H R I h => ?_⟩
  refine Call_ (ld_blt I hg hm PyProof.Rows.boot_zip (PyProof.Rows.callWith_type1 (thn (ha.run pos pins s σ H _ I h) fun us s1 ⟨vs, H1, I1, r1, q1⟩ => ?_) hs hpl))
  obtain ⟨sa, sb, xs, ys, rfl, hqx, hqy, q⟩ := q1
  cases r1 with
  | cons r rr =>
    obtain ⟨u2, rfl, r2⟩ := vals1 rr
    obtain ⟨tk, rfl⟩ := Src.rel r
    obtain ⟨tk2, rfl⟩ := Src.rel r2
    obtain ⟨Q1, B1, h1⟩ := Src.begins I1 hqx tk
    obtain ⟨Q2, B2, h2⟩ := Src.begins I1 hqy tk2
    refine zip_begins2 B1 B2 h1 h2 fun h' hz hTI hTO g1 g2 hsz hk => wpAny_pyIter_zip hz ?_
    have I2 : Inv X pins σ H1 { s1 with heap := h' } := I1.kept (t' := s1.toks) hk
    have ap : ∀ {i j : Nat}, i ≠ j → (s1.heap.objs.size + i : Nat) ≠ s1.heap.objs.size + j := fun h => by omega
    refine ⟨s1.heap.objs.size + 4, [s1.heap.objs.size + 4, s1.heap.objs.size + 2, s1.heap.objs.size + 3, s1.heap.objs.size, s1.heap.objs.size + 1], _, _, H1, rfl, I2,
      turn_zipS (tk := tk) (tk2 := tk2) (ap (by decide)) (ap (by decide)) (ap (by decide)) (ap (i := 2) (j := 0) (by decide)) (ap (by decide)) (ap (i := 0) (j := 4) (by decide)) (ap (by decide)) (ap (i := 3) (j := 0) (by decide)) (ap (by decide)) (ap (i := 0) (j := 1) (by decide)),
      ⟨hz, hTI, ⟨_, _, hTO⟩, Src.It.zero g1, Src.It.zero g2⟩, fun c hcm => ?_, q⟩
    have e' : c = s1.heap.objs.size + 4 ∨ c = s1.heap.objs.size + 2 ∨ c = s1.heap.objs.size + 3 ∨ c = s1.heap.objs.size ∨ c = s1.heap.objs.size + 1 := by simpa using hcm
    have hle : s1.heap.objs.size ≤ c := by
      rcases e' with z | z | z | z | z <;> rw [z] <;> first | exact Nat.le_add_right _ _ | exact Nat.le_refl _
    exact I1.fpOk hle (I1.hok.fresh hle)
/-- d is what ds stand in -/
inductive SrcD : D → List D → Prop
  | l (ds : List D) : SrcD (.list ds) ds
  | t (ds : List D) : SrcD (.tuple ds) ds
  | s (x : Str) : SrcD (.str x) (signs x)
theorem SrcD.at {K : PySem.W.Frag} {Hd : Hp} {v : V} (q : SrcD d ds) (i : Is K Hd v d) : ∃ src xs, v = Src.v src ∧ IsAll K Hd xs ds ∧ ∀ H, Ex Hd H → Src.At K H src xs := by
  cases q with
  | l => cases i with | lst t al => exact ⟨.l _, _, rfl, al, fun H e => Evl.ex_l e t⟩
  | t => cases i with | tup t al => exact ⟨.t _, _, rfl, al, fun H e => Evl.ex_t e t⟩
  | s x =>
    cases i
    refine ⟨.s x, sgs x, rfl, ?_, fun H e => rfl⟩
    unfold sgs signs
    induction x.cps.toList with
    | nil => exact .nil
    | cons c cs ih => exact .cons (.str _) ih
theorem di_enS (hg : Gl X "enumerate") (hm : NoMg X "enumerate") (h : DE X Γ e d) (sd : SrcD d ds) (hs : starEach [e] X.env = [(false, eval e X.env)] := by rfl) :
    DI X Γ (.Tuple elts kk tpos) (.Call (.Name "enumerate" p) [e] [] pos) (ds.mapIdx fun i d => .tuple [.int (i : Nat), d]) :=
  ⟨_, pi_enS hg hm pa_w hs, fun σ Hd H Q r k => da_cons (es := []) h da_nil hs σ Hd H _ r fun vs Hd1 H1 s1 i1 => by
    obtain ⟨v, rfl, iv⟩ := all1 i1
    obtain ⟨src, xs, rfl, al, ax⟩ := sd.at iv
    refine ⟨src, xs, rfl, ax _ s1.s, k _ Hd1 H1 s1 fun i Hd2 H2 e1 e2 => ⟨fun dd hd => ?_, fun hn => ⟨xs, ax _ (e1.trans e2), ?_⟩⟩⟩
    · rw [List.getElem?_mapIdx] at hd
      obtain ⟨d', hd', rfl⟩ := Option.map_eq_some_iff.mp hd
      obtain ⟨w, h1, h2⟩ := al.get hd'
      refine ⟨⟨xs, w, ax _ (e1.trans e2), h1⟩, fun y H3 hy => ?_⟩
      obtain ⟨T, x, rfl, hT, rfl, hx⟩ := hy
      have z := hx _ (ax _ (e1.trans e2))
      rw [h1] at z; cases z
      exact ⟨upd Hd2 T _, Stp.newD e2 hT, .tup (.inl (.inl upd_same)) (.cons (.int _) (.cons (h2.mono (e1.trans (Ex.new (ex_none e2 hT)))) .nil))⟩
    · rw [al.len, hn]; simp⟩
theorem di_zpS (hg : Gl X "zip") (hm : NoMg X "zip") (ha : DE X Γ e d) (hb : DE X Γ e2 d2) (sa : SrcD d ds) (sb : SrcD d2 ds2)
    (hs : starEach [e, e2] X.env = (false, eval e X.env) :: starEach [e2] X.env := by rfl) (hs2 : starEach [e2] X.env = (false, eval e2 X.env) :: starEach [] X.env := by rfl) (hpl : (backTo pos (starEach [e2] X.env)).any (·.1) = false := by rfl) :
    DI X Γ (.Tuple elts kk tpos) (.Call (.Name "zip" p) [e, e2] [] pos) ((ds.zip ds2).map fun q => .tuple [q.1, q.2]) :=
  ⟨_, pi_zpS hg hm pa_w hs hpl, fun σ Hd H Q r k => da_cons ha (da_cons hb da_nil hs2) hs σ Hd H _ r fun vs Hd1 H1 s1 i1 => by
    obtain ⟨v, v', rfl, iv, iw⟩ := all2 i1
    obtain ⟨s1', xs, rfl, a1, ax⟩ := sa.at iv
    obtain ⟨s2', ys, rfl, a2, ay⟩ := sb.at iw
    refine ⟨s1', s2', xs, ys, rfl, ax _ s1.s, ay _ s1.s, k _ Hd1 H1 s1 fun i Hd2 H2 e1 e2 => ⟨fun dd hd => ?_, fun hn => ⟨xs, ys, ax _ (e1.trans e2), ay _ (e1.trans e2), ?_⟩⟩⟩
    · rw [List.getElem?_map] at hd
      obtain ⟨⟨x, y⟩, hxy, rfl⟩ := Option.map_eq_some_iff.mp hd
      obtain ⟨hx, hy⟩ := List.getElem?_zip_eq_some.mp hxy
      obtain ⟨u1, g1, g2⟩ := a1.get hx
      obtain ⟨u2, g3, g4⟩ := a2.get hy
      refine ⟨⟨_, _, u1, u2, ax _ (e1.trans e2), ay _ (e1.trans e2), g1, g3⟩, fun z H3 hz => ?_⟩
      obtain ⟨T, x', y', rfl, hT, rfl, f1, f2⟩ := hz
      have z1 := f1 _ (ax _ (e1.trans e2))
      have z2 := f2 _ (ay _ (e1.trans e2))
      rw [g1] at z1; rw [g3] at z2; cases z1; cases z2
      have m := e1.trans (Ex.new (o := .tup [u1, u2]) (ex_none e2 hT))
      exact ⟨upd Hd2 T _, Stp.newD e2 hT, .tup (.inl (.inl upd_same)) (.cons (g2.mono m) (.cons (g4.mono m) .nil))⟩
    · rw [a1.len, a2.len, hn]; simp⟩
end
/-- the stores of a pair -/
def two (j k : Nat) : D → List (Nat × D)
  | .tuple [a, b] => [(j, a), (k, b)]
  | _ => []
theorem en_some {ds : List D} {i : Nat} {d : D} (h : (ds.mapIdx fun i d => PyData.tuple [.int (i : Nat), d])[i]? = some d) : ∃ y, ds[i]? = some y ∧ d = .tuple [.int (i : Nat), y] := by
  rw [List.getElem?_mapIdx] at h
  obtain ⟨y, hy, rfl⟩ := Option.map_eq_some_iff.mp h
  exact ⟨y, hy, rfl⟩
theorem zp_some {ds es : List D} {i : Nat} {d : D} (h : ((ds.zip es).map fun q => PyData.tuple [q.1, q.2])[i]? = some d) : ∃ x y, ds[i]? = some x ∧ es[i]? = some y ∧ d = .tuple [x, y] := by
  rw [List.getElem?_map] at h
  obtain ⟨⟨x, y⟩, hxy, rfl⟩ := Option.map_eq_some_iff.mp h
  obtain ⟨hx, hy⟩ := List.getElem?_zip_eq_some.mp hxy
  exact ⟨x, y, hx, hy, rfl⟩
def DV (X : Cx) (Γ : List Cell) (e : Expr) (d : D) : Prop := ∀ σ Hd H (Q : VK), Rl X.K Γ σ Hd H → (∀ v Hd' H', Stp Hd H Hd' H' → Is X.K H' v d → Q v H') → wE X e σ H Q
section
variable {X : Cx} {Γ : List Cell} {a b : Expr} {x y d : D} {ds : List D} {p pos : Pos}
theorem DE.v (h : DE X Γ a d) : DV X Γ a d := fun σ Hd H Q r k => h σ Hd H Q r fun v Hd' H' s i => k v Hd' H' s (i.mono s.s)
theorem DL.v (h : DL X Γ a ds) : DV X Γ a (.list ds) := fun σ Hd H Q r k => h σ Hd H Q r fun l vs Hd' H' s h1 i => k _ Hd' H' s (.lst (SqL.of h1) (i.mono s.s))
theorem dc_eqV (hu : Roomy X) (ha : DV X Γ a x) (hb : DV X Γ b y) (h1 : SeqAt.shaped x = true) (h2 : SeqAt.shaped y = true) : DC X Γ .Eq a b (PyData.eqv x y) :=
  fun σ Hd H Q r k => wC_of (op_eqD hu) (ha σ Hd H _ r fun v Hd1 H1 s1 i1 => hb σ Hd1 H1 _ (r.stp s1) fun u Hd2 H2 s2 i2 =>
    ⟨x, y, (i1.mono s2.h).dp (SeqAt.canLay_of_shaped h1), i2.dp (SeqAt.canLay_of_shaped h2), h1, h2, k Hd2 H2 (s1.trans s2)⟩)
theorem dc_neV (hu : Roomy X) (ha : DV X Γ a x) (hb : DV X Γ b y) (h1 : SeqAt.shaped x = true) (h2 : SeqAt.shaped y = true) : DC X Γ .NotEq a b (!PyData.eqv x y) :=
  fun σ Hd H Q r k => wC_of (op_neD hu) (ha σ Hd H _ r fun v Hd1 H1 s1 i1 => hb σ Hd1 H1 _ (r.stp s1) fun u Hd2 H2 s2 i2 =>
    ⟨x, y, (i1.mono s2.h).dp (SeqAt.canLay_of_shaped h1), i2.dp (SeqAt.canLay_of_shaped h2), h1, h2, k Hd2 H2 (s1.trans s2)⟩)
theorem de_isiV {T : Str} {S : String} {m : Bool} (hg : Gl X "isinstance") (hm : NoMg X "isinstance") (hgT : Gl X T) (hmT : X.mg T = none) (hvT : bootBuiltins T = some (.type S)) (ha : DV X Γ a d) (hk : kitB (tyS d) S = some m ∧ noDict d = true) (hnT : T ≠ "__name__" := by decide) (hdT : (T == ("__debug__" : Str)) = false := by decide)
    (hs : starEach [a, .Name T p] X.env = (false, eval a X.env) :: starEach [.Name T p] X.env := by rfl) (hs2 : starEach [.Name T p] X.env = (false, eval (.Name T p) X.env) :: starEach [] X.env := by rfl) (hpl : (backTo pos (starEach [.Name T p] X.env)).any (·.1) = false := by rfl) {p2 : Pos} :
    DE X Γ (.Call (.Name "isinstance" p2) [a, .Name T p] [] pos) (.bool m) := fun σ Hd H Q r k =>
  wE_of (pe_callB call_isi hg hm (by decide +kernel) (pa_cons pe_w (pa_cons (pe_bltn (v := .ty S) hgT hmT hvT rfl hnT hdT) pa_nil hs2) hs) (by decide) (by decide) hs hpl) (ha σ Hd H _ r fun v Hd1 H1 s1 i1 =>
    ⟨v, .ty S, .type (tyS d), .type S, m, rfl, .ty S, i1.tyx hk.2, kit_ty hk.1, k _ Hd1 H1 s1 (.bl _)⟩)
end
end Hf

namespace Hf
open PySem PySem.Spec PyProof.Rows L2
open Evl (Ex)
/-- the error at a, as a value -/
abbrev dPtr (a : Addr) : D := .dict [(.bool true, .int (a : Nat))]
/-- the error at a, its dict at dd with one field -/
abbrev dExc (a dd : Addr) (f : Str) (x : D) : D := .dict [(.bool true, .int (a : Nat)), (.bool false, .int (dd : Nat)), (.str f, x)]
/-- a class of one's own over ValueError, without __init__ -/
structure Ecl (K : PySem.W.Frag) (mg : Str → Option Value) (x : Str) (C : Addr) : Prop where
  q : ∃ bm, ExcBaseFacts "ValueError" "ValueError.__new__" "ValueError.__init__" bm ∧ PySem.W.excIn K C bm "ValueError.__new__" = true
  g : mg x = some (.ref C)
  k : PySem.W.keepIn K (.ref C) = true
  b : PySem.W.subIn K (.ref C) (.type "BaseException") = some true
  t : PySem.W.typeIn K (.ref C) = some (.type "type")
section
variable {X : Cx} {Γ : List Cell} {A : AD} {rest : List Stmt} {pos pos2 p p2 : Pos} {x m : Str} {j : Nat} {C : Addr}
theorem ds_raiseOwn (hc : X.calm = true) (e : Ecl X.K X.mg x C) (hg : Gl X x) (h : A.ex C [] Γ) (hdb : (x == ("__debug__" : Str)) = false := by decide) : DS X Γ (.Raise (some (.Call (.Name x p) [.Constant (.str m) j p2] [] pos)) none pos2 :: rest) A := by
  obtain ⟨bm, F, q⟩ := e.q
  exact ds_raise hc (L2N.pmk_own F q e.g e.k (raises_own e.b e.t) hg hdb) h
end
/-- the way out: the error (C, fs), the slots as they are -/
def DX (X : Cx) (Γ : List Cell) (e : Expr) (C : Addr) (fs : List (Str × D)) : Prop := ∀ Hs H0 Hb, L2N.Takes X (AD.W X.K Hs H0 Hb fun C' fs' Γ' => C' = C ∧ fs' = fs ∧ Γ' = Γ) → ∀ σ Hd H (Q : VK), R X.K Hs H0 Hb Γ σ Hd H → wE X e σ H Q
section
variable {X : Cx} {Γ : List Cell} {A : AD} {rest : List Stmt} {pos p : Pos} {x y : Str} {C : Addr} {fs : List (Str × D)} {e : Expr} {es : List Expr} {ds : List D} {k i : Nat} {S : List D → Res → Prop}
theorem ExcIs.fld {K : PySem.W.Frag} {Hs H0 Hb Hd Hd1 H H1 H2 : Hp} {σ : St} {d : Option Addr} (r : R K Hs H0 Hb Γ σ Hd H) (s : Stp Hd H Hd1 H1) (h : ExcIs K Hd1 H1 fs d H2) : ∃ Hd2, R K Hs H0 Hb Γ σ Hd2 H2 ∧ FldD K H0 Hd2 H2 fs d := by
  have r1 := r.stp s
  rcases h with ⟨h1, h2, Hd2, s2⟩ | ⟨h0, dd, vs, Hd2, h1, s2, h2, h3, h4, h5⟩
  · exact ⟨Hd2, r1.stp s2, .inl ⟨h1, h2⟩⟩
  · exact ⟨Hd2, r1.stp s2, .inr ⟨h0, dd, vs, h1, ex_none r1.e.h h2, h3, h4, h5⟩⟩
/-- f(..) that raises -/
theorem dx_call (h : Has X.prog X.w X.K X.mg X.base x k S) (hr : Room k X.A) (hg : Gl X x) (ha : DA X Γ (e :: es) ds) (hs : S ds (.exc C fs)) (hdb : (x == ("__debug__" : Str)) = false := by decide)
    (he : starEach (e :: es) X.env = (false, eval e X.env) :: starEach es X.env := by rfl) (hpl : (backTo pos (starEach es X.env)).any (·.1) = false := by rfl) : DX X Γ (.Call (.Name x p) (e :: es) [] pos) C fs := fun Hs H0 Hb tk σ Hd H Q r => by
  obtain ⟨f, fd, ps, F, hm, hk, hb⟩ := h.ok
  refine wE_of (pe_callS F hr hg hm hk hb (fun σ => L2N.passAt tk σ) pa_w hdb he hpl) (ha σ Hd H _ r.l fun vs Hd1 H1 s1 i1 => ?_)
  refine ⟨Hd1, ds, .exc C fs, s1.s, i1, hs, fun d H2 w => ?_⟩
  obtain ⟨Hd2, r2, q⟩ := w.fld r s1
  exact ⟨C, fs, Γ, Hd2, rfl, ⟨rfl, rfl, rfl⟩, r2, q⟩
theorem DX.take {Hs H0 Hb : Hp} (h : DX X Γ e C fs) (tk : L2N.Takes X (AD.W X.K Hs H0 Hb A.ex)) (q : A.ex C fs Γ) {σ : St} {Hd H : Hp} {Q : VK} (r : R X.K Hs H0 Hb Γ σ Hd H) : wE X e σ H Q :=
  h Hs H0 Hb (tk.imp fun c d σ H ⟨C', fs', G, Hx, e1, ⟨e2, e3, e4⟩, e5, e6⟩ => by subst e2 e3 e4; exact ⟨C', fs', G, Hx, e1, q, e5, e6⟩) σ Hd H Q r
theorem ds_retX (h : DX X Γ e C fs) (q : A.ex C fs Γ) : DS X Γ (.Return (some e) pos :: rest) A := fun Hs H0 Hb tk σ Hd H r => wSs_cons (wS_of (ps_ret pe_w) (h.take tk q r))
theorem ds_setX (h : DX X Γ e C fs) (hp : PS X (.Assign [.Name y p] e pos) (tAsg (wE X e) (gName i))) (q : A.ex C fs Γ) : DS X Γ (.Assign [.Name y p] e pos :: rest) A := fun Hs H0 Hb tk σ Hd H r => wSs_cons (wS_of hp (h.take tk q r))
theorem ds_exprX (h : DX X Γ e C fs) (q : A.ex C fs Γ) (hs : swapsWith e none pos.line X.env = pure false := by rfl) : DS X Γ (.Expr e pos :: rest) A := fun Hs H0 Hb tk σ Hd H r => wSs_cons (wS_of (ps_expr pe_w hs) (h.take tk q r))
end
structure HotE (Y : Cx) (a : Addr) (c : Value) (d : Option Addr) : Prop where
  ex : ∃ oe : Obj, (a, oe) ∈ Y.pn ∧ Y.A.handled = some (.ref a) ∧ L2N.Zn c d oe ∧ ∃ vs, oe.data = .fields vs
/-- except clauses, all as n: the classes, the suites -/
inductive HdsL (X : Cx) (n : Str) : List ExceptHandler → List (Value × Stmt × List Stmt) → Prop
  | nil : HdsL X n [] []
  | cons {x : Str} {c : Value} {b₀ : Stmt} {suite : List Stmt} {np pos' : Pos} {hds : List ExceptHandler} {l : List (Value × Stmt × List Stmt)} (hc : Names X x c) (r : HdsL X n hds l) :
      HdsL X n (.ExceptHandler (some (.Name x np)) (some n) (b₀ :: suite) pos' :: hds) ((c, b₀, suite) :: l)
/-- what a suite must do with the error -/
def SuD (X : Cx) (Γ' : List Cell) (i : Nat) (A : AD) (rest : List Stmt) (C : Addr) (fs : List (Str × D)) (su : List Stmt) : Prop :=
  (fs = [] ∧ ∀ (a : Addr) (oe : Obj) (pn : List (Addr × Obj)), HotE (X.suite a ((a, oe) :: pn)) a (.ref C) none →
      DS (X.suite a ((a, oe) :: pn)) (Γ'.set i (.d (dPtr a))) su { nx := fun Γ2 => DS X (Γ2.set i .no) rest A, rt := A.rt, bk := fun Γ2 => A.bk (Γ2.set i .no), ct := fun Γ2 => A.ct (Γ2.set i .no) }) ∨
  ∃ f x, fs = [(f, x)] ∧ ∀ (a dd : Addr) (oe : Obj) (pn : List (Addr × Obj)), HotE (X.suite a ((a, oe) :: pn)) a (.ref C) (some dd) →
      DS (X.suite a ((a, oe) :: pn)) (Γ'.set i (.d (dExc a dd f x))) su { nx := fun Γ2 => DS X (Γ2.set i .no) rest A, rt := A.rt, bk := fun Γ2 => A.bk (Γ2.set i .no), ct := fun Γ2 => A.ct (Γ2.set i .no) }
/-- the clause that takes the error -/
def Caught (X : Cx) (Γ' : List Cell) (i : Nat) (A : AD) (rest : List Stmt) (C : Addr) (fs : List (Str × D)) : List (Value × Stmt × List Stmt) → Prop
  | [] => A.ex C fs Γ'
  | (c, b₀, su) :: l => ∃ b, PySem.W.exmOne X.K (.ref C) c = some b ∧ (b = true → SuD X Γ' i A rest C fs (b₀ :: su)) ∧ (b = false → Caught X Γ' i A rest C fs l)
theorem Caught.yes {X : Cx} {Γ' : List Cell} {i : Nat} {A : AD} {rest : List Stmt} {C : Addr} {fs : List (Str × D)} {c : Value} {b₀ : Stmt} {su : List Stmt} {l : List (Value × Stmt × List Stmt)} (h : PySem.W.exmOne X.K (.ref C) c = some true) (s : SuD X Γ' i A rest C fs (b₀ :: su)) : Caught X Γ' i A rest C fs ((c, b₀, su) :: l) :=
  ⟨true, h, fun _ => s, fun z => nomatch z⟩
theorem Caught.no {X : Cx} {Γ' : List Cell} {i : Nat} {A : AD} {rest : List Stmt} {C : Addr} {fs : List (Str × D)} {c : Value} {b₀ : Stmt} {su : List Stmt} {l : List (Value × Stmt × List Stmt)} (h : PySem.W.exmOne X.K (.ref C) c = some false) (s : Caught X Γ' i A rest C fs l) : Caught X Γ' i A rest C fs ((c, b₀, su) :: l) :=
  ⟨false, h, fun z => (nomatch z), fun _ => s⟩
theorem SuD.n {X : Cx} {Γ' : List Cell} {i : Nat} {A : AD} {rest : List Stmt} {C : Addr} {su : List Stmt} (h : ∀ (a : Addr) (oe : Obj) (pn : List (Addr × Obj)), HotE (X.suite a ((a, oe) :: pn)) a (.ref C) none →
      DS (X.suite a ((a, oe) :: pn)) (Γ'.set i (.d (dPtr a))) su { nx := fun Γ2 => DS X (Γ2.set i .no) rest A, rt := A.rt, bk := fun Γ2 => A.bk (Γ2.set i .no), ct := fun Γ2 => A.ct (Γ2.set i .no) }) : SuD X Γ' i A rest C [] su := .inl ⟨rfl, h⟩
theorem SuD.x {X : Cx} {Γ' : List Cell} {i : Nat} {A : AD} {rest : List Stmt} {C : Addr} {su : List Stmt} {f : Str} {x : D} (h : ∀ (a dd : Addr) (oe : Obj) (pn : List (Addr × Obj)), HotE (X.suite a ((a, oe) :: pn)) a (.ref C) (some dd) →
      DS (X.suite a ((a, oe) :: pn)) (Γ'.set i (.d (dExc a dd f x))) su { nx := fun Γ2 => DS X (Γ2.set i .no) rest A, rt := A.rt, bk := fun Γ2 => A.bk (Γ2.set i .no), ct := fun Γ2 => A.ct (Γ2.set i .no) }) : SuD X Γ' i A rest C [(f, x)] su := .inr ⟨f, x, rfl, h⟩
def tsD (X : Cx) (su : List Stmt) : Addr → Value → Option Addr → TS := fun a cls d D σ H => ∀ (oe : Obj) (pn : List (Addr × Obj)), L2N.Zn cls d oe → (∃ vs, oe.data = .fields vs) → wSs (X.suite a ((a, oe) :: pn)) su D σ H
def wAsM (K : PySem.W.Frag) (i : Nat) (X : Cx) (Wout : WX) (D : Ends) : List (Value × Stmt × List Stmt) → WX
  | [] => Wout
  | (c, b₀, su) :: r => fun cls d σ H => ∃ b, PySem.W.exmOne K cls c = some b ∧ (b = true → ∀ a, H a = none → tsD X (b₀ :: su) a cls d { nx := fun σ' H' => D.nx (σ'.set i none) H', rt := D.rt, bk := fun σ' H' => D.bk (σ'.set i none) H', ct := fun σ' H' => D.ct (σ'.set i none) H' } (σ.set i (some (.ref a))) H) ∧
    (b = false → wAsM K i X Wout D r cls d σ H)
/-- the error's dict becomes data -/
theorem R.xd {K : PySem.W.Frag} {Hs H0 Hb Hd H : Hp} {Γ : List Cell} {σ : St} {dd : Addr} {fs : List (Str × V)} (r : R K Hs H0 Hb Γ σ Hd H) (h0 : H0 dd = none) (hd : Hd dd = none) (hh : H dd = some (.xd fs)) : R K Hs H0 Hb Γ σ (upd Hd dd (.xd fs)) H := by
  have ex : Ex Hd (upd Hd dd (.xd fs)) := fun b o q => by rw [upd_ne (ne_of_none q hd)]; exact q
  refine ⟨⟨r.l.len, fun b o q => ?_, fun i c ov h1 h2 => ?_, r.l.apart⟩, ⟨r.e.d.trans ex, r.e.h, fun b o q => ?_, fun b o q n => ?_⟩, r.b.trans ex, r.o⟩
  · by_cases e : b = dd
    · subst e; rw [upd_same] at q; cases q; exact hh
    · rw [upd_ne e] at q; exact r.l.sub b o q
  · have q := r.l.cell i c ov h1 h2
    have ne : ∀ {l xs}, H l = some (.lst xs) → l ≠ dd := fun h e => by rw [e, hh] at h; cases h
    have ne2 : ∀ {l xs}, H l = some (.dK xs) → l ≠ dd := fun h e => by rw [e, hh] at h; cases h
    cases c with
    | no => trivial
    | d x => obtain ⟨v, e, iv⟩ := q; exact ⟨v, e, iv.mono ex⟩
    | ml ds => obtain ⟨l, vs, e, h3, h4, h5⟩ := q; exact ⟨l, vs, e, by rw [upd_ne (ne h4)]; exact h3, h4, h5.mono ex⟩
    | md es => obtain ⟨l, vs, e, h3, h4, h5⟩ := q; exact ⟨l, vs, e, by rw [upd_ne (ne2 h4)]; exact h3, h4, h5.mono ex⟩
    | cu c =>
      refine c.carry (.of ex) (fun l o => ⟨?_, rfl⟩) q
      obtain ⟨n, u, w, nx⟩ := c.has q o
      rw [upd_ne (fun z => by subst z; rw [hh] at w; cases w; exact nx _ rfl)]
      exact n
  · by_cases e : b = dd
    · subst e; rw [upd_same] at q; cases q; exact hh
    · rw [upd_ne e] at q; exact r.l.sub b o q
  · by_cases e : b = dd
    · subst e; exact h0
    · rw [upd_ne e] at q; exact r.e.f b o q n
section
variable {X : Cx} {n : Str} {i : Nat} {body : List Stmt} {h₀ : ExceptHandler} {hds : List ExceptHandler} {l : List (Value × Stmt × List Stmt)} {pos : Pos} {tb : WX → TS} {Wout : WX}
open L2N in
/-- try with several clauses, all as n -/
theorem ps_tryM (hs : X.stack = X.env :: X.outer) (hf : X.env.frame = some X.env.locals) (hN : X.N.Nodup) (hi : X.N[i]? = some n) (hln : X.env.kindOf n = some .local) (tk : L2N.Takes X Wout)
    (hb : ∀ (W : WX) (pn : List (Addr × Obj)) (xe : Value → Shared → Prop), L2N.Takes (X.tr pn xe) W → PassesOwn (model X.prog X.w) X.A X.env xe → PSs (X.tr pn xe) body (tb W))
    (hh : HdsL X n (h₀ :: hds) l) : PS X (.Try body (h₀ :: hds) [] [] pos) (fun D σ H => tb (wAsM X.K i X Wout D l) D σ H) := by
  refine ⟨fun pins s σ H D I h => ?_⟩
  have ok := I.ok
  have hfr : X.A.frames = some (X.env :: X.outer) := by rw [ok.frames, hs]
  have hloc : Loc X.env.scope n := .inl hln
  refine wpAny_Try_except ?_
  refine wpAny_mono ((hb (wAsM X.K i X Wout D l) (X.pn ++ pins) (fun e s₁ => wpAny (model X.prog X.w) X.A (noteFrame e X.env) (fun _ s₂ => wpAny (model X.prog X.w) X.A (setFlight e none) (fun _ s₃ =>
    wpAny (model X.prog X.w) X.A (handleBy e X.env (h₀ :: hds)) (SP X pins D) X.xe s₃) X.xe s₂) X.xe s₁) (fun u s' xx => ?_) PassesOwn.looking).run [] s σ H D (I.toTry _) h) (fun f s1 hsp => ?_) (fun e s1 he => he)
  · obtain ⟨a, B, sI, pins', σ', H', cls, d, rfl, J', nb, up, sky, na, os, ag, w⟩ := xx
    have J : Inv X pins σ' H' sI := J'.ofTry ok
    have sky' : Sky B (X.env :: X.outer) a (Zn cls d) X.env.locals s'.heap := by rw [← hs]; exact sky
    show wpAny (model X.prog X.w) X.A (noteFrame (.ref a) X.env) _ _ _
    refine Sky.land Zn.steady hfr hf sky' fun h3 fl3 up3 => ?_
    have J3 : Inv X pins σ' H' { s' with heap := h3 } := J.landed nb fl3.1 (up.trans up3) os ag
    obtain ⟨oe3, vs3, he3, hz3, hd3⟩ := fl3.there
    have nfr : a ∉ frs (X.env :: X.outer) := fun hm => by
      obtain ⟨_, o', e', hnf⟩ := fl3.2.2.1.mem hm
      rw [he3] at e'; cases e'
      exact hnf _ hd3
    have nL : a ≠ X.env.locals := fun z => nfr (List.mem_filterMap.mpr ⟨X.env, List.mem_cons_self, by rw [hf, z]⟩)
    have nF : a ∉ X.fs := fun hm => by
      obtain ⟨e, he, q⟩ := List.mem_filterMap.mp hm
      exact nfr (List.mem_filterMap.mpr ⟨e, List.mem_cons_of_mem _ he, q⟩)
    have S3 := J3.suite he3 hd3 na nL nF
    have go : ∀ {hds' : List ExceptHandler} {l' : List (Value × Stmt × List Stmt)}, HdsL X n hds' l' → wAsM X.K i X Wout D l' cls d σ' H' →
        wpAny (model X.prog X.w) X.A (handleBy (.ref a) X.env hds') (SP X pins D) X.xe { s' with heap := h3 } := by
      intro hds' l' hk
      induction hk with
      | nil =>
        intro w
        refine wpAny_handleBy_nil ?_
        obtain ⟨k1, k2, k3, oe, vs, T, oT, ts', he, hz, hd, h1, hr⟩ := id fl3
        unfold PySem.passOn
        refine wpAny_bind (wpAny_field he hd h1 ?_)
        rw [if_neg (show ¬ ((Value.ref T == Value.none) = true) from by simp)]
        have fin : wpAny (model X.prog X.w) X.A (setFlight (.ref a) X.env.frame) (fun _ s4 => wpAny (model X.prog X.w) X.A (throw (.ref a) : Sem Flow) (SP X pins D) X.xe s4) X.xe { s' with heap := h3 } := by
          rw [hf]
          refine HandSPX.setFlight_upZ fl3 fun h4 hh4 up4 => wpAny_throw (tk _ _ ?_)
          exact ⟨a, B, sI, pins, σ', H', cls, d, rfl, J, nb, (up.trans up3).trans up4, .inr (.inr (by rw [hs]; exact hh4)), na, os, ag, w⟩
        first
          | exact wpAny_bind (wpAny_pure (wpAny_bind fin))
          | exact wpAny_bind fin
      | @cons x c b₀ suite np pos' hds2 l2 hc r ih =>
        intro w
        obtain ⟨b, hb1, hyes, hno⟩ := w
        refine wpAny_handleBy_cons (codeAny_handlers_test ?_) (by intro q; cases q)
        have LT : PySem.W.Looks (model X.prog X.w) h3 (typeOf (.ref a)) cls := fun A Q E s k q => wpAny_typeOf_ref (k _ _ he3) (by rw [hz3.1]; exact q)
        have LM := PySem.W.exm_one (M := model X.prog X.w) (J3.kIn) LT hb1
        have test : ∀ {Q : Value → Shared → Prop} {E : Value → Shared → Prop}, Q c { s' with heap := h3 } → wpAny (model X.prog X.w) (X.A.mark (some (.ref a))) (eval (.Name x np) X.env) Q E { s' with heap := h3 } := fun {Q E} q => by
          obtain ⟨hg, hdbg, hm | ⟨hm, hv, hnn⟩⟩ := hc
          · exact ld_glob (X := X.suite a ((a, oe3) :: (X.pn ++ pins))) S3 hg hm q hdbg
          · exact ld_blt (X := X.suite a ((a, oe3) :: (X.pn ++ pins))) S3 hg hm hv q hnn hdbg
        refine test (LM.here ?_)
        cases b with
        | true =>
          refine codeAny_handlers_suite_as ?_
          refine HandSPX.lands_againZ fl3 fun h4 fl4 up4 => ?_
          have J4 : Inv X pins σ' H' { s' with heap := h4 } := J.landed nb fl4.1 ((up.trans up3).trans up4) os ag
          obtain ⟨oe4, vs4, he4, hz4, hd4⟩ := fl4.there
          have S4 := J4.suite he4 hd4 na nL nF
          refine store_ok (X := X.suite a ((a, oe4) :: (X.pn ++ pins))) (v := .ref a) S4 hN hi hloc rfl (fun s5 S5 => ?_) (.inr hln)
          refine wpAny_mono ((hyes rfl a na oe4 (X.pn ++ pins) hz4 ⟨_, hd4⟩).run [] s5 S5) (fun f s6 hsp => ?_) (fun _ _ z => False.elim z)
          have end_ : ∀ {σ6 : St} {H6 : Hp} {Q : Shared → Prop}, Inv (X.suite a ((a, oe4) :: (X.pn ++ pins))) [] σ6 H6 s6 → (∀ s7, Inv X pins (σ6.set i none) H6 s7 → Q s7) →
              wpAny (model X.prog X.w) X.A (do bindName X.env n .none; unbindBehindTheSuite X.env n pos') (fun _ s7 => Q s7) X.xe s6 := fun {σ6 H6 Q} S6 hq => gone_ok (S6.unsuite ok) hN hi hln hq
          cases f with
          | next =>
            obtain ⟨σ6, H6, S6, q6⟩ := hsp
            exact end_ S6 fun s7 J7 => ⟨_, _, J7, q6⟩
          | brk =>
            obtain ⟨σ6, H6, S6, q6⟩ := hsp
            exact end_ S6 fun s7 J7 => ⟨_, _, J7, q6⟩
          | cont =>
            obtain ⟨σ6, H6, S6, q6⟩ := hsp
            exact end_ S6 fun s7 J7 => ⟨_, _, J7, q6⟩
          | ret u =>
            obtain ⟨v6, σ6, H6, S6, r6, q6⟩ := hsp
            exact end_ S6 fun s7 J7 => ⟨_, _, _, J7, r6, q6⟩
        | false =>
          show wpAny _ X.A (handleBy (.ref a) X.env hds2) _ _ _
          exact ih (hno rfl)
    exact go hh w
  · cases f with
    | next =>
      obtain ⟨σ', H', J', q⟩ := hsp
      exact wpAny_execs_nil ⟨σ', H', J'.ofTry ok, q⟩
    | brk =>
      obtain ⟨σ', H', J', q⟩ := hsp
      exact ⟨σ', H', J'.ofTry ok, q⟩
    | cont =>
      obtain ⟨σ', H', J', q⟩ := hsp
      exact ⟨σ', H', J'.ofTry ok, q⟩
    | ret u =>
      obtain ⟨v, σ', H', J', r, q⟩ := hsp
      exact ⟨v, σ', H', J'.ofTry ok, r, q⟩
end
section
variable {X : Cx} {Γ : List Cell} {A : AD} {rest body suite : List Stmt} {b₀ : Stmt} {pos pos' np : Pos} {x n : Str} {c : Value} {i : Nat}
theorem ds_try (HX : Addr → List (Str × D) → List Cell → Prop) (hs : X.stack = X.env :: X.outer) (hf : X.env.frame = some X.env.locals) (hN : X.N.Nodup) (hi : X.N[i]? = some n) (hln : X.env.kindOf n = some .local) {h₀ : ExceptHandler} {hds : List ExceptHandler} {l : List (Value × Stmt × List Stmt)} (hh : HdsL X n (h₀ :: hds) l)
    (hb : ∀ (pn : List (Addr × Obj)) (xe : Value → Shared → Prop), DS (X.tr pn xe) Γ body { A with nx := fun Γ' => DS X Γ' rest A, ex := HX })
    (hsu : ∀ C fs Γ', HX C fs Γ' → Caught X Γ' i A rest C fs l) :
    DS X Γ (.Try body (h₀ :: hds) [] [] pos :: rest) A := fun Hs H0 Hb tk σ Hd H r => by
  refine wSs_cons (wS_of (ps_tryM (i := i) (tb := fun W D σ H => ∀ (pn : List (Addr × Obj)) (xe : Value → Shared → Prop), L2N.Takes (X.tr pn xe) W → wSs (X.tr pn xe) body D σ H) hs hf hN hi hln tk (fun W pn xe tkW _ => ⟨fun pins s σ H D I h => (h pn xe tkW).run pins s I⟩) hh) ?_)
  intro pn xe tkW
  refine wSs_of (X := X.tr pn xe) (sts := body) pss_w ?_
  have tk2 : L2N.Takes (X.tr pn xe) (AD.W (X.tr pn xe).K Hs H0 Hb HX) := tkW.imp fun cls d σ' H' ⟨C, fs, Γ', Hd', e1, e2, r', e4⟩ => by
    subst e1
    have hca := hsu C fs Γ' e2
    clear tkW hsu hb hh
    induction l with
    | nil => exact ⟨C, fs, Γ', Hd', rfl, hca, r', e4⟩
    | cons cs l ih =>
      obtain ⟨c, b₀, su⟩ := cs
      obtain ⟨b, hm, hy, hno⟩ := hca
      refine ⟨b, hm, fun eb a ha oe pn2 hz hd => ?_, fun eb => ih (hno eb)⟩
      have fin : ∀ {Y : Cx} {σ1 : St}, Y.K = X.K → wSs Y (b₀ :: su) (({ nx := fun Γ2 => DS X (Γ2.set i .no) rest A, rt := A.rt, bk := fun Γ2 => A.bk (Γ2.set i .no), ct := fun Γ2 => A.ct (Γ2.set i .no) } : AD).ends Y.K Hs H0 Hb) σ1 H' →
          wSs Y (b₀ :: su) { nx := fun σ' H' => wSs X rest (A.ends X.K Hs H0 Hb) (σ'.set i none) H', rt := (A.ends X.K Hs H0 Hb).rt, bk := fun σ' H' => (A.ends X.K Hs H0 Hb).bk (σ'.set i none) H', ct := fun σ' H' => (A.ends X.K Hs H0 Hb).ct (σ'.set i none) H' } σ1 H' := fun {Y σ1} eK h => by
        rw [eK] at h
        constructor
        intro pins s I
        refine thn (h.run pins s I) fun f s2 z => ?_
        cases f with
        | next =>
          obtain ⟨σ2, H2, I2, Γ2, Hd2, r2, z2⟩ := z
          exact ⟨σ2, H2, I2, z2 Hs H0 Hb tk _ Hd2 H2 r2.setNo⟩
        | brk =>
          obtain ⟨σ2, H2, I2, Γ2, Hd2, r2, z2⟩ := z
          exact ⟨σ2, H2, I2, _, Hd2, r2.setNo, z2⟩
        | cont =>
          obtain ⟨σ2, H2, I2, Γ2, Hd2, r2, z2⟩ := z
          exact ⟨σ2, H2, I2, _, Hd2, r2.setNo, z2⟩
        | ret v => exact z
      have tkN : ∀ pn3, L2N.Takes (X.suite a pn3) (AD.W X.K Hs H0 Hb fun _ _ _ => False) := fun pn3 u s' ⟨_, _, _, _, _, _, _, _, _, _, _, _, _, _, _, _, C2, _, _, _, _, z, _⟩ => z.elim
      have e4' := e4
      rcases hy eb with ⟨ef, q⟩ | ⟨f, x, ef, q⟩
      · subst ef
        rcases e4' with ⟨_, rfl⟩ | ⟨h0, _⟩
        · exact fin rfl (q a oe pn2 ⟨oe, List.mem_cons_self, rfl, hz, hd⟩ Hs H0 Hb (tkN _) _ Hd' H' (r'.setD (.ptr a)))
        · exact absurd rfl h0
      · subst ef
        rcases e4' with ⟨h0, _⟩ | ⟨_, dd, vs, rfl, h2, h3, h4, h5⟩
        · cases h0
        · have r2 := r'.xd h2 h3 h4
          have ex2 : Ex Hd' (upd Hd' dd (.xd vs)) := fun b o q => by rw [upd_ne (ne_of_none q h3)]; exact q
          cases h5 with
          | cons hv hn =>
            cases hn
            exact fin rfl (q a dd oe pn2 ⟨oe, List.mem_cons_self, rfl, hz, hd⟩ Hs H0 Hb (tkN _) _ _ H' (r2.setD (.exc upd_same (hv.mono ex2))))
  constructor
  intro pins s I
  refine thn ((hb pn xe Hs H0 Hb tk2 σ Hd H r).run pins s I) fun f s2 z => ?_
  cases f with
  | next =>
    obtain ⟨σ2, H2, I2, Γ2, Hd2, r2, z2⟩ := z
    exact ⟨σ2, H2, I2, z2 Hs H0 Hb tk σ2 Hd2 H2 r2⟩
  | brk => exact z
  | cont => exact z
  | ret v => exact z
end
theorem is_ptr {K : PySem.W.Frag} {H : Hp} {v : V} {a : Addr} (h : Is K H v (dPtr a)) : v = .ref a := by
  generalize e : dPtr a = d at h
  cases h with
  | dic _ kv =>
    cases kv with
    | nil => cases e
    | @cons k _ _ _ _ _ _ =>
      cases k <;> · exact absurd e (by simp [kD])
  | obj _ => exact absurd e (by simp)
  | ptr b =>
    simp only [PyData.dict.injEq, List.cons.injEq, Prod.mk.injEq, PyData.int.injEq, and_true, true_and] at e
    have e2 : a = b := Int.ofNat.inj e
    rw [e2]
  | _ => cases e
theorem is_exc {K : PySem.W.Frag} {H : Hp} {v : V} {a dd : Addr} {f : Str} {x : D} (h : Is K H v (dExc a dd f x)) : v = .ref a ∧ ∃ u, H dd = some (.xd [(f, u)]) ∧ Is K H u x := by
  generalize e : dExc a dd f x = d at h
  cases h with
  | dic _ kv =>
    cases kv with
    | nil => cases e
    | @cons k _ _ _ _ _ _ =>
      cases k <;> · exact absurd e (by simp [kD])
  | @exc a' dd' f' u d' h1 h2 =>
    simp only [PyData.dict.injEq, List.cons.injEq, Prod.mk.injEq, PyData.int.injEq, PyData.str.injEq, and_true, true_and] at e
    obtain ⟨e1, e2, e3, e4⟩ := e
    have q1 : a = a' := Int.ofNat.inj e1
    have q2 : dd = dd' := Int.ofNat.inj e2
    subst q1 q2 e3 e4
    exact ⟨rfl, u, h1, h2⟩
  | _ => cases e
section
variable {Y : Cx} {Γ : List Cell} {a D : Addr} {x n : Str} {p p2 p3 pos : Pos} {k : Nat} {m : Bool} {cv : Value}
/-- the error's place as data, its dict if any -/
inductive EPt (a : Addr) : Option Addr → PyData → Prop
  | n : EPt a none (dPtr a)
  | x {dd : Addr} {f : Str} {y : PyData} : EPt a (some dd) (dExc a dd f y)
theorem EPt.is {K : PySem.W.Frag} {H : Hp} {v : V} {a : Addr} {d : Option Addr} {x : PyData} (h : Is K H v x) (e : EPt a d x) : v = .ref a ∧ ∀ dd, d = some dd → ∃ fs, H dd = some (.xd fs) := by
  cases e with
  | n => exact ⟨is_ptr h, fun _ z => nomatch z⟩
  | x =>
    obtain ⟨e1, u, e2, _⟩ := is_exc h
    exact ⟨e1, fun _ z => by cases z; exact ⟨_, e2⟩⟩
def rIsF (K : PySem.W.Frag) (D a : Addr) (d : Option Addr) : List V → Hp → VK → Prop := fun xs H Q => ∃ (c : V) (cv : Value) (b : Bool), xs = [.ref a, c] ∧ (∀ u, RelV c u → u = cv) ∧ PySem.W.kitOne K (.ref D) cv = some b ∧ (∀ dd, d = some dd → ∃ fs, H dd = some (.xd fs)) ∧ Q (.bl b) H
theorem inst_at {pins : List (Addr × Obj)} {σ : St} {H : Hp} {s : Shared} {d : Option Addr} (h : HotE Y a (.ref D) d) (I : Inv Y pins σ H s) (hd : ∀ dd, d = some dd → ∃ fs, H dd = some (.xd fs)) :
    ∃ oe od, PySem.W.InstAt s.heap a oe D od ∧ ∀ dd, d = some dd → ∃ o, od = some o ∧ s.heap.get? dd = some o := by
  obtain ⟨oe, hp, _, hz, vs, hv⟩ := h.ex
  have hget := (I.pin (a, oe) (List.mem_append_left _ hp)).1
  have hno : PySem.W.notCls oe = true := by unfold PySem.W.notCls; rw [hv]
  cases d with
  | none => exact ⟨oe, none, ⟨hget, hz.1, hno, by rw [hz.2.1]; trivial⟩, fun _ z => nomatch z⟩
  | some dd =>
    obtain ⟨fs, hf⟩ := hd dd rfl
    have hx : ObjOk Y.prog Y.w H s.heap dd (.xd fs) := I.hok dd _ hf
    obtain ⟨mA, hns, _⟩ := hx
    obtain ⟨od, ho, _⟩ := lookIn_ns hns
    exact ⟨oe, some od, ⟨hget, hz.1, hno, by rw [hz.2.1]; exact ho⟩, fun _ z => by cases z; exact ⟨od, rfl, ho⟩⟩
theorem call_isH {d : Option Addr} (h : HotE Y a (.ref D) d) (C : ExcC Y.K D) : CallR Y (.builtin "isinstance") (rIsF Y.K D a d) := by
  intro pins s σ H xs us Q I r q
  obtain ⟨c, cv, b, rfl, hcv, e, hdd, q⟩ := q
  obtain ⟨u1, u2, rfl, ra, rc⟩ : ∃ u1 u2, us = [u1, u2] ∧ RelV (.ref a) u1 ∧ RelV c u2 := by
    cases r with
    | cons r1 r' =>
      cases r' with
      | cons r2 r'' => cases r''; exact ⟨_, _, rfl, r1, r2⟩
  obtain rfl := hcv _ rc
  cases ra
  obtain ⟨oe, od, J, _⟩ := inst_at h I hdd
  obtain ⟨cd, hcd, _⟩ := PySem.W.any_some C.hd
  exact PySem.W.kia_one (PySem.W.kitx_exc (by rw [hcd]; rfl) C.hg C.hk C.hs C.ha C.hn C.ht C.hm) I.kIn J e (fun z => nomatch z) fun t => ⟨.bl b, H, I.kept (t' := t) fun _ _ w => w, rfl, q⟩
/-- isinstance(e, C), C a class of the program -/
theorem de_isH {C : Addr} {d : Option Addr} {x0 : PyData} (h : HotE Y a (.ref D) d) (ep : EPt a d x0) (T : ExcC Y.K D) (hg : Gl Y "isinstance") (hm : NoMg Y "isinstance") (ha : DE Y Γ (.Name n p) x0) (hgC : Gl Y x) (gC : Y.mg x = some (.ref C)) (hk : PySem.W.kitOne Y.K (.ref D) (.ref C) = some m) (hdb : (x == ("__debug__" : Str)) = false := by decide)
    (hs : starEach [.Name n p, .Name x p2] Y.env = (false, eval (.Name n p) Y.env) :: starEach [.Name x p2] Y.env := by rfl) (hs2 : starEach [.Name x p2] Y.env = (false, eval (.Name x p2) Y.env) :: starEach [] Y.env := by rfl) (hpl : (backTo pos (starEach [.Name x p2] Y.env)).any (·.1) = false := by rfl) :
    DE Y Γ (.Call (.Name "isinstance" p3) [.Name n p, .Name x p2] [] pos) (.bool m) := fun σ Hd H Q r q =>
  wE_of (pe_callB (call_isH h T) hg hm (by decide +kernel) (pa_cons pe_w (pa_cons (pe_glob (v := .ref C) hgC gC rfl hdb) pa_nil hs2) hs) (by decide) (by decide) hs hpl) (ha σ Hd H _ r fun v Hd1 H1 s1 i1 => by
    obtain ⟨e1, e2⟩ := ep.is i1
    rw [e1]
    exact ⟨.ref C, .ref C, m, rfl, fun u hu => hu, hk, fun dd z => (e2 dd z).imp fun fs w => s1.s _ _ w, q _ Hd1 H1 s1 (.bl _)⟩)
/-- isinstance(e, ValueError) -/
theorem de_isHB {T : Str} {S : String} {d : Option Addr} {x0 : PyData} (h : HotE Y a (.ref D) d) (ep : EPt a d x0) (E : ExcC Y.K D) (hg : Gl Y "isinstance") (hm : NoMg Y "isinstance") (ha : DE Y Γ (.Name n p) x0) (hgT : Gl Y T) (hmT : Y.mg T = none) (hvT : bootBuiltins T = some (.type S)) (hk : PySem.W.kitOne Y.K (.ref D) (.type S) = some m) (hnT : T ≠ "__name__" := by decide) (hdT : (T == ("__debug__" : Str)) = false := by decide)
    (hs : starEach [.Name n p, .Name T p2] Y.env = (false, eval (.Name n p) Y.env) :: starEach [.Name T p2] Y.env := by rfl) (hs2 : starEach [.Name T p2] Y.env = (false, eval (.Name T p2) Y.env) :: starEach [] Y.env := by rfl) (hpl : (backTo pos (starEach [.Name T p2] Y.env)).any (·.1) = false := by rfl) :
    DE Y Γ (.Call (.Name "isinstance" p3) [.Name n p, .Name T p2] [] pos) (.bool m) := fun σ Hd H Q r q =>
  wE_of (pe_callB (call_isH h E) hg hm (by decide +kernel) (pa_cons pe_w (pa_cons (pe_bltn (v := .ty S) hgT hmT hvT rfl hnT hdT) pa_nil hs2) hs) (by decide) (by decide) hs hpl) (ha σ Hd H _ r fun v Hd1 H1 s1 i1 => by
    obtain ⟨e1, e2⟩ := ep.is i1
    rw [e1]
    exact ⟨.ty S, .type S, m, rfl, fun u hu => hu, hk, fun dd z => (e2 dd z).imp fun fs w => s1.s _ _ w, q _ Hd1 H1 s1 (.bl _)⟩)
end
open L2H (RoomH Hot1 PinOk HotC cxH inv_startH)
/-- what the def promises there: S tells of the error's place and class, and of the arguments -/
structure FnP (P : Program) (w : World) (K : PySem.W.Frag) (mg : Str → Option Value) (base : Heap) (k : Nat) (f : Addr) (fd : FuncData) (ps : List Str) (S : Addr → Value → Option Addr → List D → Res → Prop) : Prop where
  len : ∀ a c d0 ds r, S a c d0 ds r → ds.length = ps.length
  run : ∀ (A : Around) (outer : List Env) (s : Shared) (H : Hp) (us : List Value) (vs : List V) (Q : VK) (E : XK) (a : Addr) (c : Value) (d0 : Option Addr) (oe : Obj), RoomH k A → Hot1 A (a, oe) → PinOk outer H s (a, oe) → L2N.Zn c d0 oe → (∃ vs, oe.data = .fields vs) →
    Env0 P w K mg base A outer s H → BindsTo s fd ⟨us, []⟩ (ps.zip us) → Vals vs us → spF K (S a c d0) vs H Q E → codeAny (model P w) A (.call (.ref f) ⟨us, []⟩) (CR (L2N.CX P w) outer P w H s Q E) s
section
variable {P : Program} {w : World} {K : PySem.W.Frag} {mg : Str → Option Value} {base : Heap}
theorem ends_of {X : Cx} {Hs H : Hp} {r : Res} {Q : VK} {E : XK} {s2 : Shared} {pins : List (Addr × Obj)} (hw : ResW X.K Hs H Q E r) {fl : Flow} (q : SP X pins ((AD.ret r).ends X.K Hs H Hs) fl s2) : SP X pins { nx := fun _ H' => Q .non H', rt := Q } fl s2 := by
  cases fl with
  | next =>
    obtain ⟨σ', H', I', Γ', Hd', r', q'⟩ := q
    have q2 : r = .ok (.val .none) := q'
    subst q2
    exact ⟨σ', H', I', hw .non H' ⟨Hd', r'.e, .non⟩⟩
  | ret v =>
    obtain ⟨v', σ', H', I', rv, o, q1, q2⟩ := q
    have q3 : r = .ok o := q1
    subst q3
    exact ⟨v', σ', H', I', rv, hw v' H' q2⟩
  | brk =>
    obtain ⟨_, _, _, _, _, _, z⟩ := q
    exact z.elim
  | cont =>
    obtain ⟨_, _, _, _, _, _, z⟩ := q
    exact z.elim
theorem fnP_ok {x qual : Str} {st : Stmt} {f : Addr} {fd : FuncData} {N ps : List Str} {k : Nat} {S : Addr → Value → Option Addr → List D → Res → Prop} (F : Fun K x qual st f fd) (sc : FnScope N ps (defScope st)) (len : ∀ a c d0 ds r, S a c d0 ds r → ds.length = ps.length)
    (body : ∀ (cdv : Value) (Ar : Around) (outer : List Env) (s : Shared) (H : Hp) (E : XK) (p : Addr × Obj) (c : Value) (d0 : Option Addr), HotE (cxH (L2N.CX P w) P w K mg base N qual (defScope st) f cdv Ar outer s H E p) p.1 c d0 → RoomH k (Ar.deeper (envOfC qual (defScope st) s.heap.objs.size f cdv)) → ∀ ds r, S p.1 c d0 ds r →
      DS (cxH (L2N.CX P w) P w K mg base N qual (defScope st) f cdv Ar outer s H E p) (startC N ds) (defBody st) (AD.ret r)) : FnP P w K mg base (k + 1) f fd ps S := by
  obtain ⟨oc, od, kV, doc, pm, an, cdv, ct, osl, rfl, lk, hcd⟩ := F.ex
  refine ⟨len, fun A outer s H us vs Q E a c d0 oe hr hot hpin hz hd e0 hb rv ⟨Hs, ds, r, e, al, hs, hw⟩ => ?_⟩
  have hl : vs.length = ps.length := by rw [al.len]; exact len a c d0 ds r hs
  have up : ∀ b o, base.get? b = some o → s.heap.get? b = some o := fun b o q => (e0.bs b o q).1
  have kin := e0.mod.kin.keeps up
  have tab : ∀ y ∈ ps.zip us, (defScope st).names.lookup y.1 = some .local ∨ ((defScope st).names.lookup y.1 = some .cell ∧ ((cellsFrom (s.heap.objs.size + 1) (defScope st).names []).lookup y.1).isSome = true) := by
    rintro ⟨n, v⟩ hy
    rcases sc.par n (List.of_mem_zip hy).1 with q | q
    · exact Or.inl q
    · exact Or.inr ⟨q, PySem.W.cellsFrom_some _ _ _ (Or.inl q)⟩
  refine codeAny_call_function hr.depth (kin _ _ lk) rfl sc.co sc.gen rfl (PySem.W.codeRec_of kin hcd) (hb _ _ _ _ (wpAny_newFunctionEnv_cells sc.kind tab fun env he s1 ic => ?_))
  subst he
  refine ⟨(e0.mod.nolimit.keeps up).keeps ic.toInCall.keep, codeAny_func ?_⟩
  let Y := cxH (L2N.CX P w) P w K mg base N qual (defScope st) f cdv A outer s H E (a, oe)
  have hotY : HotE Y a c d0 := ⟨oe, List.mem_cons_self, hot.1, hz, hd⟩
  have tk : L2N.Takes Y (AD.W K Hs H Hs (AD.ret r).ex) := (L2N.takes_of (X := Y) (E := E) rfl rfl rfl rfl).imp fun cls d σ H' ⟨C, fs, G, Hd, e1, e2, e3, e4⟩ => by
    subst e1
    have e2' : r = .exc C fs := e2
    subst e2'
    exact hw d H' (e4.is e3.e)
  have I : Inv Y [] (L2.start N vs) H s1 := inv_startH sc hpin e0 hl rv ic
  refine wpAny_mono (thn (body cdv A outer s H E (a, oe) c d0 hotY (hr.deeper _) ds r hs Hs H Hs tk _ Hs H (start_R e al) [] s1 I) fun fl s2 q => ends_of hw q) (fun fl s2 q => ?_) fun u s2 q => q
  have fin : ∀ {σ' : St} {H' : Hp} {v : V} {u : Value}, Inv Y [] σ' H' s2 → RelV v u → Q v H' → CE outer P w H s Q u s2 := fun {σ' H' v u} J rr qq => ⟨v, H', J.os, J.bare, J.base, J.hok, rr, qq⟩
  cases fl with
  | ret u => obtain ⟨v, σ', H', J, rr, qq⟩ := q; exact fin J rr qq
  | next => obtain ⟨σ', H', J, qq⟩ := q; exact fin (v := V.non) (u := Value.none) J rfl qq
  | brk => obtain ⟨_, _, _, z⟩ := q; exact z.elim
  | cont => obtain ⟨_, _, _, z⟩ := q; exact z.elim
structure HasP (P : Program) (w : World) (K : PySem.W.Frag) (mg : Str → Option Value) (base : Heap) (x : Str) (k : Nat) (S : Addr → Value → Option Addr → List D → Res → Prop) : Prop where
  ok : ∃ f fd ps, FnP P w K mg base k f fd ps S ∧ mg x = some (.ref f) ∧ PySem.W.keepIn K (.ref f) = true ∧ Binds K fd ps []
theorem HasP.mono {x : Str} {j k : Nat} {S : Addr → Value → Option Addr → List D → Res → Prop} (h : HasP P w K mg base x j S) (le : j ≤ k) : HasP P w K mg base x k S := by
  obtain ⟨f, fd, ps, F, a, b, c⟩ := h.ok
  exact ⟨f, fd, ps, ⟨F.len, fun A outer s H us vs Q E a c d0 oe hr => F.run A outer s H us vs Q E a c d0 oe (hr.mono le)⟩, a, b, c⟩
end
section
variable {X : Cx} {Γ : List Cell} {e : Expr} {es : List Expr} {d : D} {ds rs : List D} {k : Nat} {x : Str} {S : Addr → Value → Option Addr → List D → Res → Prop} {pos p : Pos} {a : Addr} {c : Value} {d0 : Option Addr}
theorem callP_core (h : HasP X.prog X.w X.K X.mg X.base x k S) (hot : HotE X a c d0) (hr : RoomH k X.A) (hg : Gl X x) (ha : DA X Γ (e :: es) ds) {o : Out} (hs : S a c d0 ds (.ok o)) (hdb : (x == ("__debug__" : Str)) = false) (he : starEach (e :: es) X.env = (false, eval e X.env) :: starEach es X.env)
    (hpl : (backTo pos (starEach es X.env)).any (·.1) = false) {σ : St} {Hd H : Hp} {Q : VK} (r : Rl X.K Γ σ Hd H) (q : ∀ v Hd1 H1 H2, Stp Hd H Hd1 H1 → OutIs X.K Hd1 H1 o v H2 → Q v H2) : wE X (.Call (.Name x p) (e :: es) [] pos) σ H Q := by
  obtain ⟨f, fd, ps, F, hm, hk, hb⟩ := h.ok
  constructor
  intro pins s I
  refine wpAny_Call_Name_kw (ld_glob I hg hm ?_ hdb)
  refine PySem.W.callWith_K (h₀ := X.base) I.ok.mod.kin hk (thn (pa_w.run pos pins s σ H (fun vs H1 => ∃ Hd1, Stp Hd H Hd1 H1 ∧ IsAll X.K Hd1 vs ds) I (ha σ Hd H _ r fun vs Hd1 H1 s1 i1 => ⟨Hd1, s1, i1⟩)) fun us s1 ⟨vs, H1, I1, rv, Hd1, s1', i1⟩ => ⟨I1.kIn, ?_⟩) he hpl
  obtain ⟨oe, hp, hh, hz, vs0, hv⟩ := hot.ex
  have hl : us.length = ps.length := by rw [← rv.length, i1.len]; exact F.len a c d0 ds _ hs
  have b := hb s1 us I1.kIn (by rw [List.append_nil]; exact hl)
  rw [List.append_nil] at b
  obtain ⟨g1, g2, g3, g4, g5⟩ := I1.pin (a, oe) (List.mem_append_left _ hp)
  have hpin : PinOk X.stack H1 s1 (a, oe) := ⟨g1, g2, fun hm => by
    rcases List.mem_cons.mp (I1.stkSub a hm) with z | z
    · exact g3 z
    · exact g4 z, g5⟩
  have sp : spF X.K (S a c d0) vs H1 Q (fun _ _ _ => False) := ⟨Hd1, ds, .ok o, s1'.s, i1, hs, fun v H2 w => q v Hd1 H1 H2 s1' w⟩
  refine wpAny_call (codeAny_mono (F.run X.A X.stack s1 H1 us vs Q (fun _ _ _ => False) a c d0 oe hr ⟨hh, vs0, hv, hz.2.2 vs0 hv⟩ hpin hz ⟨vs0, hv⟩ I1.env0 b rv sp) fun res s2 hq => ?_)
  cases res with
  | error u =>
    obtain ⟨_, _, _, _, _, _, _, _, _, _, _, _, z⟩ := hq
    exact z.elim
  | ok fl =>
    cases fl with
    | ret u => exact I1.after hq
    | next => exact hq.elim
    | brk => exact hq.elim
    | cont => exact hq.elim
theorem de_callP (h : HasP X.prog X.w X.K X.mg X.base x k S) (hot : HotE X a c d0) (hr : RoomH k X.A) (hg : Gl X x) (ha : DA X Γ (e :: es) ds) (hs : S a c d0 ds (.ok (.val d))) (hdb : (x == ("__debug__" : Str)) = false := by decide)
    (he : starEach (e :: es) X.env = (false, eval e X.env) :: starEach es X.env := by rfl) (hpl : (backTo pos (starEach es X.env)).any (·.1) = false := by rfl) : DE X Γ (.Call (.Name x p) (e :: es) [] pos) d := fun σ Hd H Q r k =>
  callP_core h hot hr hg ha hs hdb he hpl r fun v Hd1 H1 H2 s1 ⟨Hd2, s2, i2⟩ => k v Hd2 H2 (s1.trans s2) i2
theorem dn_callP (h : HasP X.prog X.w X.K X.mg X.base x k S) (hot : HotE X a c d0) (hr : RoomH k X.A) (hg : Gl X x) (ha : DA X Γ (e :: es) ds) (hs : S a c d0 ds (.ok (.newL rs))) (hdb : (x == ("__debug__" : Str)) = false := by decide)
    (he : starEach (e :: es) X.env = (false, eval e X.env) :: starEach es X.env := by rfl) (hpl : (backTo pos (starEach es X.env)).any (·.1) = false := by rfl) : DN X Γ (.Call (.Name x p) (e :: es) [] pos) rs := fun σ Hd H Q r k =>
  callP_core h hot hr hg ha hs hdb he hpl r fun v Hd1 H1 H2 s1 ⟨Hd2, l, vs, e1, s2, h0, hd, h1, i2⟩ => by
    subst e1
    exact k l vs Hd2 H2 (s1.trans s2) (ex_none s1.h h0) hd h1 i2
end
theorem room_hot {X : Cx} {a : Addr} {pn : List (Addr × Obj)} {j k : Nat} (r : Room k X.A) (h : j ≤ k) : RoomH j (X.suite a pn).A := by
  have q := (L2H.roomH_of r).mono h
  exact ⟨q.dp, q.un⟩
/-- which of eighteen are 0 or j -/
def onlyB (j : Int) : List D := (List.range 18).map fun k : Nat => .bool (inD (.int (k : Int)) [.int 0, .int j])
section
variable {K : PySem.W.Frag} {D C : Addr} {b : Bool}
theorem kcls_of (i : PySem.W.isClsIn K C = true) (t : PySem.W.typeIn K (.ref C) = some (.type "type")) (s : PySem.W.subIn K (.ref D) (.ref C) = some b) : PySem.W.kitCls K (.ref D) (.ref C) = some b := by
  have i' : (PySem.W.clsIn K C).isSome = true := i
  unfold PySem.W.kitCls
  simp only [i', t]
  exact s
theorem kone_of (self : PySem.W.subIn K (.ref D) (.ref D) = some true) (i : PySem.W.isClsIn K C = true) (t : PySem.W.typeIn K (.ref C) = some (.type "type")) (s : PySem.W.subIn K (.ref D) (.ref C) = some b) : PySem.W.kitOne K (.ref D) (.ref C) = some b := by
  unfold PySem.W.kitOne
  by_cases h : D = C
  · subst h
    rw [self] at s
    cases s
    simp
  · rw [if_neg (by simpa using h)]
    exact kcls_of i t s
theorem kone_ve (s : PySem.W.subIn K (.ref D) (.type "ValueError") = some b) : PySem.W.kitOne K (.ref D) (.type "ValueError") = some b := by
  unfold PySem.W.kitOne
  rw [if_neg (by simp)]
  exact s
theorem exm_by (e : PySem.W.subIn K (.ref C) (.type "BaseException") = some true) (i : PySem.W.isClsIn K C = true) (t : PySem.W.typeIn K (.ref C) = some (.type "type")) (s : PySem.W.subIn K (.ref D) (.ref C) = some b) : PySem.W.exmOne K (.ref D) (.ref C) = some b := by
  unfold PySem.W.exmOne
  rw [if_pos (by rw [e]; rfl)]
  exact kcls_of i t s
end
end Hf

namespace Hf
open PySem PySem.Spec PyProof.Rows L2
open Evl (Ex)
def lk (d : Addr) (o : Obj) (u : HO) (H : Hp) : Hp := fun a => if a = d then (H d).map (fun _ => HO.frz o u) else H a
section
variable {d a : Addr} {o : Obj} {u : HO} {H A B Hd Hd' H' Hs H0 Hb : Hp} {K : PySem.W.Frag} {kvs : List (Key × V)}
theorem lk_ne (h : a ≠ d) : lk d o u H a = H a := if_neg h
theorem lk_at : lk d o u H d = (H d).map (fun _ => HO.frz o u) := if_pos rfl
theorem lk_some {x : HO} (h : H d = some x) : lk d o u H d = some (.frz o u) := by rw [lk_at, h]; rfl
theorem lk_none (h : H a = none) : lk d o u H a = none := by
  by_cases e : a = d
  · subst e; rw [lk_at, h]; rfl
  · rw [lk_ne e]; exact h
theorem of_lk_none (h : lk d o u H a = none) : H a = none := by
  by_cases e : a = d
  · subst e
    rw [lk_at] at h
    cases q : H a with
    | none => rfl
    | some x => rw [q] at h; cases h
  · rw [lk_ne e] at h; exact h
theorem of_lk_some {x : HO} (h : lk d o u H a = some x) : ∃ y, H a = some y := by
  cases q : H a with
  | none => rw [lk_none q] at h; cases h
  | some y => exact ⟨y, rfl⟩
theorem Ex.lk (h : Ex A B) : Ex (lk d o u A) (lk d o u B) := fun a x q => by
  by_cases e : a = d
  · subst e
    obtain ⟨y, hy⟩ := of_lk_some q
    rw [lk_some hy] at q
    rw [lk_some (h _ _ hy)]; exact q
  · rw [lk_ne e] at q ⊢
    exact h _ _ q
theorem Stp.lk (s : Stp Hd H Hd' H') : Stp (lk d o u Hd) (lk d o u H) (lk d o u Hd') (lk d o u H') :=
  ⟨Ex.lk s.d, Ex.lk s.h, Ex.lk s.s, fun a x q n => by
    obtain ⟨y, hy⟩ := of_lk_some q
    exact lk_none (s.f a y hy (of_lk_none n))⟩
theorem rd_lk {w : HO} (hd : H d = some (.dK kvs)) (r : Rd H a w) : Rd (lk d o (.dK kvs) H) a w := by
  by_cases e : a = d
  · subst e
    rcases r with r | ⟨x, r⟩
    · rw [hd] at r; cases r
      exact .inr ⟨o, lk_some hd⟩
    · rw [hd] at r; cases r
  · unfold Rd
    rw [lk_ne e]
    exact r
mutual
theorem Is.lk (hd : H d = some (.dK kvs)) : ∀ {v : V} {x : D}, Is K H v x → Is K (lk d o (.dK kvs) H) v x
  | _, _, .non => .non
  | _, _, .bl b => .bl b
  | _, _, .int i => .int i
  | _, _, .str x => .str x
  | _, _, .lst s a => .lst (s.imp (rd_lk hd) id) (IsAll.lk hd a)
  | _, _, .tup s a => .tup (s.imp (rd_lk hd) id) (IsAll.lk hd a)
  | _, _, .dic s a => .dic (rd_lk hd s) (IsKv.lk hd a)
  | _, _, .obj s => .obj (by rw [lk_ne (fun e => by rw [e, hd] at s; cases s)]; exact s)
  | _, _, .ptr a => .ptr a
  | _, _, .exc s h => .exc (by rw [lk_ne (fun e => by rw [e, hd] at s; cases s)]; exact s) (Is.lk hd h)
theorem IsAll.lk (hd : H d = some (.dK kvs)) : ∀ {v : List V} {x : List D}, IsAll K H v x → IsAll K (lk d o (.dK kvs) H) v x
  | _, _, .nil => .nil
  | _, _, .cons a b => .cons (Is.lk hd a) (IsAll.lk hd b)
theorem IsKv.lk (hd : H d = some (.dK kvs)) : ∀ {v : List (Key × V)} {x : List (D × D)}, IsKv K H v x → IsKv K (lk d o (.dK kvs) H) v x
  | _, _, .nil => .nil
  | _, _, .cons a b => .cons (Is.lk hd a) (IsKv.lk hd b)
end
theorem rd_un {w : HO} (hd : H d = some (.frz o (.dK kvs))) (hw : ∀ x y, w ≠ .frz x y) (r : Rd H a w) : Rd (upd H d (.dK kvs)) a w := by
  by_cases e : a = d
  · subst e
    rcases r with r | ⟨x, r⟩
    · rw [hd] at r; cases r; exact absurd rfl (hw _ _)
    · rw [hd] at r; cases r
      exact .inl upd_same
  · unfold Rd
    rw [upd_ne e]
    exact r
theorem carry_un (hd : H d = some (.frz o (.dK kvs))) : Carry H (upd H d (.dK kvs)) :=
  ⟨fun a w hw r => rd_un hd hw r, fun a C dx h => by rw [upd_ne (fun e => by rw [e, hd] at h; cases h)]; exact h, fun a fs h => by rw [upd_ne (fun e => by rw [e, hd] at h; cases h)]; exact h, fun a o xs h => by rw [upd_ne (fun e => by rw [e, hd] at h; cases h)]; exact h⟩
theorem carry_lk (hd : H d = some (.dK kvs)) : Carry H (lk d o (.dK kvs) H) :=
  ⟨fun a w hw r => rd_lk hd r, fun a C dx h => by rw [lk_ne (fun e => by rw [e, hd] at h; cases h)]; exact h, fun a fs h => by rw [lk_ne (fun e => by rw [e, hd] at h; cases h)]; exact h, fun a o xs h => by rw [lk_ne (fun e => by rw [e, hd] at h; cases h)]; exact h⟩
theorem R.lk {Γ : List Cell} {σ : St} (r : R K Hs H0 Hb Γ σ Hd H) (hd : Hd d = some (.dK kvs)) : R K (lk d o (.dK kvs) Hs) (lk d o (.dK kvs) H0) (lk d o (.dK kvs) Hb) Γ σ (lk d o (.dK kvs) Hd) (lk d o (.dK kvs) H) := by
  refine ⟨⟨r.l.len, Ex.lk r.l.sub, fun i c ov h1 h2 => ?_, r.l.apart⟩, r.e.lk, Ex.lk r.b, fun i c ov l h1 h2 q => lk_none (r.o i c ov l h1 h2 q)⟩
  have q := r.l.cell i c ov h1 h2
  have ne : ∀ {l}, Hd l = none → l ≠ d := fun h e => by rw [e, hd] at h; cases h
  cases c with
  | no => trivial
  | d x => obtain ⟨v, e, iv⟩ := q; exact ⟨v, e, iv.lk hd⟩
  | ml ds => obtain ⟨l, vs, e, h3, h4, h5⟩ := q; exact ⟨l, vs, e, lk_none h3, by rw [lk_ne (ne h3)]; exact h4, h5.lk hd⟩
  | md es => obtain ⟨l, vs, e, h3, h4, h5⟩ := q; exact ⟨l, vs, e, lk_none h3, by rw [lk_ne (ne h3)]; exact h4, h5.lk hd⟩
  | cu c => exact c.carry (carry_lk hd) (fun l o => ⟨lk_none (c.has q o).1, lk_ne (ne (c.has q o).1)⟩) q
theorem R.un {Γ : List Cell} {σ : St} {Hb2 : Hp} (hd : Hd d = some (.dK kvs)) (es : Ex Hs Hd) (e0 : Ex H0 H) (eH : H d = some (.dK kvs)) (eb : Ex Hb2 Hd) (r : R K (Hf.lk d o (.dK kvs) Hs) (Hf.lk d o (.dK kvs) H0) (Hf.lk d o (.dK kvs) Hd) Γ σ Hd' H') :
    H' d = some (.frz o (.dK kvs)) ∧ R K Hs H0 Hb2 Γ σ (upd Hd' d (.dK kvs)) (upd H' d (.dK kvs)) := by
  have hd' : Hd' d = some (.frz o (.dK kvs)) := r.b _ _ (lk_some hd)
  have hh' : H' d = some (.frz o (.dK kvs)) := r.l.sub _ _ hd'
  have exu : ∀ {A B C : Hp}, Ex A C → C d = some (.dK kvs) → Ex (Hf.lk d o (.dK kvs) A) B → Ex A (upd B d (.dK kvs)) := fun {A B C} h hc e a x q => by
    by_cases z : a = d
    · subst z
      have := h _ _ q
      rw [hc] at this; cases this
      exact upd_same
    · rw [upd_ne z]
      exact e a x (by rw [lk_ne z]; exact q)
  have ne : ∀ {l}, Hd' l = none → l ≠ d := fun h e => by rw [e, hd'] at h; cases h
  refine ⟨hh', ⟨r.l.len, fun a x q => ?_, fun i c ov h1 h2 => ?_, r.l.apart⟩, ⟨exu es hd r.e.d, exu e0 eH r.e.h, fun a x q => ?_, fun a x q n => ?_⟩, exu eb hd (fun a x q => r.b a x (Ex.lk eb a x q)), fun i c ov l h1 h2 q => of_lk_none (r.o i c ov l h1 h2 q)⟩
  · by_cases z : a = d
    · subst z; rw [upd_same] at q ⊢; exact q
    · rw [upd_ne z] at q ⊢; exact r.l.sub a x q
  · have q := r.l.cell i c ov h1 h2
    cases c with
    | no => trivial
    | d x => obtain ⟨v, e, iv⟩ := q; exact ⟨v, e, iv.carry (carry_un hd')⟩
    | ml ds => obtain ⟨l, vs, e, h3, h4, h5⟩ := q; exact ⟨l, vs, e, by rw [upd_ne (ne h3)]; exact h3, by rw [upd_ne (ne h3)]; exact h4, h5.carry (carry_un hd')⟩
    | md es => obtain ⟨l, vs, e, h3, h4, h5⟩ := q; exact ⟨l, vs, e, by rw [upd_ne (ne h3)]; exact h3, by rw [upd_ne (ne h3)]; exact h4, h5.carry (carry_un hd')⟩
    | cu c => exact c.carry (carry_un hd') (fun l o => ⟨by rw [upd_ne (ne (c.has q o).1)]; exact (c.has q o).1, upd_ne (ne (c.has q o).1)⟩) q
  · by_cases z : a = d
    · subst z; rw [upd_same] at q ⊢; exact q
    · rw [upd_ne z] at q ⊢; exact r.e.s a x q
  · by_cases z : a = d
    · subst z
      have w := r.e.f a _ hd' (lk_none n)
      exact of_lk_none w
    · rw [upd_ne z] at q
      exact of_lk_none (r.e.f a x q (lk_none n))
end
/-- what stands in a dict, pair by pair -/
def prsD (es : List (D × D)) : List D := es.map fun p => .tuple [p.1, p.2]
section
variable {X : Cx} {Γ : List Cell} {A : AD} {rest body : List Stmt} {tg it : Expr} {items : List D} {pos p apos cpos tpos : Pos} {x : Str} {n : Nat} {es : List (D × D)} {elts : List Expr} {kk : Nat}
theorem for_core {wi : TI} (Pv Bk : Nat → List Cell → Prop) (Rt : Out → Prop) (Ex' : Addr → List (Str × D) → List Cell → Prop) (stf : Nat → D → List (Nat × D)) {Hs H0 Hb : Hp} {σ : St} {Hd H : Hp} {Dn : Ends}
    (r : R X.K Hs H0 Hb Γ σ Hd H) (hwi : ∀ (Q : It → Hp → Prop), (∀ J Hd' H', Stp Hd H Hd' H' → ItOk X.K J items Hd' → Q J H') → wi σ H Q)
    (tk : ∀ Hb', Ex Hb Hb' → L2N.Takes X (AD.W X.K Hs H0 Hb' Ex')) (hg : ∀ i d, items[i]? = some d → DG X tg d (stf i d)) (h0 : Pv 0 Γ)
    (hb : ∀ i d Γ', items[i]? = some d → Pv i Γ' → DS X (setC Γ' (stf i d)) body { nx := Pv (i + 1), ct := Pv (i + 1), bk := Bk (i + 1), rt := Rt, ex := Ex' })
    (nx : ∀ Γ' σ' Hd' H', R X.K Hs H0 Hb Γ' σ' Hd' H' → Ex Hd Hd' → Pv items.length Γ' → Dn.nx σ' H')
    (bk : ∀ i Γ' σ' Hd' H', R X.K Hs H0 Hb Γ' σ' Hd' H' → Ex Hd Hd' → Bk i Γ' → Dn.nx σ' H')
    (rt : ∀ o v H', Rt o → OutIs X.K Hs H0 o v H' → Dn.rt v H') : tFor wi (wG X tg) (wSs X body) Dn σ H := by
  refine hwi _ fun J Hd1 H1 s1 io => ?_
  have rb1 : Ex Hb Hd1 := r.b.trans s1.d
  refine ⟨fun i m σ' H' => i + m = items.length ∧ ∃ Γ' Hd', R X.K Hs H0 Hb Γ' σ' Hd' H' ∧ Ex Hd1 Hd' ∧ Pv i Γ', ⟨items.length, by omega, Γ, Hd1, r.stp s1, Ex.refl _, h0⟩, ?_⟩
  rintro i m σ' H' ⟨em, Γ', Hd', r', e', q⟩
  obtain ⟨g1, g2⟩ := io i Hd' H' e' r'.l.sub
  by_cases hi : i < items.length
  · have e1 := List.getElem?_eq_getElem hi
    obtain ⟨go, yl⟩ := g1 _ e1
    refine .inr ⟨go, fun σ2 H2 => ∃ Γ2 Hd2, R X.K Hs H0 Hb Γ2 σ2 Hd2 H2 ∧ Ex Hd1 Hd2 ∧ Pv (i + 1) Γ2, fun σ2 H2 ⟨Γ2, Hd2, a, b, c⟩ => ⟨m - 1, by omega, by omega, Γ2, Hd2, a, b, c⟩, fun y H3 hy => ?_⟩
    obtain ⟨Hd3, s3, ix⟩ := yl y H3 hy
    refine hg i _ e1 σ' Hd3 H3 y _ ix s3.s fun ws hw => ?_
    have r3 := (r'.stp s3).setV hw
    constructor
    intro pins s I
    have r4 : R X.K Hs H0 Hd1 (setC Γ' (stf i items[i])) (setV σ' (stf i items[i]) ws) Hd3 H3 := ⟨r3.l, r3.e, e'.trans s3.d, r3.o⟩
    have lo : ∀ {Γ2 σ2 Hd2 H2}, R X.K Hs H0 Hd1 Γ2 σ2 Hd2 H2 → R X.K Hs H0 Hb Γ2 σ2 Hd2 H2 := fun a => ⟨a.l, a.e, rb1.trans a.b, a.o⟩
    refine thn ((hb i _ Γ' e1 q Hs H0 Hd1 (tk Hd1 rb1) _ Hd3 H3 r4).run pins s I) fun f s' z => ?_
    cases f with
    | next =>
      obtain ⟨σ2, H2, I2, Γ2, Hd2, a, b⟩ := z
      exact ⟨σ2, H2, I2, Γ2, Hd2, lo a, a.b, b⟩
    | cont =>
      obtain ⟨σ2, H2, I2, Γ2, Hd2, a, b⟩ := z
      exact ⟨σ2, H2, I2, Γ2, Hd2, lo a, a.b, b⟩
    | brk =>
      obtain ⟨σ2, H2, I2, Γ2, Hd2, a, b⟩ := z
      exact ⟨σ2, H2, I2, bk _ Γ2 σ2 Hd2 H2 (lo a) (s1.d.trans a.b) b⟩
    | ret v =>
      obtain ⟨v', σ2, H2, I2, rv, o, q1, q2⟩ := z
      exact ⟨v', σ2, H2, I2, rv, rt o v' H2 q1 q2⟩
  · refine .inl ⟨g2 (by omega), ?_⟩
    have ei : i = items.length := by omega
    subst ei
    exact nx Γ' σ' Hd' H' r' (s1.d.trans e') q
theorem kv_key {K : PySem.W.Frag} {H : Hp} (k : Key) : Is K H (kV k) (kD k) := by
  cases k with
  | inl i => exact .int i
  | inr z => exact .str z
theorem kv_get {K : PySem.W.Frag} {H : Hp} : ∀ {kvs : List (Key × V)} {es : List (D × D)} {i : Nat} {q : D × D}, IsKv K H kvs es → es[i]? = some q → ∃ k v, kvs[i]? = some (k, v) ∧ q.1 = kD k ∧ Is K H v q.2
  | _, _, i, q, .nil, h => by simp at h
  | _, _, 0, q, .cons (k := k) a b, h => by
    simp at h; subst h; exact ⟨k, _, rfl, rfl, a⟩
  | _, _, i + 1, q, .cons a b, h => by
    obtain ⟨k, v, h1, h2, h3⟩ := kv_get (i := i) b (by simpa using h)
    exact ⟨k, v, by simpa using h1, h2, h3⟩
theorem kv_len {K : PySem.W.Frag} {H : Hp} : ∀ {kvs : List (Key × V)} {es : List (D × D)}, IsKv K H kvs es → kvs.length = es.length
  | _, _, .nil => rfl
  | _, _, .cons a b => by rw [List.length_cons, List.length_cons, kv_len b]
theorem itok_items {K : PySem.W.Frag} {d : Addr} {o : Obj} {kvs : List (Key × V)} {Hd : Hp} (hd : Hd d = some (.frz o (.dK kvs))) (kv : IsKv K Hd kvs es) : ItOk K (Iti d o kvs) (prsD es) Hd := fun i Hd2 H2 e1 e2 => by
  have hl := kv_len kv
  have h2 := e2 _ _ (e1 _ _ hd)
  refine ⟨fun dd h => ?_, fun h => ⟨h2, by rw [hl, h]; simp [prsD]⟩⟩
  unfold prsD at h
  rw [List.getElem?_map] at h
  obtain ⟨q, hq, rfl⟩ := Option.map_eq_some_iff.mp h
  obtain ⟨k, v, g1, g2, g3⟩ := kv_get kv hq
  refine ⟨⟨h2, (List.getElem?_eq_some_iff.mp g1).1⟩, fun y H3 hy => ?_⟩
  obtain ⟨T, k', v', f1, rfl, hT, rfl⟩ := hy
  rw [g1] at f1; cases f1
  exact ⟨upd Hd2 T _, Stp.newD e2 hT, .tup (.inl (.inl upd_same)) (.cons (g2 ▸ kv_key k) (.cons (g3.mono (e1.trans (Ex.new (ex_none e2 hT)))) .nil))⟩
theorem upd_lk {H : Hp} {d : Addr} {o : Obj} {u : HO} (h : H d = some u) : upd H d (.frz o u) = lk d o u H := by
  funext a
  by_cases e : a = d
  · subst e; rw [upd_same, lk_some h]
  · rw [upd_ne e, lk_ne e]
theorem no_takes {Hs H0 Hb : Hp} : L2N.Takes X (AD.W X.K Hs H0 Hb fun _ _ _ => False) := fun u s' ⟨_, _, _, _, _, _, _, _, _, _, _, _, _, _, _, _, C2, _, _, _, _, z, _⟩ => z.elim
theorem ds_forItems (Pv : Nat → List Cell → Prop) (stf : Nat → D → List (Nat × D)) (hn : Γ[n]? = some (.d (.dict es))) (hk : ∀ q ∈ es, ∃ k, q.1 = kD k) (hx : PE X (.Name x p) (tVar n)) (hp : PassesOwn (model X.prog X.w) X.A X.env X.xe) (hc : X.calm = true)
    (hg : ∀ i d, (prsD es)[i]? = some d → DG X (.Tuple elts kk tpos) d (stf i d)) (h0 : Pv 0 Γ)
    (hb : ∀ i d Γ', (prsD es)[i]? = some d → Pv i Γ' → DS X (setC Γ' (stf i d)) body { nx := Pv (i + 1), ct := Pv (i + 1), bk := fun Γ2 => DS X Γ2 rest A, rt := fun _ => False })
    (hd : ∀ Γ', Pv (prsD es).length Γ' → DS X Γ' rest A) (hbase : attributeBase (.Name x p) "items" X.env (eval (.Name x p) X.env) = eval (.Name x p) X.env := by rfl) (hline : (apos.endLine == cpos.line) = true := by rfl)
    (hs : ∀ z, foldedSetIterable (.Call (.Attribute (.Name x p) "items" apos) [] [] cpos) X.env z = pure z := by intro _; rfl) : DS X Γ (.For (.Tuple elts kk tpos) (.Call (.Attribute (.Name x p) "items" apos) [] [] cpos) body [] pos :: rest) A := by
  intro Hs H0 Hb tk σ Hd H r
  have hl : n < σ.length := by rw [r.l.len]; exact (List.getElem?_eq_some_iff.mp hn).1
  have es1 := List.getElem?_eq_getElem hl
  obtain ⟨v, ev, iv⟩ := r.l.cell n _ _ hn es1
  have hpi : PI X (.Tuple elts kk tpos) (.Call (.Attribute (.Name x p) "items" apos) [] [] cpos) (iItems (tVar n)) := pi_items hx hbase hline
  have hps := ps_for hp hc hpi (pg_w (X := X)) (pss_w (X := X) (sts := body)) hs (pos := pos)
  generalize hD : PyData.dict es = dd at iv
  cases iv with
  | @dic d kvs es' rd kv =>
    cases hD
    rcases rd with rd | rd
    · -- locked while it is walked
      refine wSs_cons (wS_of (ps_lock hps) ⟨d, .dK kvs, r.l.sub _ _ rd, trivial, fun o => ?_⟩)
      have eH := r.l.sub _ _ rd
      rw [upd_lk eH]
      have rl := r.lk (o := o) rd
      refine for_core (items := prsD es) (Γ := Γ) Pv (fun _ Γ2 => DS X Γ2 rest A) (fun _ => False) (fun _ _ _ => False) stf (⟨rl.l, rl.e, Ex.refl _, rl.o⟩ : R X.K (lk d o (.dK kvs) Hs) (lk d o (.dK kvs) H0) (lk d o (.dK kvs) Hd) Γ σ _ _)
        (fun Q k => ⟨.ref d, by rw [es1, ev], d, o, kvs, rfl, lk_some eH, k _ _ _ (Stp.refl rl.l.sub) (itok_items (lk_some rd) (kv.lk rd))⟩)
        (fun _ _ => no_takes) hg h0 hb (fun Γ' σ' Hd' H' r' _ q => ?_) (fun i Γ' σ' Hd' H' r' _ q => ?_) (fun out u H' q1 q2 => ?_)
      · obtain ⟨hh, ru⟩ := r'.un rd r.e.d r.e.h eH r.b
        exact ⟨hh, hd Γ' q Hs H0 Hb tk _ _ _ ru⟩
      · obtain ⟨hh, ru⟩ := r'.un rd r.e.d r.e.h eH r.b
        exact ⟨hh, q Hs H0 Hb tk _ _ _ ru⟩
      · exact q1.elim
    · obtain ⟨o, rd⟩ := rd
      refine wSs_cons (wS_of hps ?_)
      exact for_core (items := prsD es) Pv (fun _ Γ2 => DS X Γ2 rest A) (fun _ => False) (fun _ _ _ => False) stf r
        (fun Q k => ⟨.ref d, by rw [es1, ev], d, o, kvs, rfl, r.l.sub _ _ rd, k _ _ _ (Stp.refl r.l.sub) (itok_items rd kv)⟩)
        (fun _ _ => no_takes) hg h0 hb (fun Γ' σ' Hd' H' r' _ q => hd Γ' q Hs H0 Hb tk _ _ _ r') (fun i Γ' σ' Hd' H' r' _ q => q Hs H0 Hb tk _ _ _ r') (fun _ _ _ q1 _ => q1.elim)
  | obj _ =>
    cases hD
    obtain ⟨k, e⟩ := hk _ List.mem_cons_self
    cases k <;> cases e
  | ptr _ =>
    cases hD
    obtain ⟨k, e⟩ := hk _ List.mem_cons_self
    cases k <;> cases e
  | exc _ _ =>
    cases hD
    obtain ⟨k, e⟩ := hk _ List.mem_cons_self
    cases k <;> cases e
  | _ => cases hD
end
def ikv (m : List (Int × D)) : List (D × D) := m.map fun p => (.int p.1, p.2)
def vI {α : Type} (m : List (Int × α)) (j : Int) : Option α := (m.find? fun p => decide (p.1 = j)).map (·.2)
def pI {α : Type} (m : List (Int × α)) (j : Int) (x : α) : List (Int × α) := if (m.any fun p => decide (p.1 = j)) = true then m.map (fun p => if p.1 = j then (p.1, x) else p) else m ++ [(j, x)]
theorem ikv_key (m : List (Int × D)) : ∀ q ∈ ikv m, ∃ k, q.1 = kD k := fun q hq => by
  obtain ⟨p, _, rfl⟩ := List.mem_map.mp hq
  exact ⟨.inl p.1, rfl⟩
section
variable {K : PySem.W.Frag} {H : Hp} {j : Int} {v : V} {x : D}
theorem kD_int {k : Key} {i : Int} (h : kD k = .int i) : k = .inl i := by
  cases k with
  | inl a => cases h; rfl
  | inr z => cases h
theorem ikv_nil {kvs : List (Key × V)} (h : IsKv K H kvs (ikv [])) : kvs = [] := by
  generalize e : ikv [] = es at h
  cases h with
  | nil => rfl
  | cons _ _ => cases e
theorem ikv_cons {kvs : List (Key × V)} {p : Int × D} {m : List (Int × D)} (h : IsKv K H kvs (ikv (p :: m))) : ∃ v r, kvs = (.inl p.1, v) :: r ∧ Is K H v p.2 ∧ IsKv K H r (ikv m) := by
  generalize e : ikv (p :: m) = es at h
  cases h with
  | nil => cases e
  | cons a b =>
    have e' : (PyData.int p.1, p.2) :: ikv m = _ := e
    injection e' with e1 e2
    injection e1 with e3 e4
    subst e2 e4
    have := kD_int e3.symm
    subst this
    exact ⟨_, _, rfl, a, b⟩
theorem IsKv.icons {kvs : List (Key × V)} {i : Int} {m : List (Int × D)} (a : Is K H v x) (b : IsKv K H kvs (ikv m)) : IsKv K H ((.inl i, v) :: kvs) (ikv ((i, x) :: m)) := .cons (k := .inl i) a b
theorem ikv_val : ∀ {m : List (Int × D)} {kvs : List (Key × V)}, IsKv K H kvs (ikv m) → (vI m j = none ∧ valV kvs (.inl j) = none) ∨ ∃ x v, vI m j = some x ∧ valV kvs (.inl j) = some v ∧ Is K H v x
  | [], kvs, h => by rw [ikv_nil h]; exact .inl ⟨rfl, rfl⟩
  | p :: m, kvs, h => by
    obtain ⟨v, r, rfl, a, b⟩ := ikv_cons h
    by_cases e : p.1 = j
    · exact .inr ⟨p.2, v, by simp [vI, e], valV_pos (p := ((Sum.inl p.1 : Key), v)) (by rw [e]), a⟩
    · have n1 : vI (p :: m) j = vI m j := by simp [vI, e]
      have n2 : valV (((Sum.inl p.1 : Key), v) :: r) (.inl j) = valV r (.inl j) := valV_neg (fun z => e (Sum.inl.inj z))
      rw [n1, n2]
      exact ikv_val b
theorem ikv_any : ∀ {m : List (Int × D)} {kvs : List (Key × V)}, IsKv K H kvs (ikv m) → (kvs.any fun kv => decide (kv.1 = (.inl j : Key))) = (m.any fun p => decide (p.1 = j))
  | [], kvs, h => by rw [ikv_nil h]; rfl
  | p :: m, kvs, h => by
    obtain ⟨v, r, rfl, a, b⟩ := ikv_cons h
    rw [List.any_cons, List.any_cons, ikv_any b]
    congr 1
    by_cases e : p.1 = j
    · simp [e]
    · simp [e]
theorem ikv_map (iv : Is K H v x) : ∀ {m : List (Int × D)} {kvs : List (Key × V)}, IsKv K H kvs (ikv m) → IsKv K H (kvs.map fun kv => if kv.1 = (.inl j : Key) then (kv.1, v) else kv) (ikv (m.map fun p => if p.1 = j then (p.1, x) else p))
  | [], kvs, h => by rw [ikv_nil h]; exact .nil
  | p :: m, kvs, h => by
    obtain ⟨u, r, rfl, a, b⟩ := ikv_cons h
    rw [List.map_cons, List.map_cons]
    by_cases e : p.1 = j
    · rw [if_pos (by rw [e]), if_pos e]
      exact IsKv.icons iv (ikv_map iv b)
    · rw [if_neg (fun z => e (Sum.inl.inj z)), if_neg e]
      exact IsKv.icons a (ikv_map iv b)
theorem ikv_snoc (iv : Is K H v x) : ∀ {m : List (Int × D)} {kvs : List (Key × V)}, IsKv K H kvs (ikv m) → IsKv K H (kvs ++ [(.inl j, v)]) (ikv (m ++ [(j, x)]))
  | [], kvs, h => by rw [ikv_nil h]; exact IsKv.icons iv (m := []) .nil
  | p :: m, kvs, h => by
    obtain ⟨u, r, rfl, a, b⟩ := ikv_cons h
    exact IsKv.icons a (ikv_snoc iv b)
theorem ikv_put {m : List (Int × D)} {kvs : List (Key × V)} (iv : Is K H v x) (h : IsKv K H kvs (ikv m)) : IsKv K H (putK kvs (.inl j) v) (ikv (pI m j x)) := by
  unfold putK pI
  rw [ikv_any h]
  split
  · exact ikv_map iv h
  · exact ikv_snoc iv h
end
section
variable {X : Cx} {Γ : List Cell} {A : AD} {rest : List Stmt} {a b e : Expr} {m : List (Int × D)} {i : Nat} {j : Int} {d d' : D} {x : Str} {p pos apos cpos spos : Pos}
/-- {} -/
theorem dm_nil : DM X Γ (.Dict [] [] pos) (ikv []) := fun σ Hd H Q r k => wE_of pe_dnewK fun l hl => k l [] Hd _ (Stp.new r.sub hl) hl (ex_none r.sub hl) upd_same .nil
/-- d[j] = e -/
theorem ds_putM (hu : X.A.units + 1 < cLine) (hi : Γ[i]? = some (.md (ikv m))) (hx : PE X (.Name x p) (tVar i)) (he : DE X Γ e d) (hk : DE X Γ b (.int j)) (hz : m.length < 100000)
    (hp : PS X (.Assign [.Subscript (.Name x p) b spos] e pos) (tAsg (wE X e) (gSub (wE X (.Name x p)) (wE X b) rSetD)))
    (h : DS X (Γ.set i (.md (ikv (pI m j d)))) rest A) : DS X Γ (.Assign [.Subscript (.Name x p) b spos] e pos :: rest) A := fun Hs H0 Hb tk σ Hd H r =>
  wSs_cons (wS_of hp (he σ Hd H _ r.l fun v Hd1 H1 s1 iv => by
    have r1 := r.stp s1
    obtain ⟨l, kvs, es, hd, h1, i1⟩ := own_dict r1 hi
    refine wE_of hx ⟨_, es, hk σ Hd1 H1 _ r1.l fun u Hd2 H2 s2 iu => ?_⟩
    cases iu
    have hl : kvs.length < sizeLine := Evl.sz_lt (by rw [kv_len i1]; simpa [ikv] using hz)
    unfold rSetD
    refine ⟨l, _, rfl, DPut.k (k := .inl j) (s2.h _ _ h1) hl, ?_⟩
    exact h Hs H0 Hb tk _ Hd2 _ ((r1.stp s2).chg hi es (show some (V.ref l) = some (.ref l) from rfl) ⟨l, _, rfl, s2.non hd h1, upd_same, ikv_put (iv.mono s2.d) (i1.mono s2.d)⟩)))
/-- d.get(j, x), d a dict of one's own -/
theorem de_getM (hu : X.A.units + 1 < cLine) (hi : Γ[i]? = some (.md (ikv m))) (hx : PE X (.Name x p) (tVar i)) (hk : DE X Γ a (.int j)) (hd : DE X Γ b d) (hm : M2 X (.Name x p) "get" apos a b cpos) : DE X Γ (.Call (.Attribute (.Name x p) "get" apos) [a, b] [] cpos) ((vI m j).getD d) := fun σ Hd H Q r k => by
  have hl : i < σ.length := by rw [r.len]; exact (List.getElem?_eq_some_iff.mp hi).1
  have es := List.getElem?_eq_getElem hl
  obtain ⟨l, kvs, e, hd0, h1, i1⟩ := r.cell i _ _ hi es
  refine wE_of (pe_dget2 hu hx pe_w pe_w hm) ⟨.ref l, by rw [es, e], l, rfl, .inl ⟨kvs, .inl h1⟩, hk σ Hd H _ r fun u Hd1 H1 s1 iu => hd σ Hd1 H1 _ (r.stp s1) fun z Hd2 H2 s2 iz => ?_⟩
  cases iu
  have g : DGet H2 l (kV (.inl j)) (valV kvs (.inl j)) := DGet.k (s2.h _ _ (s1.h _ _ h1))
  refine ⟨_, g, ?_⟩
  rcases ikv_val (j := j) (i1.mono (s1.d.trans s2.d)) with ⟨q1, q2⟩ | ⟨y, v, q1, q2, q3⟩
  · rw [q1] at k; rw [q2]; exact k _ Hd2 H2 (s1.trans s2) iz
  · rw [q1] at k; rw [q2]; exact k _ Hd2 H2 (s1.trans s2) q3
end
section
variable {X : Cx} {Γ : List Cell} {a b : Expr} {z w : Str} {k : Nat} {more : List Nat} {pos apos : Pos}
theorem de_sindex (ha : DE X Γ a (.str z)) (hb : DE X Γ b (.str w)) (ho : Builtin.Str.occurrences z w 0 z.length 1 = k :: more)
    (hp : PE X (.Call (.Attribute a "index" apos) [b] [] pos) (tBM X.K "str" (fun x xs H Q => ∃ a b i rest, x = .str a ∧ xs = [.str b] ∧ Builtin.Str.occurrences a b 0 a.length 1 = i :: rest ∧ Q (.int (i : Nat)) H) (wE X a) (tCons (wE X b) tNil))) : DE X Γ (.Call (.Attribute a "index" apos) [b] [] pos) (.int (k : Nat)) := fun σ Hd H Q r q =>
  wE_of hp (ha σ Hd H _ r fun v Hd1 H1 s1 i1 => by
    cases i1
    refine ⟨rfl, hb σ Hd1 H1 _ (r.stp s1) fun u Hd2 H2 s2 i2 => ?_⟩
    cases i2
    exact ⟨z, w, k, more, rfl, rfl, ho, q _ Hd2 H2 (s1.trans s2) (.int _)⟩)
end
section
variable {P : Program} {w : World} {K : PySem.W.Frag} {mg : Str → Option Value} {base : Heap}
theorem okD {x qual : Str} {st : Stmt} {dvs : List V} {kws : List (Str × V)} {f : Addr} {fd : FuncData} {N ps : List Str} {k : Nat} {S : List D → Res → Prop} (F : FunD K x qual (defArgs st) (defBody st) (defScope st) dvs kws f fd) (sc : FnScope N ps (defScope st)) (len : ∀ ds r, S ds r → ds.length = ps.length)
    (body : ∀ (cdv : Value) (Ar : Around) (outer : List Env) (s : Shared) (H : Hp) (E : XK), Room k (Ar.deeper (envOfC qual (defScope st) s.heap.objs.size f cdv)) → ∀ ds r, S ds r →
      DS (cxOf (L2N.CX P w) P w K mg base N qual (defScope st) f cdv Ar outer s H E) (startC N ds) (defBody st) (AD.ret r)) : FnOk P w K mg base (L2N.CX P w) (k + 1) f fd ps (spF K S) := by
  obtain ⟨oc, od, dV, kV, doc, pm, an, cdv, ct, osl, rfl, lk, hcd, _, _⟩ := F.ex
  refine fn_of lk hcd sc (fun vs H Q E ⟨Hs, ds, r, e, al, hs, _⟩ => by rw [al.len]; exact len ds r hs) (fun Ar outer s H vs Q E hr ⟨Hs, ds, r, e, al, hs, hw⟩ => ⟨_, pss_w, ⟨fun pins s' I => ?_⟩⟩)
  have tk : L2N.Takes (cxOf (L2N.CX P w) P w K mg base N qual (defScope st) f cdv Ar outer s H E) (AD.W K Hs H Hs (AD.ret r).ex) := (L2N.takes_of (X := cxOf (L2N.CX P w) P w K mg base N qual (defScope st) f cdv Ar outer s H E) (E := E) rfl rfl rfl rfl).imp fun cls d σ H' ⟨C, fs, G, Hd, e1, e2, e3, e4⟩ => by
    subst e1
    have e2' : r = .exc C fs := e2
    subst e2'
    exact hw d H' (e4.is e3.e)
  exact thn (body cdv Ar outer s H E hr ds r hs Hs H Hs tk _ Hs H (start_R e al) pins s' I) fun fl s2 q => ends_of hw q
/-- the same def, called with fewer arguments: dds are the defaults behind -/
structure HasD (P : Program) (w : World) (K : PySem.W.Frag) (mg : Str → Option Value) (base : Heap) (x : Str) (k : Nat) (S : List D → Res → Prop) (dds : List D) : Prop where
  ok : ∃ f fd ps ds dvs, FnOk P w K mg base (L2N.CX P w) k f fd ps (spF K S) ∧ mg x = some (.ref f) ∧ PySem.W.keepIn K (.ref f) = true ∧ Binds K fd ps ds ∧ Vals dvs ds ∧ ∀ H, IsAll K H dvs dds
theorem HasD.mono {x : Str} {j k : Nat} {S : List D → Res → Prop} {dds : List D} (h : HasD P w K mg base x j S dds) (le : j ≤ k) : HasD P w K mg base x k S dds := by
  obtain ⟨f, fd, ps, ds, dvs, F, r⟩ := h.ok
  exact ⟨f, fd, ps, ds, dvs, F.mono le, r⟩
end
section
variable {X : Cx} {Γ : List Cell} {e : Expr} {es : List Expr} {d : D} {ds rs dds : List D} {ms : List (D × D)} {k : Nat} {x : Str} {S : List D → Res → Prop} {pos p : Pos}
theorem callD_core (h : HasD X.prog X.w X.K X.mg X.base x k S dds) (hr : Room k X.A) (hg : Gl X x) (ha : DA X Γ (e :: es) ds) {o : Out} (hs : S (ds ++ dds) (.ok o)) (hdb : (x == ("__debug__" : Str)) = false) (he : starEach (e :: es) X.env = (false, eval e X.env) :: starEach es X.env)
    (hpl : (backTo pos (starEach es X.env)).any (·.1) = false) {σ : St} {Hd H : Hp} {Q : VK} (r : Rl X.K Γ σ Hd H) (q : ∀ v Hd1 H1 H2, Stp Hd H Hd1 H1 → OutIs X.K Hd1 H1 o v H2 → Q v H2) : wE X (.Call (.Name x p) (e :: es) [] pos) σ H Q := by
  obtain ⟨f, fd, ps, ws, dvs, F, hm, hk, hb, hv, hi⟩ := h.ok
  refine wE_of (pe_call F hr hg hm hk hb hv passN pa_w hdb he hpl) (ha σ Hd H _ r fun vs Hd1 H1 s1 i1 => ?_)
  exact ⟨Hd1, ds ++ dds, .ok o, s1.s, i1.app (hi Hd1), hs, fun v H2 w => q v Hd1 H1 H2 s1 w⟩
theorem de_callD (h : HasD X.prog X.w X.K X.mg X.base x k S dds) (hr : Room k X.A) (hg : Gl X x) (ha : DA X Γ (e :: es) ds) (hs : S (ds ++ dds) (.ok (.val d))) (hdb : (x == ("__debug__" : Str)) = false := by decide)
    (he : starEach (e :: es) X.env = (false, eval e X.env) :: starEach es X.env := by rfl) (hpl : (backTo pos (starEach es X.env)).any (·.1) = false := by rfl) : DE X Γ (.Call (.Name x p) (e :: es) [] pos) d := fun σ Hd H Q r k =>
  callD_core h hr hg ha hs hdb he hpl r fun v Hd1 H1 H2 s1 ⟨Hd2, s2, i2⟩ => k v Hd2 H2 (s1.trans s2) i2
theorem dn_callD (h : HasD X.prog X.w X.K X.mg X.base x k S dds) (hr : Room k X.A) (hg : Gl X x) (ha : DA X Γ (e :: es) ds) (hs : S (ds ++ dds) (.ok (.newL rs))) (hdb : (x == ("__debug__" : Str)) = false := by decide)
    (he : starEach (e :: es) X.env = (false, eval e X.env) :: starEach es X.env := by rfl) (hpl : (backTo pos (starEach es X.env)).any (·.1) = false := by rfl) : DN X Γ (.Call (.Name x p) (e :: es) [] pos) rs := fun σ Hd H Q r k =>
  callD_core h hr hg ha hs hdb he hpl r fun v Hd1 H1 H2 s1 ⟨Hd2, l, vs, e1, s2, h0, hd, h1, i2⟩ => by
    subst e1
    exact k l vs Hd2 H2 (s1.trans s2) (ex_none s1.h h0) hd h1 i2
end
theorem prs_some {es : List (D × D)} {i : Nat} {d : D} (h : (prsD es)[i]? = some d) : ∃ a b, es[i]? = some (a, b) ∧ d = .tuple [a, b] := by
  unfold prsD at h
  rw [List.getElem?_map] at h
  obtain ⟨q, hq, rfl⟩ := Option.map_eq_some_iff.mp h
  exact ⟨q.1, q.2, hq, rfl⟩
theorem ikv_some {m : List (Int × D)} {i : Nat} {d : D} (h : (prsD (ikv m))[i]? = some d) : ∃ j x, m[i]? = some (j, x) ∧ d = .tuple [.int j, x] := by
  obtain ⟨a, b, h1, rfl⟩ := prs_some h
  unfold ikv at h1
  rw [List.getElem?_map] at h1
  obtain ⟨q, hq, e⟩ := Option.map_eq_some_iff.mp h1
  cases e
  exact ⟨q.1, q.2, hq, rfl⟩
def mV {α : Type} (F : α → D) (m : List (Int × α)) : List (Int × D) := m.map fun p => (p.1, F p.2)
theorem mV_v {α : Type} (F : α → D) (m : List (Int × α)) (j : Int) (a0 : α) : (vI (mV F m) j).getD (F a0) = F ((vI m j).getD a0) := by
  unfold vI mV
  induction m with
  | nil => rfl
  | cons p m ih =>
    by_cases e : p.1 = j
    · simp [e]
    · simpa [e] using ih
theorem mV_p {α : Type} (F : α → D) (m : List (Int × α)) (j : Int) (a : α) : pI (mV F m) j (F a) = mV F (pI m j a) := by
  have ha : ((mV F m).any fun p => decide (p.1 = j)) = (m.any fun p => decide (p.1 = j)) := by unfold mV; rw [List.any_map]; rfl
  unfold pI
  rw [ha]
  split
  · unfold mV
    rw [List.map_map, List.map_map]
    refine List.map_congr_left fun p _ => ?_
    by_cases e : p.1 = j <;> simp [e]
  · unfold mV; simp
theorem mV_len {α : Type} (F : α → D) (m : List (Int × α)) : (mV F m).length = m.length := by simp [mV]
section
variable {α : Type} {F : α → D} {X : Cx} {Γ : List Cell} {A : AD} {rest : List Stmt} {a b e : Expr} {m : List (Int × α)} {i : Nat} {j : Int} {y a0 : α} {x : Str} {p pos apos cpos spos : Pos}
theorem de_getV (F : α → D) (hu : X.A.units + 1 < cLine) (hi : Γ[i]? = some (.md (ikv (mV F m)))) (hx : PE X (.Name x p) (tVar i)) (hk : DE X Γ a (.int j)) (hd : DE X Γ b (F a0)) (hm : M2 X (.Name x p) "get" apos a b cpos) : DE X Γ (.Call (.Attribute (.Name x p) "get" apos) [a, b] [] cpos) (F ((vI m j).getD a0)) :=
  mV_v F m j a0 ▸ de_getM hu hi hx hk hd hm
theorem ds_putV (F : α → D) (hu : X.A.units + 1 < cLine) (hi : Γ[i]? = some (.md (ikv (mV F m)))) (hx : PE X (.Name x p) (tVar i)) (he : DE X Γ e (F y)) (hk : DE X Γ b (.int j)) (hz : m.length < 100000)
    (hp : PS X (.Assign [.Subscript (.Name x p) b spos] e pos) (tAsg (wE X e) (gSub (wE X (.Name x p)) (wE X b) rSetD)))
    (h : DS X (Γ.set i (.md (ikv (mV F (pI m j y))))) rest A) : DS X Γ (.Assign [.Subscript (.Name x p) b spos] e pos :: rest) A :=
  ds_putM hu hi hx he hk (by rw [mV_len]; exact hz) hp (by rw [mV_p]; exact h)
end
section
variable {K : PySem.W.Frag} {Γ : List Cell} {σ : St} {Hd H Hs H0 Hb : Hp}
theorem Rl.frzM {i : Nat} {ds : List (D × D)} (r : Rl K Γ σ Hd H) (h : Γ[i]? = some (.md ds)) : ∃ Hd', Rl K (Γ.set i (.d (.dict ds))) σ Hd' H ∧ Ex Hd Hd' ∧ (∀ a o, Hd' a = some o → Hd a = none → ∃ c ov, Γ[i]? = some c ∧ σ[i]? = some ov ∧ ownAt c ov a) := by
  have hl : i < σ.length := by rw [r.len]; exact (List.getElem?_eq_some_iff.mp h).1
  obtain ⟨l, vs, e, n, q, a⟩ := r.cell i _ _ h (List.getElem?_eq_getElem hl)
  have es : σ[i]? = some (some (.ref l)) := by rw [List.getElem?_eq_getElem hl, e]
  have s : Ex Hd (upd Hd l (.dK vs)) := Ex.new n
  have f : ∀ x o, (upd Hd l (.dK vs)) x = some o → Hd x = none → x = l := fun x o h1 h2 => by
    by_cases z : x = l
    · exact z
    · rw [upd_ne z, h2] at h1; cases h1
  refine ⟨upd Hd l (.dK vs), ⟨by rw [List.length_set]; exact r.len, fun x u w => ?_, fun j c ov h1 h2 => ?_, fun a b ca cb oa ob l h1 h2 h3 h4 q1 q2 => ?_⟩, s, fun x o h1 h2 => ⟨_, _, h, es, by rw [f x o h1 h2]; exact rfl⟩⟩
  · by_cases z : x = l
    · subst z; rw [upd_same] at w; cases w; exact q
    · rw [upd_ne z] at w; exact r.sub x u w
  · rcases set_get h1 with ⟨e1, e2⟩ | ⟨e1, e2⟩
    · subst e1; subst e2
      rw [es] at h2; cases h2
      exact ⟨_, rfl, .dic (.inl upd_same) (a.mono s)⟩
    · have w := r.cell j c ov e2 h2
      cases c with
      | no => trivial
      | d x => obtain ⟨v, w1, w2⟩ := w; exact ⟨v, w1, w2.mono s⟩
      | ml ds' =>
        obtain ⟨l', vs', w1, w2, w3, w4⟩ := w
        refine ⟨l', vs', w1, ?_, w3, w4.mono s⟩
        rw [upd_ne, w2]
        intro z; subst z
        exact e1 (r.apart j i _ _ _ _ l' e2 h2 h es w1 rfl)
      | md ds' =>
        obtain ⟨l', vs', w1, w2, w3, w4⟩ := w
        refine ⟨l', vs', w1, ?_, w3, w4.mono s⟩
        rw [upd_ne, w2]
        intro z; subst z
        exact e1 (r.apart j i _ _ _ _ l' e2 h2 h es w1 rfl)
      | cu c =>
        refine c.carry (.of s) (fun l' o => ⟨?_, rfl⟩) w
        rw [upd_ne, (c.has w o).1]
        intro z; subst z
        exact e1 (r.apart j i _ _ _ _ l' e2 h2 h es o rfl)
  · rcases set_get h1 with ⟨e1, e2⟩ | ⟨e1, e2⟩
    · subst e2; cases q1
    rcases set_get h3 with ⟨f1, f2⟩ | ⟨f1, f2⟩
    · subst f2; cases q2
    exact r.apart a b ca cb oa ob l e2 h2 f2 h4 q1 q2
theorem R.frzM {i : Nat} {ds : List (D × D)} (r : R K Hs H0 Hb Γ σ Hd H) (h : Γ[i]? = some (.md ds)) : ∃ Hd', R K Hs H0 Hb (Γ.set i (.d (.dict ds))) σ Hd' H := by
  obtain ⟨Hd', rl, s, f⟩ := r.l.frzM h
  refine ⟨Hd', rl, ⟨r.e.d.trans s, r.e.h, rl.sub, fun a o h1 h2 => ?_⟩, r.b.trans s, fun j c ov l h1 h2 q => ?_⟩
  · cases z : Hd a with
    | some u => exact r.e.f a u z h2
    | none =>
      obtain ⟨c, ov, a1, a2, a3⟩ := f a o h1 z
      exact r.o i c ov a a1 a2 a3
  · rcases set_get h1 with ⟨e1, e2⟩ | ⟨e1, e2⟩
    · subst e2; cases q
    · exact r.o j c ov l e2 h2 q
end
theorem ds_frzM {X : Cx} {Γ : List Cell} {A : AD} {ds : List (D × D)} {sts : List Stmt} (i : Nat) (hi : Γ[i]? = some (.md ds)) (h : DS X (Γ.set i (.d (.dict ds))) sts A) : DS X Γ sts A := fun Hs H0 Hb tk σ Hd H r => by
  obtain ⟨Hd', r'⟩ := r.frzM hi
  exact h Hs H0 Hb tk σ Hd' H r'
section
variable {X : Cx} {Γ : List Cell} {b : Expr} {z : Str} {n : Int} {pos dpos : Pos}
/-- key, value, and what they are -/
abbrev Kvx := Expr × Expr × Str × Int
def kvK (es : List Kvx) : List (Key × V) := es.map fun q => (.inr q.2.2.1, .int q.2.2.2)
theorem pairs_const : ∀ (es : List Kvx), (∀ q ∈ es, DE X Γ q.1 (.str q.2.2.1) ∧ DE X Γ q.2.1 (.int q.2.2.2)) → ∀ σ Hd H (Q : List (V × V) → Hp → Prop), Rl X.K Γ σ Hd H → (∀ Hd' H', Stp Hd H Hd' H' → Q ((kvK es).map fun kv => (kV kv.1, kv.2)) H') →
    tPairs (es.map fun q => (wE X q.1, wE X q.2.1)) σ H Q
  | [], _, σ, Hd, H, Q, r, k => k Hd H (Stp.refl r.sub)
  | q :: es, h, σ, Hd, H, Q, r, k => by
    obtain ⟨h1, h2⟩ := h q List.mem_cons_self
    refine h1 σ Hd H _ r fun v Hd1 H1 s1 i1 => h2 σ Hd1 H1 _ (r.stp s1) fun u Hd2 H2 s2 i2 => ?_
    cases i1; cases i2
    exact pairs_const es (fun q hq => h q (List.mem_cons_of_mem _ hq)) σ Hd2 H2 _ ((r.stp s1).stp s2) fun Hd3 H3 s3 => k Hd3 H3 ((s1.trans s2).trans s3)
theorem pps_const : ∀ es : List Kvx, PPs X pos (es.map fun q => some q.1) (es.map fun q => q.2.1) (es.map fun q => (wE X q.1, wE X q.2.1))
  | [] => pps_nil
  | q :: es => pps_cons pe_w pe_w (pps_const es)
theorem de_pick (es : List Kvx) (hu : X.A.units + 1 < cLine) (he : ∀ q ∈ es, DE X Γ q.1 (.str q.2.2.1) ∧ DE X Γ q.2.1 (.int q.2.2.2)) (h0 : es ≠ []) (hl : es.length ≤ 15) (hb : DE X Γ b (.str z)) (hv : valV (mergeK [] (kvK es)) (.inr z) = some (.int n)) (hs : NoSl b) :
    DE X Γ (.Subscript (.Dict (es.map fun q => some q.1) (es.map fun q => q.2.1) dpos) b pos) (.int n) := fun σ Hd H Q r k => by
  have pd := pe_disp (X := X) (pps_const (X := X) (pos := dpos) es) (by simp) (by simp) (by simpa using h0) (by simpa using hl)
  refine wE_of (pe_dget hu pd pe_w hs) fun p hp => ?_
  have hdp : Hd p = none := ex_none r.sub hp
  have s0 : Stp Hd H Hd (upd H p (.dK [])) := Stp.new r.sub hp
  refine pairs_const es he σ Hd _ _ (r.stp s0) fun Hd1 H1 s1 => ?_
  have s01 := s0.trans s1
  have hd1 : Hd1 p = none := s1.non hdp upd_same
  refine ⟨s1.h _ _ upd_same, kvK es, rfl, by simpa [kvK] using hl, ?_⟩
  have sm : Stp Hd H Hd1 (upd H1 p (.dK (mergeK [] (kvK es)))) := s01.mut hp hd1
  refine hb σ Hd1 _ _ (r.stp sm) fun u Hd2 H2 s2 i2 => ?_
  cases i2
  have g : DGet H2 p (kV (.inr z)) (some (.int n)) := hv ▸ DGet.k (s2.h _ _ upd_same)
  exact ⟨p, .int n, rfl, g, k _ Hd2 H2 (sm.trans s2) (.int n)⟩
end
end Hf

namespace Hf
open PySem PySem.Spec PyProof.Rows L2
open Evl (Ex)
open L2H (Hot1 HotC TurnH PIH PIEH)
/-- the context of a block where an error is handled -/
abbrev blkH (X : Cx) (p : Addr × Obj) (s : Shared) (H : Hp) (scope : Scope) (cenv : Env) (fp : List Addr) : Cx := { X.blk s H scope cenv fp with pn := [p] }
theorem inv_pn {Y : Cx} {p : Addr × Obj} {σ : St} {H : Hp} {s : Shared} (I : Inv Y [p] σ H s) : Inv { Y with pn := [p] } [] σ H s := by
  obtain ⟨ok, h2, h3, h4, h5, h6, h7, h8, h9, h10, h11⟩ := I
  obtain ⟨o1, o2, o3, o4, o5, o6, o7, o8, o9, o10, o11, o12, o13, o14, o15, o16, o17, o18⟩ := ok
  exact ⟨⟨o1, o2, o3, o4, o5, o6, o7, o8, o9, o10, o11, o12, o13, o14, o15, o16, o17, o18⟩, h2, h3, h4, h5, h6, h7, h8, fun q hq => h9 q (List.mem_append_right _ (by simpa using hq)), h10, h11⟩
section
variable {X : Cx}
theorem lc_coreH {p : Addr × Obj} {pins : List (Addr × Obj)} {s : Shared} {σ : St} {H : Hp} {Q : VK} {elt tg iter : Expr} {scope : Scope} {own : List (Str × Nat)} {pos pos' : Pos} {wi : TI} {g : TG} {te : TE} {Qf : Value → Shared → Prop}
    (hot : Hot1 X.A p) (hpn : p ∈ X.pn) (hN : X.N.Nodup) (I : Inv X pins σ H s) (hi : PIH X tg iter wi) (ok : BlkOk X.N X.env.scope scope own)
    (hg : ∀ (s : Shared) (H : Hp) (C : Addr) (cl : List (Str × Addr)) (fp : List Addr), PG (blkH X p s H scope (compEnvC scope cl C X.env) fp) tg g)
    (he : ∀ (s : Shared) (H : Hp) (C : Addr) (cl : List (Str × Addr)) (fp : List Addr), PE (blkH X p s H scope (compEnvC scope cl C X.env) fp) elt te) (hs : ∀ x, foldedSetIterable iter X.env x = pure x)
    (h : tLc wi g tYes te (own.map (·.2)) σ H Q)
    (hRR : ∀ D C s' m H', Inv X pins σ H' s' → Q (.ref D) H' → s'.heap.Ns C m → FpOk X pins H' C → compPost (model X.prog X.w) X.A X.xe none Qf (.ref D) C (.ok .next) s') :
    wpAny (model X.prog X.w) X.A (comprehension (.ListComp elt [⟨tg, iter, [], 0⟩] scope pos) scope X.env pos' (newList []) false (eval iter X.env) none) Qf X.xe s := by
  have hfree : ∀ y ∈ scope.names, y.2 = .free → ∃ c, X.env.cells.lookup y.1 = some c := fun y hy e => by
    rcases ok.free y hy e with k | k
    · exact I.ok.has _ (.inl k)
    · exact I.ok.has _ (.inr k)
  refine wpAny_comprehension_free (use := none) rfl hs (closure_ok hfree) ok.kind (fun y hy e => by rw [ok.uniq y hy, e])
    (thn (hi.run pins s σ H _ I h) fun xv s1 hx => thn hx fun itv s2 h2 => ?_)
  obtain ⟨it, fp, tn, J, H2, e, I2, T, st2, f2, q⟩ := h2
  subst e
  refine wpAny_newObj_type (newEnv_comp ?_) (by show 0 ≤ sizeLine; decide)
  generalize hD : s2.heap.objs.size = D
  have hDn : H2 D = none := I2.hok.fresh (Nat.le_of_eq hD)
  obtain ⟨W, ⟨m0, w0⟩, turn⟩ := q D hDn
  generalize hs3 : ({ s2 with heap := s2.heap.push { cls := .type "list", data := .seq ([] : List Value).toArray } } : Shared) = s3
  have I3 : Inv X pins σ (upd H2 D (.lst [])) s3 := by
    rw [← hs3]
    refine I2.laid (t' := s2.toks) (fun b o e => Heap.get?_push_of_some _ e) (Nat.le_of_eq hD) ⟨Nat.zero_le _, [], 0, .nil, ?_⟩
    rw [← hD]
    exact Heap.get?_push_size _ rfl
  have h3 : s3.heap = s2.heap.push { cls := .type "list", data := .seq ([] : List Value).toArray } := by rw [← hs3]
  have sz : ∀ b ∈ fp, b < s2.heap.objs.size := fun b hb => by
    obtain ⟨o, e, _⟩ := T.obj _ _ st2 b hb
    exact Heap.lt_size e
  have f3 : ∀ b ∈ fp, FpOk X pins (upd H2 D (.lst [])) b ∧ b < s3.heap.objs.size := fun b hb => by
    have hlt := sz b hb
    refine ⟨⟨?_, (f2 b hb).2⟩, by rw [h3, Heap.size_push]; exact Nat.lt_succ_of_lt hlt⟩
    rw [upd_ne (by rw [← hD]; exact Nat.ne_of_lt hlt)]
    exact (f2 b hb).1
  have st3 : tn 0 s3.heap := T.keep _ _ _ st2 fun b _ o e => by rw [h3]; exact Heap.get?_push_of_some _ e
  have P3 := I3.pin p (List.mem_append_left _ hpn)
  have I4' := block_start I3 ok hN f3
  have pg := hg s3 (upd H2 D (.lst [])) s3.heap.objs.size (cellsFrom (s3.heap.objs.size + 1) scope.names (cloFrom X.env.cells scope.names [])) fp
  have pe := he s3 (upd H2 D (.lst [])) s3.heap.objs.size (cellsFrom (s3.heap.objs.size + 1) scope.names (cloFrom X.env.cells scope.names [])) fp
  show codeAny _ _ (.compStart (.ListComp elt [⟨tg, iter, [], 0⟩] scope pos) 0 (.ref it) (.ref D) (compEnvC scope (cellsFrom (s3.heap.objs.size + 1) scope.names (cloFrom X.env.cells scope.names [])) s3.heap.objs.size X.env)) (compPost (model X.prog X.w) X.A X.xe none Qf (.ref D) s3.heap.objs.size) { s3 with heap := pushCells (s3.heap.push { cls := .type "dict", data := .dict #[] }) scope.names }
  have nfp : ∀ b ∈ fp, (upd H2 D (.lst [])) b = none := fun b hb => (f3 b hb).1.1
  generalize hce : compEnvC scope (cellsFrom (s3.heap.objs.size + 1) scope.names (cloFrom X.env.cells scope.names [])) s3.heap.objs.size X.env = ce at I4' pg pe ⊢
  have cL : ce.locals = s3.heap.objs.size := by subst hce; rfl
  generalize hH3 : upd H2 D (.lst []) = H3 at I3 I4' pg pe w0 nfp f3 P3
  have I4 : Inv (blkH X p s3 H3 scope ce fp) [] (wipe σ (own.map (·.2))) H3 { s3 with heap := pushCells (s3.heap.push { cls := .type "dict", data := .dict #[] }) scope.names } := by
    refine inv_pn (Y := X.blk s3 H3 scope ce fp) (I4'.pins_of fun q hq => ?_)
    have eq : q = p := by simpa using hq
    subst eq
    refine ⟨pushCells_keeps _ _ _ _ (Heap.get?_push_of_some _ P3.1), P3.2.1, ?_, fun hm => ?_, P3.2.2.2.2⟩
    · show q.1 ≠ ce.locals
      rw [cL]
      exact Nat.ne_of_lt (Heap.lt_size P3.1)
    · rcases List.mem_cons.mp (I3.stkSub q.1 hm) with z | z
      · exact P3.2.2.1 z
      · exact P3.2.2.2.1 z
  generalize hs4 : ({ s3 with heap := pushCells (s3.heap.push { cls := .type "dict", data := .dict #[] }) scope.names } : Shared) = s4 at I4 ⊢
  have st4 : tn 0 s4.heap := T.keep _ _ _ st3 fun b _ o e => by rw [← hs4]; exact pushCells_keeps _ _ _ _ (Heap.get?_push_of_some _ e)
  have hotB : HotC (blkH X p s3 H3 scope ce fp) := ⟨p, hot, List.mem_cons_self⟩
  have stat : ∀ {σ' : St} {H' : Hp} {s' : Shared}, Inv (blkH X p s3 H3 scope ce fp) [] σ' H' s' → (∀ b ∈ fp, H' b = none) → ∀ b ∈ fp, FpOk (blkH X p s3 H3 scope ce fp) [] H' b := fun {σ' H' s'} I' hn b hb =>
    ⟨hn b hb, (I'.ok.exf b hb).1, I'.ok.exfs b hb, .inl hb, fun x c e => (I'.ok.exf b hb).2 x c e, fun q hq => by
      have eq : q = p := by simpa using hq
      subst eq
      exact (f3 b hb).1.2.2.2.2.2 q (List.mem_append_left _ hpn)⟩
  have loop : codeAny (model X.prog X.w) X.A (.compLoop (.ListComp elt [⟨tg, iter, [], 0⟩] scope pos) 0 (.ref it) (.ref D) ce) (compPost (model X.prog X.w) X.A X.xe none Qf (.ref D) s3.heap.objs.size) s4 := by
    refine compLoop_any (fun n s' => ∃ i H', Inv (blkH X p s3 H3 scope ce fp) [] (wipe σ (own.map (·.2))) H' s' ∧ tn i s'.heap ∧ (∀ b ∈ fp, H' b = none) ∧ W i n H') ?_ m0 ⟨0, H3, I4, st4, nfp, w0⟩
    rintro n s5 ⟨i, H5, I5, st5, n5, w5⟩
    rcases turn i n H5 w5 with ⟨stop, qq⟩ | ⟨go, Nx, hNx, step⟩
    · have td := T.done (blkH X p s3 H3 scope ce fp) rfl rfl rfl hotB i [] s5 _ H5 (fun _ _ => False) I5 (stat I5 n5) st5 stop
      refine thnF td fun r s6 ⟨hr, I6⟩ => ?_
      subst hr
      have I7 : Inv X pins σ H5 s6 := I3.call' (ch := fp) I6.os I6.base I6.hok I6.bare fun b hb => ⟨(f3 b hb).1.2.2.2.1, (f3 b hb).1.2.1, (f3 b hb).1.2.2.2.2.1, (f3 b hb).1.2.2.2.2.2⟩
      have nC : H5 s3.heap.objs.size = none := by
        have z : H5 ce.locals = none := I6.free
        rw [cL] at z
        exact z
      obtain ⟨m, hn, _⟩ := I6.loc
      have hn : s6.heap.Ns ce.locals m := hn
      rw [cL] at hn
      exact hRR D s3.heap.objs.size s6 m H5 I7 qq hn (I3.fpOk (Nat.le_refl _) nC)
    · have ti := T.item (blkH X p s3 H3 scope ce fp) rfl rfl rfl hotB i [] s5 _ H5 (fun _ _ => False) I5 (stat I5 n5) st5 go
      refine thnF ti fun r s6 ⟨u, hr, h6⟩ => ?_
      subst hr
      refine thnF h6 fun _ s7 ⟨x, H7, I7, r7, y7, st7, n7⟩ => ?_
      have I7' := I7.pinned (stat I7 n7) (T.obj _ _ st7)
      refine thnF (pg.run _ s7 _ H7 x u _ I7' r7 (step x H7 y7)) fun _ s8 ⟨σ8, H8, I8, hw8, q8⟩ => ?_
      simp only [tYes, ↓reduceIte] at q8
      have fin : ∀ {s' : Shared} {H' : Hp}, Inv (blkH X p s3 H3 scope ce fp) ([] ++ pinsAt fp s7.heap) σ8 H' s' → Nx H' → ∃ m, m < n ∧ ∃ i H', Inv (blkH X p s3 H3 scope ce fp) [] (wipe σ (own.map (·.2))) H' s' ∧ tn i s'.heap ∧ (∀ b ∈ fp, H' b = none) ∧ W i m H' := fun {s' H'} I' nx => by
        obtain ⟨m', hm, w'⟩ := hNx H' nx
        have pin' : ∀ b ∈ fp, ∀ o, s7.heap.get? b = some o → s'.heap.get? b = some o ∧ H' b = none := fun b hb o e =>
          let z := I'.pin (b, o) (List.mem_append_right _ (List.mem_append_right _ (mem_pinsAt hb e)))
          ⟨z.1, z.2.1⟩
        have hl : (wipe σ (own.map (·.2))).length = σ8.length := by rw [← hw8, wipe_length]
        refine ⟨m', hm, i + 1, H', (I'.unpinned (pins := [])).weak hl (fun j v e => ?_), T.keep _ _ _ st7 fun b hb o e => (pin' b hb o e).1, fun b hb => ?_, w'⟩
        · rw [← hw8] at e
          exact (wipe_some e).1
        · obtain ⟨o, e, _⟩ := T.obj _ _ st7 b hb
          exact (pin' b hb o e).2
      have pt : PTs (blkH X p s3 H3 scope ce fp) [] tYes := pts_nil
      refine thnF (pt.run _ s8 σ8 H8 (fun b H3' => b = true ∧ H3' = H8) I8 (by exact ⟨rfl, rfl⟩)) fun b s9 ⟨H9, I9, eb, e9⟩ => ?_
      subst eb e9
      simp only [if_true]
      refine thnF (pe.run _ s9 σ8 H9 _ I9 q8) fun z s10 ⟨yv, H10, I10, r10, acc, hD10, hz10, nx⟩ => ?_
      exact app_ok (X := blkH X p s3 H3 scope ce fp) I10 hD10 hz10 r10 fun s11 I11 => fin I11 nx
  exact codeAny_compStart_list loop (T.self X.A 0 _ _ _ st4 loop)
theorem pe_lcH {p : Addr × Obj} {elt tg iter : Expr} {scope : Scope} {own : List (Str × Nat)} {pos : Pos} {wi : TI} {g : TG} {te : TE} (hot : Hot1 X.A p) (hpn : p ∈ X.pn) (hN : X.N.Nodup) (hi : PIH X tg iter wi) (ok : BlkOk X.N X.env.scope scope own)
    (hg : ∀ (s : Shared) (H : Hp) (C : Addr) (cl : List (Str × Addr)) (fp : List Addr), PG (blkH X p s H scope (compEnvC scope cl C X.env) fp) tg g)
    (he : ∀ (s : Shared) (H : Hp) (C : Addr) (cl : List (Str × Addr)) (fp : List Addr), PE (blkH X p s H scope (compEnvC scope cl C X.env) fp) elt te) (hs : ∀ x, foldedSetIterable iter X.env x = pure x := by intro _; rfl) :
    PE X (.ListComp elt [⟨tg, iter, [], 0⟩] scope pos) (tLc wi g tYes te (own.map (·.2))) := by
  refine ⟨fun pins s σ H Q I h => ?_⟩
  rw [eval_ListComp]
  refine lc_coreH hot hpn hN I hi ok hg he hs h fun D C s' m H' I' q hn f => ⟨m, hn, fun h'' sb => ?_⟩
  obtain ⟨f0, f1, f2, f3, f4, f5⟩ := f
  exact ⟨.ref D, H', I'.turned (t' := s'.toks) (fun b o hb e => (sb.2 b hb).trans e) f0 f1 f3 f4 f5, rfl, q⟩
end
section
variable {X : Cx} {Γ : List Cell} {elt tg iter c a : Expr} {scope : Scope} {own : List (Str × Nat)} {pos p : Pos} {items rs : List D} {j : Int}
def DIH (X : Cx) (Γ : List Cell) (tg it : Expr) (items : List D) : Prop := ∃ wi : TI, PIH X tg it wi ∧ ∀ σ Hd H (Q : It → Hp → Prop), Rl X.K Γ σ Hd H → (∀ J Hd' H', Stp Hd H Hd' H' → ItOk X.K J items Hd' → Q J H') → wi σ H Q
theorem di_r1H (hg : Gl X "range") (hm : NoMg X "range") (h : DE X Γ a (.int j)) (hb : -1000000 ≤ j ∧ j ≤ 1000000) (hs : starEach [a] X.env = [(false, eval a X.env)] := by rfl) : DIH X Γ tg (.Call (.Name "range" p) [a] [] pos) (rng0 j.toNat) :=
  ⟨_, L2H.pi_range1H hg hm (pa_cons pe_w pa_nil hs) hs, fun σ Hd H Q r k => h σ Hd H _ r fun v Hd' H' s i => by
    cases i
    exact ⟨j, rfl, by omega, by omega, k _ Hd' H' s (by rw [rng0_eq]; exact itok_rng _ _ _ _)⟩⟩
def blkGH (X : Cx) (p : Addr × Obj) (scope : Scope) (tg : Expr) : TG := fun v σ H Q => ∀ (s : Shared) (H' : Hp) (C : Addr) (cl : List (Str × Addr)) (fp : List Addr), wG (blkH X p s H' scope (compEnvC scope cl C X.env) fp) tg v σ H Q
def blkEH (X : Cx) (p : Addr × Obj) (scope : Scope) (e : Expr) : TE := fun σ H Q => ∀ (s : Shared) (H' : Hp) (C : Addr) (cl : List (Str × Addr)) (fp : List Addr), wE (blkH X p s H' scope (compEnvC scope cl C X.env) fp) e σ H Q
theorem rn_lcH {q : Addr × Obj} {wi : TI} (hwi : ∀ σ Hd H (Q : It → Hp → Prop), Rl X.K Γ σ Hd H → (∀ J Hd' H', Stp Hd H Hd' H' → ItOk X.K J items Hd' → Q J H') → wi σ H Q) (stf : Nat → D → List (Nat × D)) (hl : rs.length = items.length) (hsz : items.length ≤ 100000)
    (hin : ∀ i d, items[i]? = some d → ∀ p ∈ stf i d, p.1 ∈ own.map (·.2))
    (hg : ∀ i d, items[i]? = some d → ∀ (s : Shared) (H : Hp) (C : Addr) (cl : List (Str × Addr)) (fp : List Addr), DG (blkH X q s H scope (compEnvC scope cl C X.env) fp) tg d (stf i d))
    (he : ∀ i d y, items[i]? = some d → rs[i]? = some y → ∀ (s : Shared) (H : Hp) (C : Addr) (cl : List (Str × Addr)) (fp : List Addr), DE (blkH X q s H scope (compEnvC scope cl C X.env) fp) (setC (wipeC Γ (own.map (·.2))) (stf i d)) elt y) :
    RN X Γ (tLc wi (blkGH X q scope tg) (tYes) (blkEH X q scope elt) (own.map (·.2))) rs := by
  intro σ Hd H Q r k
  refine hwi σ Hd H _ r fun J Hd1 H1 s1 it => fun D hD => ?_
  have hd1 : Hd1 D = none := ex_none s1.s hD
  let Inv0 : Nat → Hp → Prop := fun i H2 => ∃ Hd2 acc, Stp Hd1 H1 Hd2 H2 ∧ Hd2 D = none ∧ H2 D = some (.lst acc) ∧ IsAll X.K Hd2 acc (rs.take i)
  refine ⟨fun i m H2 => i + m = items.length ∧ Inv0 i H2, ⟨items.length, by omega, Hd1, [], Stp.new s1.s hD, hd1, upd_same, .nil⟩, ?_⟩
  rintro i m H2 ⟨em, Hd2, acc, s2, hd2, hacc, al⟩
  obtain ⟨g1, g2⟩ := it i Hd2 H2 s2.d s2.s
  by_cases hi : i < items.length
  · have e1 := List.getElem?_eq_getElem hi
    obtain ⟨go, yl⟩ := g1 _ e1
    refine .inr ⟨go, fun H' => Inv0 (i + 1) H', fun H' q => ⟨m - 1, by omega, by omega, q⟩, fun x H3 hy => ?_⟩
    obtain ⟨Hd3, s3, ix⟩ := yl x H3 hy
    have s13 := s2.trans s3
    have hd3 : Hd3 D = none := s3.non hd2 hacc
    have rl : Rl X.K (wipeC Γ (own.map (·.2))) (L2.wipe σ (own.map (·.2))) Hd3 H3 := ((r.stp s1).stp s13).wipe _
    intro s H' C cl fp
    refine hg i _ e1 s H' C cl fp _ Hd3 H3 x _ ix s3.s fun ws hw => ?_
    have rl2 := rl.setV hw
    refine ⟨by rw [wipe_setV (hin i _ e1), wipe_wipe], ?_⟩
    simp only [tYes, ↓reduceIte]
    intro s5 H5 C5 cl5 fp5
    have eo := List.getElem?_eq_getElem (show i < rs.length by omega)
    refine he i _ _ e1 eo s5 H5 C5 cl5 fp5 _ Hd3 H3 _ rl2 fun v Hd5 H6 s6 iv => ?_
    have a6 : H6 D = some (.lst acc) := s6.h _ _ (s3.h _ _ hacc)
    have hd5 : Hd5 D = none := s6.non hd3 (s3.h _ _ hacc)
    refine ⟨acc, a6, ?_, Hd5, acc ++ [v], (s13.trans s6).mut hD hd5, hd5, upd_same, ?_⟩
    · have h1 := al.len
      have h3 : (rs.take i).length ≤ i := by rw [List.length_take]; omega
      exact Nat.lt_of_le_of_lt (show acc.length ≤ 100000 by omega) (by decide)
    · rw [List.take_add_one, eo]
      exact (al.mono (s3.d.trans s6.d)).app (.one iv)
  · refine .inl ⟨g2 (by omega), ?_⟩
    rw [List.take_of_length_le (by omega)] at al
    exact k D acc Hd2 H2 (s1.trans s2) (ex_none s1.h hD) hd2 hacc al
theorem dn_lcH {a0 : Addr} {c0 : Value} {e0 : Option Addr} (hot : HotE X a0 c0 e0) (hN : X.N.Nodup) (hi : DIH X Γ tg iter items) (ok : BlkOk X.N X.env.scope scope own) (stf : Nat → D → List (Nat × D)) (hl : rs.length = items.length) (hsz : items.length ≤ 100000)
    (hin : ∀ i d, items[i]? = some d → ∀ p ∈ stf i d, p.1 ∈ own.map (·.2))
    (hg : ∀ i d, items[i]? = some d → ∀ q (s : Shared) (H : Hp) (C : Addr) (cl : List (Str × Addr)) (fp : List Addr), DG (blkH X q s H scope (compEnvC scope cl C X.env) fp) tg d (stf i d))
    (he : ∀ i d y, items[i]? = some d → rs[i]? = some y → ∀ q (s : Shared) (H : Hp) (C : Addr) (cl : List (Str × Addr)) (fp : List Addr), DE (blkH X q s H scope (compEnvC scope cl C X.env) fp) (setC (wipeC Γ (own.map (·.2))) (stf i d)) elt y)
    (hs : ∀ x, foldedSetIterable iter X.env x = pure x := by intro _; rfl) : DN X Γ (.ListComp elt [⟨tg, iter, [], 0⟩] scope pos) rs := by
  obtain ⟨wi, hpi, hwi⟩ := hi
  obtain ⟨oe, hp, hh, hz, vs, hv⟩ := hot.ex
  refine fun σ Hd H Q r k => wE_of (pe_lcH (p := (a0, oe)) (g := blkGH X (a0, oe) scope tg) (te := blkEH X (a0, oe) scope elt) ⟨hh, vs, hv, hz.2.2 vs hv⟩ hp hN hpi ok (fun s H C cl fp => ⟨fun pins s' σ' H' v u Q' I rv h => h s H C cl fp pins s' u I rv⟩) (fun s H C cl fp => ⟨fun pins s' σ' H' Q' I h => h s H C cl fp pins s' I⟩) hs) (rn_lcH hwi stf hl hsz hin (fun i d e => hg i d e _) (fun i d y e1 e2 => he i d y e1 e2 _) σ Hd H Q r k)
end
end Hf
namespace Hf
theorem hu_suite {X : L2.Cx} {a : PySem.Addr} {pn : List (PySem.Addr × PySem.Obj)} (h : Roomy X) : Roomy (X.suite a pn) := h
end Hf

namespace Hf
open PySem PySem.Spec PyProof.Rows L2
open Evl (Ex)
section
variable {X : Cx} {Γ : List Cell} {e : Expr} {d : D} {ds : List D} {i : Nat} {m : Bool}
theorem Is.flatAny {K : PySem.W.Frag} {H H' : Hp} {v : V} (h : Is K H v d) (f : flatD d = true) : Is K H' v d := by
  cases h with
  | non => exact .non
  | bl b => exact .bl b
  | int i => exact .int i
  | str x => exact .str x
  | _ => cases f
theorem Stp.back {Hd H Hd1 Hd' H' : Hp} (sub : Ex Hd H) (s : Stp Hd1 H Hd' H') : Stp Hd H Hd H' := ⟨Ex.refl _, s.h, sub.trans s.h, fun a o h1 h2 => by rw [h2] at h1; cases h1⟩
theorem de_lend (i : Nat) (hi : Γ[i]? = some (.ml ds)) (h : DE X (Γ.set i (.d (.list ds))) e d) (f : flatD d = true) : DE X Γ e d := fun σ Hd H Q r k => by
  obtain ⟨Hd1, r1, _, _⟩ := r.frz hi
  exact h σ Hd1 H Q r1 fun v Hd' H' s iv => k v Hd H' (s.back r.sub) (iv.flatAny f)
theorem dt_lend (i : Nat) (hi : Γ[i]? = some (.ml ds)) (h : DT X (Γ.set i (.d (.list ds))) e m) : DT X Γ e m := fun σ Hd H Q r k => by
  obtain ⟨Hd1, r1, _, _⟩ := r.frz hi
  exact h σ Hd1 H Q r1 fun Hd' H' s => k Hd H' (s.back r.sub)
end
end Hf

namespace HrX
open PySem PySem.Spec PyProof.Rows L2 RT PySem.W PyProof.V
section
variable {prog : Program} {w : World} {A : Around} {E : Value → Shared → Prop} {s : Shared}
theorem nolen_rt : typeLookup (.type "reversed") "__len__" = pure none := by rw [typeLookup_type, builtinLookup_eq_fast]; kernel_rfl
theorem hint_rt : typeLookup (.type "reversed") "__length_hint__" = pure (some (.builtin "reversed.__length_hint__")) := by rw [typeLookup_type, builtinLookup_eq_fast]; kernel_rfl
theorem slot_rt_hint : Slot "reversed" "__length_hint__" "reversed.__length_hint__" :=
  .of (owner := "reversed") (n := "__length_hint__") (by rw [typeLookup_type, builtinLookup_eq_fast]; kernel_rfl) (by decide +kernel) (by decide +kernel) (by decide +kernel)
    (by first | exact .inl (by decide +kernel) | exact .inr (by decide +kernel)) (by rw [isSubtype_type]; kernel_rfl)
theorem entry_rt_hint : entryFor table "reversed.__length_hint__" = some Builtin.«reversed.__length_hint__» := entryFor_of_tree (by kernel_rfl)
theorem args_rt_hint (a : Value) : argsOk "reversed.__length_hint__" ⟨[a], []⟩ := by
  unfold argsOk; rw [signature?_of (id := "reversed.__length_hint__") (n := ['_', '_', 't', 'n', 'i', 'h', '_', 'h', 't', 'g', 'n', 'e', 'l', '_', '_']) (o := ['d', 'e', 's', 'r', 'e', 'v', 'e', 'r']) (by kernel_rfl) owner_rt]; kernel_rfl
theorem tup_at {h h' : Heap} {t : Addr} {items : Array Value} (x : IsTup h t items) (e : ∀ o, h.get? t = some o → h'.get? t = some o) : IsTup h' t items := by
  obtain ⟨o, ho, r⟩ := x
  exact ⟨o, e _ ho, r⟩
theorem walks_rt (hh : A.handled = none) (I t : Addr) (hne : t ≠ I) (items : Array Value) (hsz : items.size ≤ sizeLine) :
    Walks prog w A I [I, t] [I] items.size (fun i v => items[items.size - 1 - i]? = some v) (fun i h => i ≤ items.size ∧ IsRt h I t ((items.size : Int) - 1 - (i : Int)) ∧ IsTup h t items) where
  sub := fun b hb => by simp at hb; simp [hb]
  frame := fun _ _ _ x hk => ⟨x.1, x.2.1.at fun o e => hk I (by simp) o e, tup_at x.2.2 fun o e => hk t (by simp) o e⟩
  item := fun i s Q E hi x hQ => by
    have e : (items.size : Int) - 1 - (i : Int) = ((items.size - 1 - i : Nat) : Int) := by omega
    have hit := x.2.1
    rw [e] at hit
    have hx : items[items.size - 1 - i]? = some (items[items.size - 1 - i]'(by omega)) := Array.getElem?_eq_getElem (by omega)
    refine next_rt_item hit x.2.2 hx hsz fun h' hit' hs' => ?_
    have e2 : ((items.size - 1 - i : Nat) : Int) - 1 = (items.size : Int) - 1 - ((i + 1 : Nat) : Int) := by omega
    rw [e2] at hit'
    exact hQ _ h' (s.toks + 1) hx ⟨hi, hit', tup_at x.2.2 fun o eo => (hs'.2 t hne).trans eo⟩ fun b o hb eo => hs'.extBut b o (fun h => hb (by simp [h])) eo
  done := fun s Q E x hQ => by
    have e : (items.size : Int) - 1 - (items.size : Int) = -1 := by omega
    have hit := x.2.1
    rw [e] at hit
    exact next_rt_end hh hit fun h' he' => hQ h' s.toks fun b o hb eo => he' b o (fun h => hb (by simp [h])) eo
  self := fun _ _ _ _ x hQ => iter_rt x.2.1 hQ
end
section
variable {prog : Program} {w : World} {A : Around} {s : Shared} {R : Result → Shared → Prop}
variable {I : Addr} {fp wr : List Addr} {G : Array GenState → Array GenState → Prop} {n : Nat} {P : Nat → Value → Prop} {St : Nat → Shared → Prop} {T : String}
theorem extend_walk (hTm : T = "list_reverseiterator" ∨ T = "reversed") (W : WalksS prog w A.in1 I fp wr G n P St) (hT : ∀ i s, St i s → s.TypeIs (.ref I) T) (S : Addr) (res : Value) (c₀ : Nat) (hst : St 0 s) (hSf : S ∉ fp) (hI : I ∈ fp)
    (hint : ∀ (s₁ : Shared) (Q' : Bool → Shared → Prop) (E' : Value → Shared → Prop), St 0 s₁ → (∀ b tk, s₁.toks ≤ tk → Q' b { s₁ with toks := tk }) → wpAny (model prog w) A.in1 (Builtin.List.listLengthHint (.ref I)) Q' E' s₁)
    (hS : s.heap.get? S = some { cls := .type "list", data := .seq #[] c₀ })
    (hR : ∀ s' acc' c', Moved (S :: wr) G s s' → s'.heap.get? S = some { cls := .type "list", dict := none, data := .seq acc' c', slots := #[] } → ItemsOf P acc' n → R (.ok (.ret res)) s') (hn : n ≤ sizeLine) :
    wpAny (model prog w) A.in1 (Builtin.List.listExtendWith (.ref S) (.ref I) res)
      (fun fin s' => match fin with | .done f => R (.ok f) s' | .again c' => c'.quiet = true ∧ codeAny (model prog w) A c' R s') (fun e s' => R (.error e) s') s := by
  have hSI : S ≠ I := fun e => hSf (e ▸ hI)
  unfold Builtin.List.listExtendWith
  refine wpAny_bind (wpAny_typeOf (hT 0 _ hst) ?_)
  have h1 : Builtin.List.listSameRef (.ref S) (.ref I) = false := by simp [Builtin.List.listSameRef, hSI]
  rcases hTm with rfl | rfl
  all_goals
    rw [if_neg (by rw [h1]; decide)]
    refine wpAny_bind (W.self 0 _ _ _ hst ?_)
    refine wpAny_bind (wpAny_holding (hint _ _ _ hst fun b tk htk => ?_))
    have hst2 : St 0 { s with toks := tk } := W.frame 0 s _ tk hst htk fun b _ o e => e
    cases b with
    | false =>
      rw [if_neg (by decide)]
      refine wpAny_pure ⟨plainId_quiet F.plain_extend_loop _, codeAny_extend_loopS W hn _ hSf _ n 0 _ _ _ rfl (Nat.zero_le _) hst2 hS (ItemsOf.nil P) fun s' acc' c' hm hS' hacc => ?_⟩
      exact hR s' acc' c' (Moved.trans W.gtrans ((Moved.refl W.grefl).then_heap htk fun b o hb e => e) hm) hS' hacc
    | true =>
      show wpAny _ A.in1 (rule "list.extend.makes-room" >>= fun _ => Builtin.List.listTouch (.ref S) >>= fun _ =>
        again (.builtin "list.extend.loop" ⟨[.ref S, .ref I, res], []⟩)) _ _ _
      refine wpAny_bind (wpAny_rule ?_)
      refine wpAny_bind ?_
      show wpAny _ A.in1 (updateSeq S (·.push .none) >>= fun _ => updateSeq S (·.pop)) _ _ _
      refine wpAny_bind (wpAny_updateSeq hS rfl ?_)
      have hS₂ := Heap.get?_update_self (Obj.mapSeq (·.push Value.none)) hS rfl
      refine wpAny_updateSeq (hz := by seq_fits) hS₂ rfl ?_
      have hS₃ := Heap.get?_update_self (Obj.mapSeq (·.pop)) hS₂ rfl
      have oth : ∀ b o, b ≠ S → s.heap.get? b = some o → ((s.heap.update S (Obj.mapSeq (·.push Value.none))).update S (Obj.mapSeq (·.pop))).get? b = some o :=
        fun b o hb e => (Heap.get?_update_other _ _ (Ne.symm hb)).trans ((Heap.get?_update_other _ _ (Ne.symm hb)).trans e)
      refine wpAny_pure ⟨plainId_quiet F.plain_extend_loop _, codeAny_extend_loopS W hn _ hSf _ n 0 _ _ _ rfl (Nat.zero_le _)
        (W.frame 0 s _ tk hst htk fun b hb o e => oth b o (fun h => hSf (h ▸ hb)) e) hS₃ (ItemsOf.nil P) fun s' acc' c' hm hS' hacc => ?_⟩
      exact hR s' acc' c' (Moved.trans W.gtrans ((Moved.refl W.grefl).then_heap htk fun b o hb e => oth b o (fun h => hb (h ▸ List.mem_cons_self)) e) hm) hS' hacc
theorem list_init_walk (hTm : T = "list_reverseiterator" ∨ T = "reversed") (W : WalksS prog w A.in1 I fp wr G n P St) (hT : ∀ i s, St i s → s.TypeIs (.ref I) T) (S : Addr) (hst : St 0 s) (hSf : S ∉ fp) (hI : I ∈ fp)
    (hint : ∀ (s₁ : Shared) (Q' : Bool → Shared → Prop) (E' : Value → Shared → Prop), St 0 s₁ → (∀ b tk, s₁.toks ≤ tk → Q' b { s₁ with toks := tk }) → wpAny (model prog w) A.in1 (Builtin.List.listLengthHint (.ref I)) Q' E' s₁)
    (hS : s.heap.get? S = some { cls := .type "list", data := .seq #[] })
    (hR : ∀ s' acc' c', Moved (S :: wr) G s s' → s'.heap.get? S = some { cls := .type "list", dict := none, data := .seq acc' c', slots := #[] } → ItemsOf P acc' n → R (.ok (.ret .none)) s') (hn : n ≤ sizeLine) :
    wpAny (model prog w) A.in1 (Builtin.«list.__init__» ⟨[.ref S, .ref I], []⟩)
      (fun fin s' => match fin with | .done f => R (.ok f) s' | .again c' => c'.quiet = true ∧ codeAny (model prog w) A c' R s') (fun e s' => R (.error e) s') s := by
  show wpAny _ A.in1 (do let old ← Builtin.List.listItems (.ref S); Builtin.List.listUpdate (.ref S) (fun _ => #[]); letGo old.toList.reverse; Builtin.List.listExtendWith (.ref S) (.ref I) .none) _ _ s
  refine wpAny_bind ?_
  unfold Builtin.List.listItems
  refine wpAny_bind (wpAny_seqItems hS rfl (wpAny_pure ?_))
  show wpAny _ A.in1 (updateSeq S (fun _ => #[]) >>= fun _ => letGo (#[] : Array Value).toList.reverse >>= fun _ => Builtin.List.listExtendWith (.ref S) (.ref I) .none) _ _ s
  refine wpAny_bind (wpAny_updateSeq hS rfl ?_)
  have hS₂ := Heap.get?_update_self (Obj.mapSeq (fun _ => (#[] : Array Value))) hS rfl
  have oth : ∀ b o, b ≠ S → s.heap.get? b = some o → (s.heap.update S (Obj.mapSeq (fun _ => (#[] : Array Value)))).get? b = some o :=
    fun b o hb e => (Heap.get?_update_other _ _ (Ne.symm hb)).trans e
  refine wpAny_bind (wpAny_letGo ?_)
  refine extend_walk (hn := hn) hTm W hT S .none _ (W.frame 0 s _ s.toks hst (Nat.le_refl _) fun b hb o e => oth b o (fun h => hSf (h ▸ hb)) e) hSf hI hint hS₂ fun s' acc' c' hm hS' hacc => ?_
  exact hR s' acc' c' (Moved.trans W.gtrans ((Moved.refl W.grefl).then_heap (Nat.le_refl _) fun b o hb e => oth b o (fun h => hb (h ▸ List.mem_cons_self)) e) hm) hS' hacc
end
section
variable {prog : Program} {w : World} {A : Around} {E : Value → Shared → Prop} {s : Shared}
variable {I : Addr} {fp wr : List Addr} {G : Array GenState → Array GenState → Prop} {n : Nat} {P : Nat → Value → Prop} {St : Nat → Shared → Prop} {T : String}
theorem call_list_walk {Q : Value → Shared → Prop} (hTm : T = "list_reverseiterator" ∨ T = "reversed") (W : WalksS prog w A.in1.in1 I fp wr G n P St) (hT : ∀ i s, St i s → s.TypeIs (.ref I) T) (hst : St 0 s) (hfp : ∀ b ∈ fp, b < s.heap.objs.size) (hI : I ∈ fp)
    (hint : ∀ (s₁ : Shared) (Q' : Bool → Shared → Prop) (E' : Value → Shared → Prop), St 0 s₁ → (∀ b tk, s₁.toks ≤ tk → Q' b { s₁ with toks := tk }) → wpAny (model prog w) A.in1.in1 (Builtin.List.listLengthHint (.ref I)) Q' E' s₁)
    (hQ : ∀ s' acc' c', Moved (s.heap.objs.size :: wr) G { s with heap := s.heap.push { cls := .type "list", data := .seq #[] } } s' →
      s'.heap.get? s.heap.objs.size = some { cls := .type "list", dict := none, data := .seq acc' c', slots := #[] } → ItemsOf P acc' n → Q (.ref s.heap.objs.size) s') (hn : n ≤ sizeLine) :
    wpAny (model prog w) A (call (.type "list") [.ref I]) Q E s := by
  have hSf : s.heap.objs.size ∉ fp := fun hm => Nat.lt_irrefl _ (hfp _ hm)
  refine callType_codes (Q₁ := fun obj s₁ => obj = .ref s.heap.objs.size ∧ s₁ = { s with heap := s.heap.push { cls := .type "list", data := .seq #[] } }) F.called_list (F.typeCall_list_1 _) F.entry_list_init
    (code_list_new _ ⟨rfl, rfl⟩) fun obj s₁ h₁ => ?_
  obtain ⟨rfl, rfl⟩ := h₁
  have hS : (s.heap.push { cls := .type "list", data := .seq #[] }).get? s.heap.objs.size = some { cls := .type "list", data := .seq #[] } := Heap.get?_push_size _ rfl
  refine ⟨⟨_, hS, rfl⟩, F.args_list_init_2 _ _, list_init_walk (hn := hn) hTm W hT _ (W.frame 0 s _ s.toks hst (Nat.le_refl _) fun b _ o e => Heap.get?_push_of_some _ e) hSf hI hint hS fun s' acc' c' hm hS' hacc => ?_⟩
  exact ⟨rfl, hQ s' acc' c' hm hS' hacc⟩
theorem hint_list {I l : Addr} {Q' : Bool → Shared → Prop} {E' : Value → Shared → Prop} (hT : s.TypeIs (.ref I) "list_reverseiterator") (q : Q' false s) : wpAny (model prog w) A (Builtin.List.listLengthHint (.ref I)) Q' E' s := by
  unfold Builtin.List.listLengthHint
  refine wpAny_bind (wpAny_specialOf hT nolen_lri ?_)
  show wpAny _ A (specialOf (Value.ref I) (Str.ofString "__length_hint__") >>= _) _ _ _
  refine wpAny_bind (wpAny_specialOf hT hint_lri ?_)
  generalize hid : ("list_reverseiterator.__length_hint__" : String) = id0
  wp_delta
  rw [show splitId id0 = some ("list_reverseiterator", "__length_hint__") from by subst hid; decide +kernel]
  subst hid
  refine wpAny_bind (wpAny_isInstance (b := true) hT (by rw [isSubtype_type]; kernel_rfl) ?_)
  exact wpAny_pure q
end
end HrX
namespace HrX
open PySem PySem.Spec PyProof.Rows L2 RT PySem.W PyProof.V
section
variable {prog : Program} {w : World} {A : Around} {E : Value → Shared → Prop} {s : Shared}
theorem call_rt_hint {I t : Addr} {items : Array Value} {Q' : Value → Shared → Prop} {E' : Value → Shared → Prop} (hit : IsRt s.heap I t ((items.size : Int) - 1)) (ht : IsTup s.heap t items) (hz : items.size ≤ sizeLine)
    (q : ∀ u tk, s.toks ≤ tk → Q' (.int (items.size : Int) u) { s with toks := tk }) : wpAny (model prog w) A (call (.builtin "reversed.__length_hint__") [.ref I]) Q' E' s := by
  rw [sizeLine_eq] at hz
  obtain ⟨o, ho, hc, hd⟩ := id hit
  refine wpAny_call_entry slot_rt_hint hit.typeIs entry_rt_hint ?_ (args_rt_hint _)
  unfold Builtin.«reversed.__length_hint__»
  refine wpAny_bind (wpAny_of_eq (a := Value.ref I) rfl ?_)
  try dsimp only
  refine wpAny_bind (wpAny_field ho hd (x := .ref t) rfl ?_)
  try dsimp only
  rw [if_neg (show ¬ ((Value.ref t == Value.none) = true) from by simp)]
  try dsimp only
  refine wpAny_bind (len_tuple ht (by omega) ?_)
  refine wpAny_bind (m := asInt? (.int _ _)) (wpAny_pure ?_)
  try dsimp only
  refine wpAny_bind (wpAny_field (s := { s with toks := s.toks + 1 + 1 }) ho hd (x := rawInt ((items.size : Int) - 1)) rfl ?_)
  show wpAny _ _ (if (items.size : Int) < (items.size : Int) - 1 + 1 then _ else _) _ _ _
  rw [if_neg (by omega)]
  unfold retInt
  refine wpAny_bind (wpAny_mkInt ?_)
  refine wpAny_pure ?_
  have e : (items.size : Int) - 1 + 1 = items.size := by omega
  rw [e]
  exact ⟨_, rfl, q _ _ (by show s.toks ≤ s.toks + 1 + 1 + 1; omega)⟩
theorem hint_tup {I t : Addr} {items : Array Value} {Q' : Bool → Shared → Prop} {E' : Value → Shared → Prop} (hit : IsRt s.heap I t ((items.size : Int) - 1)) (ht : IsTup s.heap t items) (hz : items.size ≤ sizeLine)
    (q : ∀ b tk, s.toks ≤ tk → Q' b { s with toks := tk }) : wpAny (model prog w) A (Builtin.List.listLengthHint (.ref I)) Q' E' s := by
  have hT := hit.typeIs
  unfold Builtin.List.listLengthHint
  refine wpAny_bind (wpAny_specialOf hT nolen_rt ?_)
  show wpAny _ A (specialOf (Value.ref I) (Str.ofString "__length_hint__") >>= _) _ _ _
  refine wpAny_bind (wpAny_specialOf hT hint_rt ?_)
  generalize hid : ("reversed.__length_hint__" : String) = id0
  wp_delta
  rw [show splitId id0 = some ("reversed", "__length_hint__") from by subst hid; decide +kernel]
  subst hid
  refine wpAny_bind (wpAny_isInstance (b := true) hT (by rw [isSubtype_type]; kernel_rfl) ?_)
  show wpAny _ A (rule "list.length-hint.hint" >>= _) _ _ _
  refine wpAny_bind (wpAny_rule ?_)
  rw [slot_rt_hint.bind]
  refine wpAny_bind (wpAny_pure ?_)
  refine wpAny_bind (wpAny_attempt (call_rt_hint hit ht hz fun u tk htk => ?_))
  have hz2 := hz
  rw [sizeLine_eq] at hz2
  have f1 : Builtin.List.listFitsIndex (items.size : Int) = true := Bool.and_eq_true_iff.mpr ⟨decide_eq_true (by omega), decide_eq_true (by omega)⟩
  have f2 : Builtin.List.listTooLong (items.size : Int).toNat = false := decide_eq_false (by rw [Int.toNat_natCast, sizeLine_eq]; omega)
  have f3 : ¬ (items.size : Int) < 0 := by omega
  generalize (items.size : Int) = k at f1 f2 f3 ⊢
  clear hz2 hz ht hit hT
  dsimp only
  show wpAny _ A (asInt? (.int k u) >>= _) _ _ _
  refine wpAny_bind (m := asInt? (.int k u)) ?_
  show wpAny _ A (pure (some k)) _ _ _
  refine wpAny_pure ?_
  dsimp only
  rw [if_neg (by rw [f1]; decide), if_neg f3, if_neg (by rw [f2]; decide)]
  exact wpAny_pure (q _ _ htk)
end
end HrX
namespace HrX
open PySem PySem.Spec PyProof.Rows L2 RT PySem.W PyProof.V
/-- list(reversed(x)), x a list or a tuple: a new list -/
def tListRev (K : PySem.W.Frag) (te : TE) : TE := fun σ H Q => te σ H fun v H1 => ∃ (a : Addr) (xs : List V), v = .ref a ∧ (SqL K H1 a xs ∨ SqT K H1 a xs) ∧ ∀ q, H1 q = none → Q (.ref q) (upd H1 q (.lst xs.reverse))
theorem vals_revT {xs : List V} {its : List Value} {acc : Array Value} (r : Vals xs its) (h : ItemsOf (fun i v => its.toArray[its.toArray.size - 1 - i]? = some v) acc its.toArray.size) : Vals xs.reverse acc.toList := RT.vals_rev r h
section
variable {X : Cx}
theorem pe_listRev {e : Expr} {te : TE} {p p2 pos pos2 : Pos} (hc : X.calm = true) (hg : Gl X "list") (hm : X.mg "list" = none) (hg2 : Gl X "reversed") (hm2 : X.mg "reversed" = none) (he : PE X e te)
    (hs : starEach [e] X.env = (false, eval e X.env) :: starEach [] X.env := by rfl)
    (hs2 : starEach [.Call (.Name "reversed" p2) [e] [] pos2] X.env = (false, eval (.Call (.Name "reversed" p2) [e] [] pos2) X.env) :: starEach [] X.env := by rfl) :
    PE X (.Call (.Name "list" p) [.Call (.Name "reversed" p2) [e] [] pos2] [] pos) (tListRev X.K te) := by
  refine ⟨fun pins s σ H Q I h => ?_⟩
  refine Call_ (ld_blt I hg hm boot_list (PyProof.Rows.callWith_type1 (args_cons (Call_ (ld_blt I hg2 hm2 PyProof.Rows.boot_reversed (PyProof.Rows.callWith_type1 (args_cons (thn (he.run pins s σ H _ I h) fun u s1 ⟨v, H1, I1, r1, q1⟩ => args_nil ?_) hs) hs rfl))) hs2) hs2 rfl))
  obtain ⟨a, xs, ev, hq, q⟩ := q1
  subst ev
  obtain rfl : u = Value.ref a := r1
  rcases hq with hq | hq
  · obtain ⟨its, rv, p', hz⟩ := I1.list hq
    refine call_reversed_list p'.isList (args_nil ?_)
    have hl := p'.isList
    obtain ⟨ol, hol, _⟩ := id hl
    have hne : a ≠ s1.heap.objs.size := Nat.ne_of_lt (Heap.lt_size hol)
    have hn : its.toArray.size ≤ sizeLine := by rw [List.size_toArray, ← rv.length]; exact hz
    have W := (Walks.listRev (prog := X.prog) (w := X.w) (A := X.A.in1.in1) (I1.ok.hd hc) s1.heap.objs.size a hne its.toArray).toS
    have st0 : (its.toArray.size : Int) - 1 = (its.toArray.size : Int) - 1 - ((0 : Nat) : Int) := by omega
    refine call_list_walk (s := { s1 with heap := s1.heap.push (revObj a ((its.toArray.size : Int) - 1)) }) (.inl rfl) W (fun i s' st => Heap.IsRevIter.typeIs st.2.1) ⟨Nat.zero_le _, by rw [← st0]; exact ⟨_, Heap.get?_push_size _ rfl, rfl, rfl⟩, hl.push _⟩ (fun b hb => ?_) (by simp) (fun s₁ Q' E' st qb => hint_list (I := s1.heap.objs.size) (l := a) (Heap.IsRevIter.typeIs st.2.1) (qb false s₁.toks (Nat.le_refl _))) (fun s' acc c' hm' hS' hi => ?_) hn
    · show b < (s1.heap.push _).objs.size
      rw [Heap.size_push]
      rcases List.mem_cons.mp hb with e | e
      · rw [e]; exact Nat.lt_succ_self _
      · rw [List.mem_singleton.mp e]; exact Nat.lt_succ_of_lt (Heap.lt_size hol)
    · rw [Moved.eq_with hm']
      have hsz : (s1.heap.push (revObj a ((its.toArray.size : Int) - 1))).objs.size = s1.heap.objs.size + 1 := Heap.size_push ..
      refine ⟨.ref _, upd H1 _ (.lst xs.reverse), I1.laid (t' := s'.toks) (h' := s'.heap) (fun b o e => hm'.heap b o (fun hmem => ?_) (Heap.get?_push_of_some _ (Heap.get?_push_of_some _ e))) (by rw [hsz]; exact Nat.le_succ _) (show ObjOk X.prog X.w _ _ _ (.lst xs.reverse) from ⟨by rw [List.length_reverse]; exact hz, acc.toList, c', vals_rev rv hi, by rw [Array.toArray_toList]; exact hS'⟩), rfl, q _ (I1.hok.fresh (by rw [hsz]; exact Nat.le_succ _))⟩
      have hb := Heap.lt_size e
      rcases List.mem_cons.mp hmem with z | z
      · rw [z, hsz] at hb; exact absurd hb (Nat.not_lt.mpr (Nat.le_succ _))
      · rw [List.mem_singleton.mp z] at hb; exact absurd hb (Nat.lt_irrefl _)
  · obtain ⟨its, rv, p', hz⟩ := I1.tuple hq
    have hn : its.toArray.size ≤ sizeLine := by rw [List.size_toArray, ← rv.length]; exact hz
    have hn63 := line63
    refine call_reversed_tup p' (fun A E Q k => len_tuple p' (by have := hn; simp only [List.size_toArray] at this ⊢; omega) k) (args_nil ?_)
    obtain ⟨ol, hol, _⟩ := id p'
    have hne : a ≠ s1.heap.objs.size := Nat.ne_of_lt (Heap.lt_size hol)
    have W := (walks_rt (prog := X.prog) (w := X.w) (A := X.A.in1.in1) (I1.ok.hd hc) s1.heap.objs.size a hne its.toArray hn).toS
    have st0 : (its.toArray.size : Int) - 1 = (its.toArray.size : Int) - 1 - ((0 : Nat) : Int) := by omega
    refine call_list_walk (s := { s1 with heap := s1.heap.push (rtObj a ((its.toArray.size : Int) - 1)), toks := s1.toks + 1 + 1 }) (.inr rfl) W (fun i s' st => IsRt.typeIs st.2.1) ⟨Nat.zero_le _, by rw [← st0]; exact ⟨_, Heap.get?_push_size _ rfl, rfl, rfl⟩, tup_at p' fun o e => Heap.get?_push_of_some _ e⟩ (fun b hb => ?_) (by simp) (fun s₁ Q' E' st qb => hint_tup (by have := st.2.1; rw [← st0] at this; exact this) st.2.2 hn qb) (fun s' acc c' hm' hS' hi => ?_) hn
    · show b < (s1.heap.push _).objs.size
      rw [Heap.size_push]
      rcases List.mem_cons.mp hb with e | e
      · rw [e]; exact Nat.lt_succ_self _
      · rw [List.mem_singleton.mp e]; exact Nat.lt_succ_of_lt (Heap.lt_size hol)
    · rw [Moved.eq_with hm']
      have hsz : (s1.heap.push (rtObj a ((its.toArray.size : Int) - 1))).objs.size = s1.heap.objs.size + 1 := Heap.size_push ..
      refine ⟨.ref _, upd H1 _ (.lst xs.reverse), I1.laid (t' := s'.toks) (h' := s'.heap) (fun b o e => hm'.heap b o (fun hmem => ?_) (Heap.get?_push_of_some _ (Heap.get?_push_of_some _ e))) (by rw [hsz]; exact Nat.le_succ _) (show ObjOk X.prog X.w _ _ _ (.lst xs.reverse) from ⟨by rw [List.length_reverse]; exact hz, acc.toList, c', vals_rev rv hi, by rw [Array.toArray_toList]; exact hS'⟩), rfl, q _ (I1.hok.fresh (by rw [hsz]; exact Nat.le_succ _))⟩
      have hb := Heap.lt_size e
      rcases List.mem_cons.mp hmem with z | z
      · rw [z, hsz] at hb; exact absurd hb (Nat.not_lt.mpr (Nat.le_succ _))
      · rw [List.mem_singleton.mp z] at hb; exact absurd hb (Nat.lt_irrefl _)
end
end HrX
namespace Hf
open PySem PySem.Spec PyProof.Rows L2
section
variable {X : Cx} {Γ : List Cell} {e : Expr} {ds : List D} {x : D} {p p2 pos pos2 : Pos}
theorem dn_listRev (hc : X.calm = true) (hg : Gl X "list") (hm : NoMg X "list") (hg2 : Gl X "reversed") (hm2 : NoMg X "reversed") (he : DE X Γ e x) (q : x = .list ds ∨ x = .tuple ds)
    (hs : starEach [e] X.env = (false, eval e X.env) :: starEach [] X.env := by rfl)
    (hs2 : starEach [.Call (.Name "reversed" p2) [e] [] pos2] X.env = (false, eval (.Call (.Name "reversed" p2) [e] [] pos2) X.env) :: starEach [] X.env := by rfl) :
    DN X Γ (.Call (.Name "list" p) [.Call (.Name "reversed" p2) [e] [] pos2] [] pos) ds.reverse := fun σ Hd H Q r k =>
  wE_of (HrX.pe_listRev hc hg hm hg2 hm2 pe_w hs hs2) (he σ Hd H _ r fun v Hd1 H1 s1 iv => by
    have key : ∃ (a : Addr) (xs : List V), v = .ref a ∧ (SqL X.K H1 a xs ∨ SqT X.K H1 a xs) ∧ IsAll X.K Hd1 xs ds := by
      rcases q with rfl | rfl
      · cases iv with
        | lst s al => exact ⟨_, _, rfl, .inl (Evl.ex_l s1.s s), al⟩
      · cases iv with
        | tup s al => exact ⟨_, _, rfl, .inr (Evl.ex_t s1.s s), al⟩
    obtain ⟨a, xs, e1, e2, al⟩ := key
    exact ⟨a, xs, e1, e2, fun l hl => k l xs.reverse Hd1 (upd H1 l (.lst xs.reverse)) (s1.trans (Stp.new s1.s hl)) (ex_none s1.h hl) (ex_none s1.s hl) upd_same al.reverse⟩)
end
end Hf

namespace Hf
open PySem PySem.Spec PyProof.Rows L2
open Evl (Ex)
section
variable {X : Cx} {Γ : List Cell} {A : AD} {rest : List Stmt} {e tg : Expr} {es : List Expr} {d : D} {ds dds : List D} {k i : Nat} {x y : Str} {S : List D → Res → Prop} {pos p p2 : Pos} {P : D → Prop} {PL : List D → Prop}
def DEA (X : Cx) (Γ : List Cell) (e : Expr) (P : D → Prop) : Prop := ∀ σ Hd H (Q : VK), Rl X.K Γ σ Hd H → (∀ v d Hd' H', P d → Stp Hd H Hd' H' → Is X.K Hd' v d → Q v H') → wE X e σ H Q
def DNA (X : Cx) (Γ : List Cell) (e : Expr) (P : List D → Prop) : Prop := ∀ σ Hd H (Q : VK), Rl X.K Γ σ Hd H → (∀ l vs ds Hd' H', P ds → Stp Hd H Hd' H' → H l = none → Hd' l = none → H' l = some (.lst vs) → IsAll X.K Hd' vs ds → Q (.ref l) H') → wE X e σ H Q
theorem dea_call (h : Has X.prog X.w X.K X.mg X.base x k S) (hr : Room k X.A) (hg : Gl X x) (ha : DA X Γ (e :: es) ds) (hs : S ds (.ok (.any P))) (hdb : (x == ("__debug__" : Str)) = false := by decide)
    (he : starEach (e :: es) X.env = (false, eval e X.env) :: starEach es X.env := by rfl) (hpl : (backTo pos (starEach es X.env)).any (·.1) = false := by rfl) : DEA X Γ (.Call (.Name x p) (e :: es) [] pos) P := fun σ Hd H Q r k =>
  call_core h hr hg ha hs hdb he hpl r fun v Hd1 H1 H2 s1 ⟨Hd2, d, hp, s2, i2⟩ => k v d Hd2 H2 hp (s1.trans s2) i2
theorem dna_call (h : Has X.prog X.w X.K X.mg X.base x k S) (hr : Room k X.A) (hg : Gl X x) (ha : DA X Γ (e :: es) ds) (hs : S ds (.ok (.anyL PL))) (hdb : (x == ("__debug__" : Str)) = false := by decide)
    (he : starEach (e :: es) X.env = (false, eval e X.env) :: starEach es X.env := by rfl) (hpl : (backTo pos (starEach es X.env)).any (·.1) = false := by rfl) : DNA X Γ (.Call (.Name x p) (e :: es) [] pos) PL := fun σ Hd H Q r k =>
  call_core h hr hg ha hs hdb he hpl r fun v Hd1 H1 H2 s1 ⟨Hd2, l, vs, ds, hp, e1, s2, h0, hd, h1, i2⟩ => by
    subst e1
    exact k l vs ds Hd2 H2 hp (s1.trans s2) (ex_none s1.h h0) hd h1 i2
theorem ds_setA (he : DEA X Γ e P) (hp : PS X (.Assign [.Name y p] e pos) (tAsg (wE X e) (gName i))) (h : ∀ d, P d → DS X (Γ.set i (.d d)) rest A) : DS X Γ (.Assign [.Name y p] e pos :: rest) A := fun Hs H0 Hb tk σ Hd H r =>
  wSs_cons (wS_of hp (he σ Hd H _ r.l fun v d Hd1 H1 hd s1 i1 => h d hd Hs H0 Hb tk _ Hd1 H1 ((r.stp s1).setD i1)))
theorem ds_setNA (he : DNA X Γ e PL) (hp : PS X (.Assign [.Name y p] e pos) (tAsg (wE X e) (gName i))) (h : ∀ ds, PL ds → DS X (Γ.set i (.ml ds)) rest A) : DS X Γ (.Assign [.Name y p] e pos :: rest) A := fun Hs H0 Hb tk σ Hd H r =>
  wSs_cons (wS_of hp (he σ Hd H _ r.l fun l vs ds Hd1 H1 hpl s1 hl hd h1 i1 => h ds hpl Hs H0 Hb tk _ Hd1 H1 ((r.stp s1).setOwn (c := .ml ds) ⟨l, vs, rfl, hd, h1, i1⟩ (ex_none r.e.h hl) fun j cj ov _ a b => notown_new r hl j cj ov a b)))
theorem ds_asgA (he : DEA X Γ e P) (h : ∀ d, P d → ∃ sts, DG X tg d sts ∧ DS X (setC Γ sts) rest A) (hs : swapsWithSole [tg] e pos.line X.env = pure false := by rfl) (hw : swappedStores [tg] e X.env = pure none := by rfl)
    (h1 : (assignEach [tg] X.env).map (·.2) = [assign tg X.env] := by rfl) : DS X Γ (.Assign [tg] e pos :: rest) A := fun Hs H0 Hb tk σ Hd H r =>
  wSs_cons (wS_of (ps_asg pe_w pg_w hs hw h1) (he σ Hd H _ r.l fun v d Hd1 H1 hd s1 i1 => by
    obtain ⟨sts, hg, h2⟩ := h d hd
    exact hg σ Hd1 H1 v _ i1 s1.s fun ws hw => h2 Hs H0 Hb tk _ Hd1 H1 ((r.stp s1).setV hw)))
theorem ds_retA (he : DE X Γ e d) (hP : P d) (h : A.rt (.any P)) : DS X Γ (.Return (some e) pos :: rest) A := fun Hs H0 Hb tk σ Hd H r =>
  wSs_cons (wS_of (ps_ret pe_w) (he σ Hd H _ r.l fun v Hd1 H1 s1 i1 => ⟨_, h, Hd1, d, hP, r.e.trans s1, i1⟩))
theorem ds_retNA (he : DN X Γ e ds) (hP : PL ds) (h : A.rt (.anyL PL)) : DS X Γ (.Return (some e) pos :: rest) A := fun Hs H0 Hb tk σ Hd H r =>
  wSs_cons (wS_of (ps_ret pe_w) (he σ Hd H _ r.l fun l vs Hd1 H1 s1 hl hd h1 i1 => ⟨_, h, Hd1, l, vs, ds, hP, rfl, r.e.trans s1, ex_none r.e.h hl, hd, h1, i1⟩))
theorem ds_retLA (hi : Γ[i]? = some (.ml ds)) (hp : PE X (.Name y p) (tVar i)) (hP : PL ds) (h : A.rt (.anyL PL)) : DS X Γ (.Return (some (.Name y p)) pos :: rest) A := fun Hs H0 Hb tk σ Hd H r => by
  obtain ⟨l, vs, es, n, hl, al⟩ := own_list r hi
  have h0 := r.o i _ _ l hi es rfl
  exact wSs_cons (wS_of (ps_ret hp) ⟨_, es, ⟨_, h, Hd, l, vs, ds, hP, rfl, r.e, h0, n, hl, al⟩⟩)
end
end Hf
namespace Hf
open PySem PySem.Spec PyProof.Rows L2
/-- an item of a list that stands tracked, by values -/
theorem get_list {X : Cx} : PGet X (fun o i H Q => ∃ l vs j w, o = .ref l ∧ i = .int j ∧ H l = some (.lst vs) ∧ atI vs j = some w ∧ Q w H) := by
  intro pins s σ H x y v u Q I rx ry h
  obtain ⟨p, xs, i, z, rfl, rfl, hq, he, q⟩ := h
  cases rx
  obtain ⟨t, rfl⟩ := ry
  obtain ⟨its, r, pl, hz⟩ := I.list (show SqL X.K H p xs from .inl (.inl hq))
  obtain ⟨j, h1, h2, h3, h4, h5⟩ := atI_get he
  obtain ⟨w, ew, rw'⟩ := r.get h2
  have hl := r.length
  have hn := line63
  have fin : EP X pins σ Q w s := ⟨z, H, I, rw', q⟩
  by_cases h0 : 0 ≤ i
  · have hj : i.toNat = j := by
      rw [seqIndex_of h0 h5] at h1
      exact Option.some.inj h1
    exact wpAny_getItem_list pl.isList h0 (by omega) (by rw [hj]; simpa using ew) fin
  · have hj : (i + (its.toArray.size : Int)).toNat = j := by
      rw [seqIndex_neg (by omega) h4] at h1
      rw [List.size_toArray, ← hl]
      exact Option.some.inj h1
    exact wpAny_getItem_list_neg pl.isList (by omega) (by rw [List.size_toArray] <;> omega) (by omega) (by rw [hj]; simpa using ew) fin
section
variable {X : Cx} {Γ : List Cell} {A : AD} {rest : List Stmt} {b e : Expr} {ds : List D} {i : Nat} {x : Str} {pos p spos : Pos} {u v : Int}
/-- x[k] += e, x one's own list, the item a whole number -/
theorem ds_putAdd {k : Int} {m : Nat} (hi : Γ[i]? = some (.ml ds)) (hx : PE X (.Name x p) (tVar i)) (hk : DE X Γ b (.int k)) (hm : ixN ds.length k = some m) (hv : ds[m]? = some (.int u)) (hat : L2.atI ds k = some (.int u)) (he : DE X Γ e (.int v))
    (h : DS X (Γ.set i (.ml (ds.set m (.int (u + v))))) rest A)
    (ha : ∀ ov iv new, augStore b ov iv new = (do holding [new, ov, iv] (setItem ov iv new); release [new, ov, iv] []; pure .next) := by intros; rfl) : DS X Γ (.AugAssign (.Subscript (.Name x p) b spos) .Add e pos :: rest) A := fun Hs H0 Hb tk σ Hd H r => by
  obtain ⟨l, vs, es, n, hl, al⟩ := own_list r hi
  refine wSs_cons (wS_of (ps_augS hx pe_w get_list pe_w ip_add set_list ha) ?_)
  refine ⟨_, es, ?_⟩
  refine hk σ Hd H _ r.l fun kv Hd1 H1 s1 ik => ?_
  cases ik
  have al1 := al.mono s1.d
  obtain ⟨w, hw, iw⟩ := atI_all al1 hat
  cases iw
  refine ⟨l, vs, k, _, rfl, rfl, s1.h _ _ hl, hw, ?_⟩
  refine he σ Hd1 H1 _ (r.stp s1).l fun ev Hd2 H2 s2 ie => ?_
  cases ie
  refine ⟨u, v, rfl, rfl, ?_⟩
  have r2 := (r.stp s1).stp s2
  refine ⟨l, vs, k, m, rfl, rfl, s2.h _ _ (s1.h _ _ hl), by rw [al.len]; exact hm, ?_⟩
  exact h Hs H0 Hb tk σ Hd2 _ (r2.chg hi es (show some (V.ref l) = some (.ref l) from rfl) ⟨l, _, rfl, s2.non (s1.non n hl) (s1.h _ _ hl), upd_same, (al1.mono s2.d).set m (.int _)⟩)
end
end Hf
namespace Hf
open PySem PySem.Spec PyProof.Rows L2
section
variable {X : Cx} {Γ : List Cell} {d : D} {rs : List D} {k : Nat} {x : Str} {S : List D → Res → Prop} {pos p : Pos}
theorem call0_core (h : Has X.prog X.w X.K X.mg X.base x k S) (hr : Room k X.A) (hg : Gl X x) {o : Out} (hs : S [] (.ok o)) (hdb : (x == ("__debug__" : Str)) = false) {σ : St} {Hd H : Hp} {Q : VK} (r : Rl X.K Γ σ Hd H) (q : ∀ v H2, OutIs X.K Hd H o v H2 → Q v H2) : wE X (.Call (.Name x p) [] [] pos) σ H Q := by
  obtain ⟨f, fd, ps, F, hm, hk, hb⟩ := h.ok
  refine wE_of (pe_call0 F hr hg hm hk hb .nil passN hdb) ?_
  exact ⟨Hd, [], .ok o, r.sub, .nil, hs, fun v H2 w => q v H2 w⟩
theorem de_call0 (h : Has X.prog X.w X.K X.mg X.base x k S) (hr : Room k X.A) (hg : Gl X x) (hs : S [] (.ok (.val d))) (hdb : (x == ("__debug__" : Str)) = false := by decide) : DE X Γ (.Call (.Name x p) [] [] pos) d := fun σ Hd H Q r k =>
  call0_core h hr hg hs hdb r fun v H2 ⟨Hd2, s2, i2⟩ => k v Hd2 H2 s2 i2
theorem dn_call0 (h : Has X.prog X.w X.K X.mg X.base x k S) (hr : Room k X.A) (hg : Gl X x) (hs : S [] (.ok (.newL rs))) (hdb : (x == ("__debug__" : Str)) = false := by decide) : DN X Γ (.Call (.Name x p) [] [] pos) rs := fun σ Hd H Q r k =>
  call0_core h hr hg hs hdb r fun v H2 ⟨Hd2, l, vs, e1, s2, h0, hd, h1, i2⟩ => by
    subst e1
    exact k l vs Hd2 H2 s2 h0 hd h1 i2
end
end Hf
namespace Hf
open PySem PySem.Spec PyProof.Rows L2
/-- written whole numbers and texts -/
def constsD : List Expr → Option (List D)
  | [] => some []
  | .Constant (.int k) _ _ :: es => (constsD es).map fun ds => .int k :: ds
  | .Constant (.str k) _ _ :: es => (constsD es).map fun ds => .str k :: ds
  | _ :: _ => none
theorem da_const {X : Cx} {Γ : List Cell} : ∀ {es : List Expr} {ds : List D}, constsD es = some ds → DA X Γ es ds := by
  intro es
  induction es with
  | nil => intro ds h; cases h; exact da_nil
  | cons e es ih =>
    intro ds h
    unfold constsD at h
    split at h
    · rename_i heq; cases heq
    · rename_i heq
      cases heq
      obtain ⟨ds', h1, rfl⟩ := Option.map_eq_some_iff.mp h
      exact da_cons de_int (ih h1)
    · rename_i heq
      cases heq
      obtain ⟨ds', h1, rfl⟩ := Option.map_eq_some_iff.mp h
      exact da_cons de_str (ih h1)
    · cases h
end Hf
namespace Hf
open PySem PySem.Spec PyProof.Rows L2
section
variable {X : Cx} {Γ : List Cell} {A : AD} {rest : List Stmt} {e : Expr} {es : List Expr} {ds : List D} {ms : List (D × D)} {k i : Nat} {x y : Str} {S : List D → Res → Prop} {pos p : Pos} {PM : List (D × D) → Prop}
/-- a new dict of which something is known -/
def DMA (X : Cx) (Γ : List Cell) (e : Expr) (P : List (D × D) → Prop) : Prop := ∀ σ Hd H (Q : VK), Rl X.K Γ σ Hd H → (∀ l vs ds Hd' H', P ds → Stp Hd H Hd' H' → H l = none → Hd' l = none → H' l = some (.dK vs) → IsKv X.K Hd' vs ds → Q (.ref l) H') → wE X e σ H Q
theorem dma_call (h : Has X.prog X.w X.K X.mg X.base x k S) (hr : Room k X.A) (hg : Gl X x) (ha : DA X Γ (e :: es) ds) (hs : S ds (.ok (.anyM PM))) (hdb : (x == ("__debug__" : Str)) = false := by decide)
    (he : starEach (e :: es) X.env = (false, eval e X.env) :: starEach es X.env := by rfl) (hpl : (backTo pos (starEach es X.env)).any (·.1) = false := by rfl) : DMA X Γ (.Call (.Name x p) (e :: es) [] pos) PM := fun σ Hd H Q r k =>
  call_core h hr hg ha hs hdb he hpl r fun v Hd1 H1 H2 s1 ⟨Hd2, l, vs, ds, hp, e1, s2, h0, hd, h1, i2⟩ => by
    subst e1
    exact k l vs ds Hd2 H2 hp (s1.trans s2) (ex_none s1.h h0) hd h1 i2
theorem ds_setMA (he : DMA X Γ e PM) (hp : PS X (.Assign [.Name y p] e pos) (tAsg (wE X e) (gName i))) (h : ∀ ms, PM ms → DS X (Γ.set i (.md ms)) rest A) : DS X Γ (.Assign [.Name y p] e pos :: rest) A := fun Hs H0 Hb tk σ Hd H r =>
  wSs_cons (wS_of hp (he σ Hd H _ r.l fun l vs ds Hd1 H1 hpl s1 hl hd h1 i1 => h ds hpl Hs H0 Hb tk _ Hd1 H1 ((r.stp s1).setOwn (c := .md ds) ⟨l, vs, rfl, hd, h1, i1⟩ (ex_none r.e.h hl) fun j cj ov _ a b => notown_new r hl j cj ov a b)))
theorem ds_retKA (hi : Γ[i]? = some (.md ms)) (hp : PE X (.Name y p) (tVar i)) (hP : PM ms) (h : A.rt (.anyM PM)) : DS X Γ (.Return (some (.Name y p)) pos :: rest) A := fun Hs H0 Hb tk σ Hd H r => by
  obtain ⟨l, vs, es, n, hl, al⟩ := own_dict r hi
  have h0 := r.o i _ _ l hi es rfl
  exact wSs_cons (wS_of (ps_ret hp) ⟨_, es, ⟨_, h, Hd, l, vs, ms, hP, rfl, r.e, h0, n, hl, al⟩⟩)
end
end Hf

namespace HnX
open PySem PySem.Spec PyProof.Rows L2 RT PySem.W PyProof.V
section
variable {prog : Program} {w : World} {A : Around} {E : Value → Shared → Prop} {s : Shared} {l : Addr} {its : List Value} {ns : List Int} {Q : Value → Shared → Prop}
theorem maxT_raw (hh : A.handled = none) (hl : s.heap.IsTuple l its.toArray) (hi : IntsAre its ns) (hne : 0 < ns.length)
    (h : ∀ h' tk M t', (∀ b o, s.heap.get? b = some o → h'.get? b = some o) → M ∈ ns → (∀ a, a ∈ ns → a ≤ M) → Q (.int M t') { s with heap := h', toks := tk }) : wpAny (model prog w) A (call (.builtin "max") [.ref l]) Q E s := by
  obtain ⟨xs, e⟩ := hi.allInts.items
  have hn : numsOf (intItems xs).toList = ns := by rw [← e]; exact hi.numsOf
  rw [nums_intItems] at hn
  subst hn
  rw [e] at hl
  have hsz : 0 < xs.size := by simpa using hne
  refine call_max_walkS (iter_tupleW (A := A.in1) hh hl fun s₂ e W st hfp hw hk => ?_)
  refine ⟨_, _, _, _, _, _, _, _, rfl, W, st, hfp, by simpa [intItems] using hsz, CmpOf.ints_gt (numAt xs) (fun _ _ => intItems_at), fun v s' hP m => ?_⟩
  obtain ⟨h', tk, rfl, hk'⟩ := moved_old e rfl m
  have hP' : (intItems xs)[argBest (fun i j => decide (numAt xs i > numAt xs j)) (xs.size - 1)]? = some v := by simpa [intItems] using hP
  obtain ⟨t, rfl⟩ := intItems_at hP'
  obtain ⟨h1, h2⟩ := argBest_gt (numAt xs) (xs.size - 1)
  refine h h' tk _ t hk' ?_ fun a ha => ?_
  · rw [numAt_eq]; exact PySem.getD_mem (by rw [List.length_map, Array.length_toList]; omega)
  · obtain ⟨j, hj, rfl⟩ := mem_getD ha
    rw [List.length_map, Array.length_toList] at hj
    rw [← numAt_eq]; exact h2 j (by omega)
theorem minT_raw (hh : A.handled = none) (hl : s.heap.IsTuple l its.toArray) (hi : IntsAre its ns) (hne : 0 < ns.length)
    (h : ∀ h' tk M t', (∀ b o, s.heap.get? b = some o → h'.get? b = some o) → M ∈ ns → (∀ a, a ∈ ns → M ≤ a) → Q (.int M t') { s with heap := h', toks := tk }) : wpAny (model prog w) A (call (.builtin "min") [.ref l]) Q E s := by
  obtain ⟨xs, e⟩ := hi.allInts.items
  have hn : numsOf (intItems xs).toList = ns := by rw [← e]; exact hi.numsOf
  rw [nums_intItems] at hn
  subst hn
  rw [e] at hl
  have hsz : 0 < xs.size := by simpa using hne
  refine call_min_walkS (iter_tupleW (A := A.in1) hh hl fun s₂ e W st hfp hw hk => ?_)
  refine ⟨_, _, _, _, _, _, _, _, rfl, W, st, hfp, by simpa [intItems] using hsz, CmpOf.ints_lt (numAt xs) (fun _ _ => intItems_at), fun v s' hP m => ?_⟩
  obtain ⟨h', tk, rfl, hk'⟩ := moved_old e rfl m
  have hP' : (intItems xs)[argBest (fun i j => decide (numAt xs i < numAt xs j)) (xs.size - 1)]? = some v := by simpa [intItems] using hP
  obtain ⟨t, rfl⟩ := intItems_at hP'
  obtain ⟨h1, h2⟩ := argBest_lt (numAt xs) (xs.size - 1)
  refine h h' tk _ t hk' ?_ fun a ha => ?_
  · rw [numAt_eq]; exact PySem.getD_mem (by rw [List.length_map, Array.length_toList]; omega)
  · obtain ⟨j, hj, rfl⟩ := mem_getD ha
    rw [List.length_map, Array.length_toList] at hj
    rw [← numAt_eq]; exact h2 j (by omega)
theorem sumT_raw (hh : A.handled = none) (hl : s.heap.IsTuple l its.toArray) (hi : IntsAre its ns)
    (h : ∀ h' tk t', (∀ b o, s.heap.get? b = some o → h'.get? b = some o) → Q (.int ns.sum t') { s with heap := h', toks := tk }) : wpAny (model prog w) A (call (.builtin "sum") [.ref l]) Q E s := by
  obtain ⟨xs, e⟩ := hi.allInts.items
  have hn : numsOf (intItems xs).toList = ns := by rw [← e]; exact hi.numsOf
  rw [nums_intItems] at hn
  rw [e] at hl
  refine ktm_sumG hh hl fun h' tk t' hk => ?_
  have := h h' tk t' hk
  rw [preSum_eq, List.take_of_length_le (by simp), hn]; exact this
end
section
variable {X : Cx}
def rSumT (K : PySem.W.Frag) : List V → Hp → VK → Prop := fun vs H Q => ∃ (a : Addr) (ns : List Int), vs = [V.ref a] ∧ SqT K H a (ns.map V.int) ∧ Q (.int ns.sum) H
def rMaxT (K : PySem.W.Frag) : List V → Hp → VK → Prop := fun vs H Q => ∃ (a : Addr) (ns : List Int), vs = [V.ref a] ∧ SqT K H a (ns.map V.int) ∧ 0 < ns.length ∧ ∀ m, m ∈ ns → (∀ y, y ∈ ns → y ≤ m) → Q (.int m) H
def rMinT (K : PySem.W.Frag) : List V → Hp → VK → Prop := fun vs H Q => ∃ (a : Addr) (ns : List Int), vs = [V.ref a] ∧ SqT K H a (ns.map V.int) ∧ 0 < ns.length ∧ ∀ m, m ∈ ns → (∀ y, y ∈ ns → m ≤ y) → Q (.int m) H
theorem cr_sumT (hc : X.calm = true) : CallR X (.builtin "sum") (rSumT X.K) := by
  intro pins s σ H vs us Q I r h
  obtain ⟨a, ns, rfl, hs, q⟩ := h
  obtain ⟨its, rv, hl, _⟩ := I.tuple hs
  rw [Vals.ref1 r]
  exact sumT_raw (I.ok.hd hc) hl rv.ints fun h' tk t' hk => ⟨.int _, H, I.kept hk, ⟨_, rfl⟩, q⟩
theorem cr_maxT (hc : X.calm = true) : CallR X (.builtin "max") (rMaxT X.K) := by
  intro pins s σ H vs us Q I r h
  obtain ⟨a, ns, rfl, hs, hne, q⟩ := h
  obtain ⟨its, rv, hl, _⟩ := I.tuple hs
  rw [Vals.ref1 r]
  exact maxT_raw (I.ok.hd hc) hl rv.ints hne fun h' tk m t' hk h1 h2 => ⟨.int _, H, I.kept hk, ⟨_, rfl⟩, q m h1 h2⟩
theorem cr_minT (hc : X.calm = true) : CallR X (.builtin "min") (rMinT X.K) := by
  intro pins s σ H vs us Q I r h
  obtain ⟨a, ns, rfl, hs, hne, q⟩ := h
  obtain ⟨its, rv, hl, _⟩ := I.tuple hs
  rw [Vals.ref1 r]
  exact minT_raw (I.ok.hd hc) hl rv.ints hne fun h' tk m t' hk h1 h2 => ⟨.int _, H, I.kept hk, ⟨_, rfl⟩, q m h1 h2⟩
end
end HnX
namespace Hf
open PySem PySem.Spec PyProof.Rows L2 RT PySem.W HnX
section
variable {X : Cx} {Γ : List Cell} {a : Expr} {p pos : Pos} {i j : Int}
theorem de_sumT2 (hc : X.calm = true) (hg : Gl X "sum") (hm : NoMg X "sum") (ha : DE X Γ a (.tuple [.int i, .int j])) (hs : starEach [a] X.env = (false, eval a X.env) :: starEach [] X.env := by rfl) : DE X Γ (.Call (.Name "sum" p) [a] [] pos) (.int (i + j)) :=
  de_B (cr_sumT hc) hg hm (by decide +kernel) (da_cons ha da_nil hs) (hn := by decide) (hdb := by decide) (he := hs) (hpl := rfl) (hr := fun vs Hd H Q s h k => by
    obtain ⟨v, rfl, q⟩ := all1 h
    cases q with | tup t al =>
      rw [IsAll.toInts (ns := [i, j]) al] at t
      refine ⟨_, [i, j], rfl, Evl.ex_t s t, ?_⟩
      rw [show ([i, j] : List Int).sum = i + j by simp]
      exact k _ Hd H (Stp.refl s) (.int _))
theorem de_maxT2 (hc : X.calm = true) (hg : Gl X "max") (hm : NoMg X "max") (ha : DE X Γ a (.tuple [.int i, .int j])) (hs : starEach [a] X.env = (false, eval a X.env) :: starEach [] X.env := by rfl) : DE X Γ (.Call (.Name "max" p) [a] [] pos) (.int (if j > i then j else i)) :=
  de_B (cr_maxT hc) hg hm (by decide +kernel) (da_cons ha da_nil hs) (hn := by decide) (hdb := by decide) (he := hs) (hpl := rfl) (hr := fun vs Hd H Q s h k => by
    obtain ⟨v, rfl, q⟩ := all1 h
    cases q with | tup t al =>
      rw [IsAll.toInts (ns := [i, j]) al] at t
      refine ⟨_, [i, j], rfl, Evl.ex_t s t, by simp, fun m h1 h2 => ?_⟩
      have e : m = if j > i then j else i := by
        have b1 := h2 i (by simp)
        have b2 := h2 j (by simp)
        simp only [List.mem_cons, List.not_mem_nil, or_false] at h1
        split <;> omega
      rw [e]
      exact k _ Hd H (Stp.refl s) (.int _))
theorem de_minT2 (hc : X.calm = true) (hg : Gl X "min") (hm : NoMg X "min") (ha : DE X Γ a (.tuple [.int i, .int j])) (hs : starEach [a] X.env = (false, eval a X.env) :: starEach [] X.env := by rfl) : DE X Γ (.Call (.Name "min" p) [a] [] pos) (.int (if j < i then j else i)) :=
  de_B (cr_minT hc) hg hm (by decide +kernel) (da_cons ha da_nil hs) (hn := by decide) (hdb := by decide) (he := hs) (hpl := rfl) (hr := fun vs Hd H Q s h k => by
    obtain ⟨v, rfl, q⟩ := all1 h
    cases q with | tup t al =>
      rw [IsAll.toInts (ns := [i, j]) al] at t
      refine ⟨_, [i, j], rfl, Evl.ex_t s t, by simp, fun m h1 h2 => ?_⟩
      have e : m = if j < i then j else i := by
        have b1 := h2 i (by simp)
        have b2 := h2 j (by simp)
        simp only [List.mem_cons, List.not_mem_nil, or_false] at h1
        split <;> omega
      rw [e]
      exact k _ Hd H (Stp.refl s) (.int _))
open Evl (Ex)
/-- {k: v} -/
theorem dm_one {ke ve : Expr} {d : D} (hk : DE X Γ ke (.int j)) (hv : DE X Γ ve d) : DM X Γ (.Dict [some ke] [ve] pos) (ikv [(j, d)]) := fun σ Hd H Q r k => by
  have pd := pe_disp (X := X) (pps_cons (pos := pos) (k := ke) (v := ve) pe_w pe_w pps_nil) (by rfl) (by rfl) (by simp) (by simp)
  refine wE_of pd fun p hp => ?_
  have hdp : Hd p = none := ex_none r.sub hp
  have s0 : Stp Hd H Hd (upd H p (.dK [])) := Stp.new r.sub hp
  refine hk σ Hd _ _ (r.stp s0) fun v Hd1 H1 s1 i1 => ?_
  cases i1
  refine hv σ Hd1 _ _ ((r.stp s0).stp s1) fun u Hd2 H2 s2 i2 => ?_
  have s12 := s1.trans s2
  have s02 := s0.trans s12
  have hd2 : Hd2 p = none := s12.non hdp upd_same
  refine ⟨s12.h _ _ upd_same, [(.inl j, u)], rfl, by simp, ?_⟩
  have sm : Stp Hd H Hd2 (upd H2 p (.dK (mergeK [] [(.inl j, u)]))) := s02.mut hp hd2
  exact k p _ Hd2 _ sm hp hd2 upd_same (IsKv.icons i2 (m := []) .nil)
/-- x.clear() of a list of one's own -/
theorem ds_clear {A : AD} {rest : List Stmt} {n : Nat} {x : Str} {ds : List D} {apos pos2 : Pos} (hi : Γ[n]? = some (.ml ds)) (hx : PE X (.Name x p) (tVar n))
    (hp : PS X (.Expr (.Call (.Attribute (.Name x p) "clear" apos) [] [] pos) pos2) (tDrop (tBM0 X.K "list" rClear (wE X (.Name x p)))))
    (h : DS X (Γ.set n (.ml [])) rest A) : DS X Γ (.Expr (.Call (.Attribute (.Name x p) "clear" apos) [] [] pos) pos2 :: rest) A := fun Hs H0 Hb tk σ Hd H r =>
  wSs_cons (wS_of hp (by
    obtain ⟨l, vs, es, hd, h1, i1⟩ := own_list r hi
    refine wE_of hx ⟨_, es, .inl ⟨rfl, vs, SqL.of h1⟩, ?_⟩
    refine ⟨l, vs, rfl, rfl, h1, ?_⟩
    exact h Hs H0 Hb tk σ Hd _ (r.chg hi es (show some (V.ref l) = some (.ref l) from rfl) ⟨l, _, rfl, hd, upd_same, .nil⟩)))
end
end Hf

namespace Hf
open PySem PySem.Spec PyProof.Rows L2 RT PySem.W
section
variable {X : Cx} {Γ : List Cell} {a : Expr} {p pos : Pos} {i j : Int}
theorem de_sumL {ns : List Int} {n : Int} (hc : X.calm = true) (hg : Gl X "sum") (hm : NoMg X "sum") (ha : DE X Γ a (.list (ns.map PyData.int))) (hn : ns.sum = n) (hs : starEach [a] X.env = (false, eval a X.env) :: starEach [] X.env := by rfl) : DE X Γ (.Call (.Name "sum" p) [a] [] pos) (.int n) :=
  de_B (cr_sum hc) hg hm (by decide +kernel) (da_cons ha da_nil hs) (hn := by decide) (hdb := by decide) (he := hs) (hpl := rfl) (hr := fun vs Hd H Q s h k => by
    obtain ⟨v, rfl, q⟩ := all1 h
    cases q with | lst t al =>
      rw [IsAll.toInts al] at t
      subst hn
      exact ⟨_, ns, rfl, Evl.ex_l s t, k _ Hd H (Stp.refl s) (.int _)⟩)
theorem de_ifI {c b : Expr} {m : Bool} {x y : Int} (hc : DT X Γ c m) (ha : m = true → DE X Γ a (.int x)) (hb : m = false → DE X Γ b (.int y)) : DE X Γ (.IfExp c a b pos) (.int (if m = true then x else y)) :=
  de_if hc (fun h => by rw [if_pos h]; exact ha h) (fun h => by rw [if_neg (by rw [h]; decide)]; exact hb h)
end
end Hf

namespace HsX
open PySem PySem.Spec PyProof.Rows L2 RT PySem.W
section
variable {X : Cx}
def rCatS (K : PySem.W.Frag) : R2 := fun x y H Q => ∃ l b xs zs, x = .ref l ∧ y = .ref b ∧ SqL K H l xs ∧ SqL K H b zs ∧ xs.length + zs.length ≤ sizeLine ∧ ∀ p, H p = none → Q (.ref p) (upd H p (.lst (xs ++ zs)))
theorem op_catS : OpR X (binaryOp .Add) (rCatS X.K) := by
  intro pins s σ H x y v u Q I rx ry h
  obtain ⟨l, b, xs, zs, rfl, rfl, hH, hB, hz, q⟩ := h
  cases rx
  cases ry
  obtain ⟨its, rv, ⟨o1, n1, ho, hc, hdd, hd⟩, hl1⟩ := I.list hH
  obtain ⟨its2, rv2, ⟨o2, n2, ho2, hc2, hdd2, hd2⟩, hl2⟩ := I.list hB
  obtain ⟨cls, dd, data, sl⟩ := o1
  obtain ⟨cls2, dd2, data2, sl2⟩ := o2
  simp only at hc hd hc2 hd2
  subst hc hd hc2 hd2
  have e : its.toArray ++ its2.toArray = (its ++ its2).toArray := by simp
  have r1 := rv.length
  have r2 := rv2.length
  refine PySem.concat_meets ⟨_, ho, rfl⟩ ⟨_, ho2, rfl⟩ PySem.noFill_list_add PySem.seq_list_add PySem.F.slot_list_add PySem.F.entry_list_add (PySem.F.args_list_add_2 _ _) (PyProof.Rows.list_addW l b its.toArray its2.toArray n1 n2 dd dd2 sl sl2 (by simp; omega)) ⟨ho, ho2, ?_⟩
  rw [e]
  exact ⟨.ref _, _, I.lnew (t' := s.toks) (rv.append rv2) (by rw [List.length_append]; omega), rfl, q _ I.fresh⟩
end
end HsX
namespace Hf
open PySem PySem.Spec PyProof.Rows L2 RT PySem.W HsX
open Evl (Ex)
section
variable (X : Cx) (Γ : List Cell)
/-- a list that is read -/
def DQ (e : Expr) (ds : List D) : Prop := ∀ σ Hd H (Q : VK), Rl X.K Γ σ Hd H → (∀ (l : Addr) (vs : List V) (Hd' H' : Hp), Stp Hd H Hd' H' → SqL X.K H' l vs → IsAll X.K Hd' vs ds → Q (.ref l) H') → wE X e σ H Q
/-- a tuple of two new lists -/
def DLL (e : Expr) (ds es : List D) : Prop := ∀ σ Hd H (Q : VK), Rl X.K Γ σ Hd H → (∀ (v : V) (H' : Hp), OutIs X.K Hd H (.newLL ds es) v H' → Q v H') → wE X e σ H Q
end
section
variable {X : Cx} {Γ : List Cell} {A : AD} {rest : List Stmt} {a b e tg : Expr} {ds es xs ys : List D} {d x y : D} {i j : Nat} {p pos : Pos}
theorem DL.dq (h : DL X Γ e ds) : DQ X Γ e ds := fun σ Hd H Q r q => h σ Hd H Q r fun l vs Hd' H' s h1 h2 => q l vs Hd' H' s (SqL.of h1) h2
theorem DE.dq (h : DE X Γ e (.list ds)) : DQ X Γ e ds := fun σ Hd H Q r q => h σ Hd H Q r fun v Hd' H' s i1 => by
  cases i1 with | lst t al => exact q _ _ Hd' H' s (Evl.ex_l s.s t) al
theorem DN.dq (h : DN X Γ e ds) : DQ X Γ e ds := h.dl.dq
theorem dn_catQ (ha : DQ X Γ a xs) (hb : DQ X Γ b ys) (hl : xs.length + ys.length ≤ 1000) : DN X Γ (.BinOp a .Add b pos) (xs ++ ys) :=
  fun σ Hd H Q r k => wE_of (pe_op op_catS pe_w pe_w) (ha σ Hd H _ r fun l vs Hd1 H1 s1 h1 i1 => hb σ Hd1 H1 _ (r.stp s1) fun m ws Hd2 H2 s2 h2 i2 => by
    refine ⟨l, m, vs, ws, rfl, rfl, Evl.ex_l s2.h h1, h2, ?_, fun q hq => k q _ Hd2 _ ((s1.trans s2).trans (Stp.new s2.s hq)) (ex_none (s1.trans s2).h hq) (ex_none s2.s hq) upd_same ((i1.mono s2.d).app i2)⟩
    rw [i1.len, i2.len]
    exact Nat.le_trans hl (by decide))
theorem dll_call {es : List Expr} {k : Nat} {x : Str} {S : List D → Res → Prop} {ds rs ss : List D} (h : Has X.prog X.w X.K X.mg X.base x k S) (hr : Room k X.A) (hg : Gl X x) (ha : DA X Γ (e :: es) ds) (hs : S ds (.ok (.newLL rs ss))) (hdb : (x == ("__debug__" : Str)) = false := by decide) (he : starEach (e :: es) X.env = (false, eval e X.env) :: starEach es X.env := by rfl)
    (hpl : (backTo pos (starEach es X.env)).any (·.1) = false := by rfl) : DLL X Γ (.Call (.Name x p) (e :: es) [] pos) rs ss := fun σ Hd H Q r q => call_core h hr hg ha hs hdb he hpl r fun v Hd1 H1 H2 s o => by
  obtain ⟨Hd2, t, l, m, vs, ws, e1, s2, ⟨t0, t1, t2⟩, ⟨l0, l1, l2, l3⟩, ⟨m0, m1, m2, m3⟩, ne⟩ := o
  exact q v H2 ⟨Hd2, t, l, m, vs, ws, e1, s.trans s2, ⟨ex_none s.h t0, t1, t2⟩, ⟨ex_none s.h l0, l1, l2, l3⟩, ⟨ex_none s.h m0, m1, m2, m3⟩, ne⟩
theorem is_ptrs {K : PySem.W.Frag} {H : Hp} {ws : List V} {a b : Addr} (h : IsAll K H ws [dPtr a, dPtr b]) : ws = [.ref a, .ref b] := by
  obtain ⟨v, w, rfl, h1, h2⟩ := all2 h
  rw [is_ptr h1, is_ptr h2]
/-- a, b = f(..), both lists one's own -/
theorem ds_asgLL (he : DLL X Γ e ds es) (hij : i ≠ j) (hg : ∀ l m : Addr, DG X tg (.tuple [dPtr l, dPtr m]) [(i, dPtr l), (j, dPtr m)]) (hs : swapsWithSole [tg] e pos.line X.env = pure false := by rfl) (hw : swappedStores [tg] e X.env = pure none := by rfl)
    (h1 : (assignEach [tg] X.env).map (·.2) = [assign tg X.env] := by rfl) (h : DS X ((Γ.set i (.ml ds)).set j (.ml es)) rest A) : DS X Γ (.Assign [tg] e pos :: rest) A := fun Hs H0 Hb tk σ Hd H r =>
  wSs_cons (wS_of (ps_asg pe_w pg_w hs hw h1) (he σ Hd H _ r.l fun v H1 o => by
    obtain ⟨Hd2, t, l, m, vs, ws, rfl, s, ⟨t0, t1, t2⟩, ⟨l0, l1, l2, l3⟩, ⟨m0, m1, m2, m3⟩, ne⟩ := o
    have tl : l ≠ t := fun z => by rw [z, t2] at l2; cases l2
    have tm : m ≠ t := fun z => by rw [z, t2] at m2; cases m2
    have s' := s.toD t0 t2 t1
    have r1 := r.stp s'
    refine hg l m σ (upd Hd2 t (.tup [.ref l, .ref m])) H1 (.ref t) _ (.tup (.inl (.inl upd_same)) (.cons (.ptr l) (.cons (.ptr m) .nil))) s'.s fun us hu => ?_
    rw [is_ptrs hu]
    have hex : Ex Hd2 (upd Hd2 t (.tup [.ref l, .ref m])) := Ex.new t1
    have n0 := notown_new r l0
    have n1 := notown_new r m0
    have ok1 : CellOk X.K (upd Hd2 t (.tup [.ref l, .ref m])) H1 (.ml ds) (some (.ref l)) := ⟨l, vs, rfl, by rw [upd_ne tl]; exact l1, l2, l3.mono hex⟩
    have ok2 : CellOk X.K (upd Hd2 t (.tup [.ref l, .ref m])) H1 (.ml es) (some (.ref m)) := ⟨m, ws, rfl, by rw [upd_ne tm]; exact m1, m2, m3.mono hex⟩
    have r2 := r1.setOwn (i := i) ok1 (ex_none r.e.h l0) fun k cj ov _ h1 h2 => n0 k cj ov h1 h2
    have r3 := r2.setOwn (i := j) ok2 (ex_none r.e.h m0) fun k cj ov hk h1 h2 => by
      rcases set_get h1 with ⟨e1, e2⟩ | ⟨e1, e2⟩
      · rcases set_get h2 with ⟨f1, f2⟩ | ⟨f1, f2⟩
        · subst e2; subst f2
          intro z
          have z' : (some (V.ref l) : Option V) = some (.ref m) := z
          cases z'
          exact ne rfl
        · exact absurd e1 f1
      · rcases set_get h2 with ⟨f1, f2⟩ | ⟨f1, f2⟩
        · exact absurd f1 e1
        · exact n1 k cj ov e2 f2
    exact h Hs H0 Hb tk _ _ H1 r3))
/-- return (x, y), both lists one's own -/
theorem ds_retLL {px py pt : Pos} {kt : Nat} {x y : Str} (hij : i ≠ j) (hi : Γ[i]? = some (.ml ds)) (hj : Γ[j]? = some (.ml es)) (hx : PE X (.Name x px) (tVar i)) (hy : PE X (.Name y py) (tVar j)) (h : A.rt (.newLL ds es)) (h1 : starEach [.Name x px, .Name y py] X.env = (false, eval (.Name x px) X.env) :: starEach [.Name y py] X.env := by rfl) (h2 : starEach [.Name y py] X.env = (false, eval (.Name y py) X.env) :: starEach [] X.env := by rfl) :
    DS X Γ (.Return (some (.Tuple [.Name x px, .Name y py] kt pt)) pos :: rest) A := fun Hs H0 Hb tk σ Hd H r => by
  have hli : i < σ.length := by rw [r.l.len]; exact (List.getElem?_eq_some_iff.mp hi).1
  have hlj : j < σ.length := by rw [r.l.len]; exact (List.getElem?_eq_some_iff.mp hj).1
  have ei := List.getElem?_eq_getElem hli
  have ej := List.getElem?_eq_getElem hlj
  obtain ⟨l, vs, e1, hd1, q1, i1⟩ := r.l.cell i _ _ hi ei
  obtain ⟨m, ws, e2, hd2, q2, i2⟩ := r.l.cell j _ _ hj ej
  have ne : l ≠ m := fun z => hij (r.l.apart i j _ _ _ _ l hi ei hj ej e1 (by rw [z]; exact e2))
  refine wSs_cons (wS_of (ps_ret (pe_tup (pa_cons hx (pa_cons hy pa_nil h2) h1))) ?_)
  refine ⟨.ref l, by rw [ei, e1], .ref m, by rw [ej, e2], by show 2 ≤ sizeLine; decide, fun t ht => ?_⟩
  have tl : l ≠ t := fun z => by rw [z, ht] at q1; cases q1
  have tm : m ≠ t := fun z => by rw [z, ht] at q2; cases q2
  exact ⟨_, h, Hd, t, l, m, vs, ws, rfl, r.e.trans (Stp.new r.l.sub ht), ⟨ex_none r.e.h ht, ex_none r.l.sub ht, upd_same⟩, ⟨r.o i _ _ l hi ei e1, hd1, by rw [upd_ne tl]; exact q1, i1⟩, ⟨r.o j _ _ m hj ej e2, hd2, by rw [upd_ne tm]; exact q2, i2⟩, ne⟩
end
end Hf
namespace Hf
open PySem PySem.Spec PyProof.Rows L2 RT PySem.W HsX
open Evl (Ex)
theorem units65 {k : Nat} {A : Around} (r : Room k A) : A.units + 65 < cLine := by have := r.un; omega
def inDD (d : D) (ds : List D) : Bool := ds.any fun z => PyData.eqv z d
section
variable {X : Cx} {Γ : List Cell} {a b : Expr} {ds : List D} {x z : D} {j : Nat} {p pos apos : Pos}
theorem dc_inV (hu : X.A.units + 65 < cLine) (ha : DV X Γ a x) (hb : DV X Γ b (.list ds)) (h1 : SeqAt.shaped x = true) (h2 : SeqAt.shaped (.list ds) = true) : DC X Γ .In a b (inDD x ds) :=
  fun σ Hd H Q r k => wC_of (op_inD hu) (ha σ Hd H _ r fun v Hd1 H1 s1 i1 => hb σ Hd1 H1 _ (r.stp s1) fun u Hd2 H2 s2 i2 =>
    ⟨x, ds, (i1.mono s2.h).dp (SeqAt.canLay_of_shaped h1), i2.dp (SeqAt.canLay_of_shaped h2), h1, h2, k Hd2 H2 (s1.trans s2)⟩)
theorem dc_notinV (hu : X.A.units + 65 < cLine) (ha : DV X Γ a x) (hb : DV X Γ b (.list ds)) (h1 : SeqAt.shaped x = true) (h2 : SeqAt.shaped (.list ds) = true) : DC X Γ .NotIn a b (!inDD x ds) :=
  fun σ Hd H Q r k => wC_of (op_notInD hu) (ha σ Hd H _ r fun v Hd1 H1 s1 i1 => hb σ Hd1 H1 _ (r.stp s1) fun u Hd2 H2 s2 i2 =>
    ⟨x, ds, (i1.mono s2.h).dp (SeqAt.canLay_of_shaped h1), i2.dp (SeqAt.canLay_of_shaped h2), h1, h2, k Hd2 H2 (s1.trans s2)⟩)
/-- l.index(x) -/
theorem de_lindex (hu : X.A.units + 65 < cLine) (ha : DV X Γ a (.list ds)) (hb : DV X Γ b x) (h1 : SeqAt.shaped (.list ds) = true) (h2 : SeqAt.shaped x = true) (hz : ds[j]? = some z) (e1 : PyData.eqv z x = true) (e2 : ∀ (m : Nat) (z' : D), m < j → ds[m]? = some z' → PyData.eqv z' x = false)
    (hp : PE X (.Call (.Attribute a "index" apos) [b] [] pos) (tBM X.K "list" (rIndexD X.K) (wE X a) (tCons (wE X b) tNil))) : DE X Γ (.Call (.Attribute a "index" apos) [b] [] pos) (.int (j : Nat)) := fun σ Hd H Q r k =>
  wE_of hp (ha σ Hd H _ r fun v Hd1 H1 s1 i1 => by
    cases i1 with | lst t al =>
      refine ⟨.inl ⟨rfl, _, t⟩, hb σ Hd1 H1 _ (r.stp s1) fun u Hd2 H2 s2 i2 => ?_⟩
      exact ⟨_, u, x, ds, j, z, rfl, rfl, ((Is.lst t al).mono s2.h).dp (SeqAt.canLay_of_shaped h1), i2.dp (SeqAt.canLay_of_shaped h2), h1, h2, hz, e1, e2, k _ Hd2 H2 (s1.trans s2) (.int _)⟩)
end
end Hf

namespace HtX
open PySem PySem.Spec PyProof.Rows L2
open AutoSeq1 (wpAny_loadPart')
theorem tuple_mulW0 (l : Addr) (items : Array Value) (n : Nat) (dd : Option Addr) (sl : Array (Option Value)) (u : Tok) (hi : items.isEmpty = false) :
    Meets (Builtin.«tuple.__mul__» ⟨[.ref l, .int 0 u], []⟩) (fun _ R s => s.heap.get? l = some { cls := .type "tuple", dict := dd, data := .seq items n, slots := sl } ∧
      R (.ok (.ret (Value.ref s.heap.objs.size))) { s with heap := s.heap.push { cls := Value.type "tuple", data := Data.seq #[] }, toks := s.toks }) :=
  .of_wp fun prog w A R s h => by
    obtain ⟨hp, g, d, tk, os⟩ := s
    obtain ⟨hl, h⟩ := h
    have f1 := AutoSeq1.idx_int
    have c0 : (decide ((0 : Int) < -(2 ^ 63)) || decide ((0 : Int) ≥ 2 ^ 63)) = false := by decide
    have c1 : (items.isEmpty || (0 : Int) == 1) = false := by rw [hi]; rfl
    have c2 : (decide ((0 : Int) ≤ 0) || items.isEmpty) = true := by rfl
    wp_walk using wpAny_loadPart' hl
    repeat (first
      | (refine wpAny_ite_false (decide_eq_false (by rw [c0]; exact Bool.false_ne_true)) ?_; wp_walk using wpAny_loadPart' hl)
      | (refine wpAny_ite_false (decide_eq_false (by rw [c1]; exact Bool.false_ne_true)) ?_; wp_walk using wpAny_loadPart' hl)
      | (refine wpAny_ite_true (decide_eq_true c2) ?_; wp_walk using wpAny_loadPart' hl))
    exact ⟨_, rfl, h⟩
theorem tuple_mulW1 (l : Addr) (items : Array Value) (n : Nat) (dd : Option Addr) (sl : Array (Option Value)) (u : Tok) (hi : items.isEmpty = false) :
    Meets (Builtin.«tuple.__mul__» ⟨[.ref l, .int 1 u], []⟩) (fun _ R s => s.heap.get? l = some { cls := .type "tuple", dict := dd, data := .seq items n, slots := sl } ∧
      R (.ok (.ret (Value.ref l))) s) :=
  .of_wp fun prog w A R s h => by
    obtain ⟨hp, g, d, tk, os⟩ := s
    obtain ⟨hl, h⟩ := h
    have f1 := AutoSeq1.idx_int
    have c0 : (decide ((1 : Int) < -(2 ^ 63)) || decide ((1 : Int) ≥ 2 ^ 63)) = false := by decide
    have c1 : (items.isEmpty || (1 : Int) == 1) = true := by rw [hi]; rfl
    wp_walk using wpAny_loadPart' hl
    repeat (first
      | (refine wpAny_ite_false (decide_eq_false (by rw [c0]; exact Bool.false_ne_true)) ?_; wp_walk using wpAny_loadPart' hl)
      | (refine wpAny_ite_true (decide_eq_true c1) ?_; wp_walk using wpAny_loadPart' hl))
    exact ⟨_, rfl, h⟩
def rRepA (K : PySem.W.Frag) : R2 := fun x y H Q => ∃ l k xs, x = .ref l ∧ y = .int k ∧ SqT K H l xs ∧ xs ≠ [] ∧ 0 ≤ k ∧ k ≤ 1000 ∧ xs.length ≤ 1000 ∧ (k = 1 → Q (.ref l) H) ∧ (k ≠ 1 → ∀ p, H p = none → Q (.ref p) (upd H p (.tup (List.replicate k.toNat xs).flatten)))
section
variable {X : Cx}
theorem op_repA : OpR X (binaryOp .Mult) (rRepA X.K) := by
  intro pins s σ H x y v u Q I rx ry h
  obtain ⟨l, k, xs, rfl, rfl, hT, hne, h1, h2, hz, q1, q⟩ := h
  by_cases h3 : 2 ≤ k
  · exact op_repT pins s σ H _ _ v u Q I rx ry ⟨l, k, xs, rfl, rfl, hT, hne, h3, h2, hz, q (by omega)⟩
  cases rx
  obtain ⟨t, rfl⟩ := ry
  obtain ⟨its, r, ⟨⟨cls, dd, data, sl⟩, ho, hc, n, hd⟩, hs⟩ := I.tuple hT
  simp only at hc hd
  subst hc hd
  have hle : its.length = xs.length := r.length.symm
  have hi : its.toArray.isEmpty = false := by
    cases its with
    | nil => exact absurd (List.eq_nil_of_length_eq_zero hle.symm) hne
    | cons a b => rfl
  obtain rfl | rfl : k = 0 ∨ k = 1 := by omega
  · refine wpAny_binaryOp_repeat_ref (T := "tuple") (U := "int") (by decide) ⟨_, ho, rfl⟩ (fun s' => typeIs_int s' 0 t) noFill_tuple_mul F.fills_int_mul F.slot_int_rmul repeat_tuple F.slot_int_index.lookup
      (call_meets F.slot_int_rmul (typeIs_int s 0 t) F.entry_int_rmul (F.args_int_rmul_2 _ _) (int_rmul_tuple 0 t l its.toArray n dd sl)
        ⟨ho, rfl, ⟨_, ho, rfl⟩, call_meets F.slot_tuple_mul ⟨_, ho, rfl⟩ F.entry_tuple_mul (F.args_tuple_mul_2 _ _) (tuple_mulW0 l its.toArray n dd sl t hi) ⟨ho, ?_⟩⟩)
    refine ⟨.ref s.heap.objs.size, _, I.laid (t' := s.toks) (o := .tup (List.replicate (0 : Int).toNat xs).flatten) (fun b ob q => Heap.get?_push_of_some _ q) (Nat.le_refl _) ?_, rfl, q (by decide) _ (I.hok.fresh (Nat.le_refl _))⟩
    exact ⟨by show 0 ≤ _; exact Nat.zero_le _, [], .nil, IsTup.new _ _⟩
  · refine wpAny_binaryOp_repeat_ref (T := "tuple") (U := "int") (by decide) ⟨_, ho, rfl⟩ (fun s' => typeIs_int s' 1 t) noFill_tuple_mul F.fills_int_mul F.slot_int_rmul repeat_tuple F.slot_int_index.lookup
      (call_meets F.slot_int_rmul (typeIs_int s 1 t) F.entry_int_rmul (F.args_int_rmul_2 _ _) (int_rmul_tuple 1 t l its.toArray n dd sl)
        ⟨ho, rfl, ⟨_, ho, rfl⟩, call_meets F.slot_tuple_mul ⟨_, ho, rfl⟩ F.entry_tuple_mul (F.args_tuple_mul_2 _ _) (tuple_mulW1 l its.toArray n dd sl t hi) ⟨ho, ?_⟩⟩)
    exact ⟨.ref l, H, I, rfl, q1 rfl⟩
end
end HtX
namespace Hf
open PySem PySem.Spec PyProof.Rows L2 HtX
open Evl (Ex)
theorem de_repT {X : Cx} {Γ : List Cell} {a b : Expr} {ds : List D} {i : Int} {pos : Pos} (ha : DE X Γ a (.tuple ds)) (hb : DE X Γ b (.int i)) (h0 : 0 ≤ i) (h1 : i ≤ 1000) (hn : ds ≠ []) (hl : ds.length ≤ 1000) : DE X Γ (.BinOp a .Mult b pos) (.tuple (List.replicate i.toNat ds).flatten) :=
  fun σ Hd H Q r k => wE_of (pe_op op_repA pe_w pe_w) (ha σ Hd H _ r fun v Hd1 H1 s1 i1 => hb σ Hd1 H1 _ (r.stp s1) fun u Hd2 H2 s2 i2 => by
    cases i2
    cases i1 with | tup t al =>
      refine ⟨_, i, _, rfl, rfl, Evl.ex_t (s2.s) (Evl.ex_t s2.d t), ?_, h0, h1, by rw [al.len]; exact hl, fun e => ?_, fun e p hp => ?_⟩
      · intro z
        have := al.len
        rw [z] at this
        exact hn (List.eq_nil_of_length_eq_zero this.symm)
      · subst e
        refine k _ Hd2 H2 (s1.trans s2) ?_
        rw [show (List.replicate (1 : Int).toNat ds).flatten = ds by simp]
        exact (Is.tup t al).mono s2.d
      · exact k _ (upd Hd2 p (.tup _)) _ ((s1.trans s2).trans (Stp.newD s2.s hp)) (.tup (.inl (.inl upd_same)) (((al.mono s2.d).flat _).mono (Ex.new (ex_none s2.s hp)))))
end Hf
namespace Hf
open PySem PySem.Spec PyProof.Rows L2 HtX
open Evl (Ex)
/-- n - 1, .., 1, 0 -/
def rvR (n : Nat) : List D := (List.range n).map fun i : Nat => .int ((n - 1 - i : Nat) : Int)
theorem rvR_len (n : Nat) : (rvR n).length = n := by simp [rvR]
theorem rvR_some {n i : Nat} {d : D} (h : (rvR n)[i]? = some d) : i < n ∧ d = .int ((n - 1 - i : Nat) : Int) := by
  unfold rvR at h
  rw [List.getElem?_map] at h
  obtain ⟨j, hj, rfl⟩ := Option.map_eq_some_iff.mp h
  obtain ⟨h1, h2⟩ := List.getElem?_eq_some_iff.mp hj
  simp at h1 h2
  subst h2
  exact ⟨h1, rfl⟩
theorem di_revR {X : Cx} {Γ : List Cell} {tg a : Expr} {n : Int} {p p2 pos pos2 : Pos} (hg : Gl X "reversed") (hm : NoMg X "reversed") (hg2 : Gl X "range") (hm2 : NoMg X "range") (h : DE X Γ a (.int n)) (hb : 0 ≤ n ∧ n ≤ 1000000)
    (hs : starEach [.Call (.Name "range" p2) [a] [] pos2] X.env = (false, eval (.Call (.Name "range" p2) [a] [] pos2) X.env) :: starEach [] X.env := by rfl) (hs2 : starEach [a] X.env = (false, eval a X.env) :: starEach [] X.env := by rfl) :
    DI X Γ tg (.Call (.Name "reversed" p) [.Call (.Name "range" p2) [a] [] pos2] [] pos) (rvR n.toNat) :=
  ⟨_, pi_revR hg hm (prg_1 hg2 hm2 pe_w hs2) hs, fun σ Hd H Q r k => h σ Hd H _ r fun v Hd1 H1 s1 i1 => by
    cases i1
    refine ⟨n, rfl, by omega, by omega, by omega, by omega, ?_⟩
    rw [show (n - 0).toNat = n.toNat by omega]
    refine k _ Hd1 H1 s1 (itok fun i Hd2 H2 e1 e2 => ⟨fun d hd => ?_, fun hn => ?_⟩)
    · obtain ⟨h1, rfl⟩ := rvR_some hd
      refine ⟨h1, fun y H3 hy => ?_⟩
      obtain ⟨rfl, rfl⟩ := hy
      refine ⟨Hd2, Stp.refl e2, ?_⟩
      rw [show (0 : Int) + ((n.toNat : Nat) : Int) - 1 + ((i : Nat) : Int) * -1 = ((n.toNat - 1 - i : Nat) : Int) by omega]
      exact .int _
    · have := List.getElem?_eq_none_iff.mp hn
      rw [rvR_len] at this
      exact this⟩
end Hf

namespace Hf
open PySem PySem.Spec PyProof.Rows L2
open Evl (Ex)
structure HeC (K : PySem.W.Frag) (mg : Str → Option Value) (x : Str) (C : Addr) : Prop where
  g : mg x = some (.ref C)
  sp : PySem.W.specialIn K (.ref C) "__getattribute__" = some (some (.builtin "type.__getattribute__"))
  rd : PySem.W.readsIn K C (.type "type") = true
  vI : PySem.W.findCls K (.ref C) (.type "type") "__init__" = some (.val (.builtin "ValueError.__init__"))
section
variable {X : Cx} {e : Expr} {es : List Expr} {ta : TA} {p1 p2 pos : Pos} {x : Str} {C : Addr}
theorem pe_heinit {pl : Sem Bool} (hg : Gl X x) (T : HeC X.K X.mg x C) (ha : PA X (e :: es) ta) (hdb : (x == ("__debug__" : Str)) = false := by decide)
    (hc : eval (.Call (.Attribute (.Name x p1) "__init__" p2) (e :: es) [] pos) X.env = (do
      let ov ← eval (.Name x p1) X.env
      standAt p2.atName
      let (f, first) ← holding [ov] (getMethod ov "__init__" pl)
      callWith pos f first (backTo pos (starEach (e :: es) X.env)) (backToKw pos (keywordEach [] X.env))) := by rfl)
    (he : starEach (e :: es) X.env = (false, eval e X.env) :: starEach es X.env := by rfl) (hpl : (backTo pos (starEach es X.env)).any (·.1) = false := by rfl) :
    PE X (.Call (.Attribute (.Name x p1) "__init__" p2) (e :: es) [] pos) (tVeI X.K ta) := by
  refine ⟨fun pins s σ H Q I h => ?_⟩
  refine PySem.W.methodCall_KW (ld_glob I hg T.g ?_ hdb) hc
  refine PySem.W.method_cls I.kIn T.sp (PySem.W.cls_value I.kIn T.rd T.vI (by decide +kernel) ?_)
  show wpAny _ _ (callWith pos (Value.builtin "ValueError.__init__") [] (backTo pos (starEach (e :: es) X.env)) []) _ _ _
  refine PyProof.Rows.callWith_method1 (thn (ha.run pos pins _ σ H _ (I.tok _) h) fun us s1 ⟨vs, H1, I1, r1, a, C, ws, ev, hl, T, ea, q⟩ => ?_) he hpl
  subst ev
  cases r1 with
  | @cons _ u0 _ ur ra rw' =>
    obtain rfl : u0 = Value.ref a := ra
    have hlen : ur.length ≤ sizeLine := by
      rw [← Paired.length rw', sizeLine_eq]
      omega
    exact oinit_ok T I1 ea hlen fun s' J => ⟨.non, H1, J, rfl, q⟩
end
def spI (C : Addr) (fld : Str) : Sp := fun vs H Q E => ∃ a v, vs = [.ref a, v] ∧ H a = some (exo a C none) ∧ ∀ d, H d = none → d ≠ a → Q .non (upd (upd H d (exd d [(fld, v)])) a (exo a C (some d)))
structure FldC (K : PySem.W.Frag) (C : Addr) (fld : Str) : Prop where
  T : OexC K C
  no : PySem.W.findIn K (.ref C) fld = some none
section
variable {P : Program} {w : World} {K : PySem.W.Frag} {mg : Str → Option Value} {base : Heap}
theorem init_ok {qual fld y m : Str} {st : Stmt} {f : Addr} {fd : FuncData} {C HE : Addr} {j : Nat} {p1 p2 p3 p4 p5 p6 p7 p8 p9 p10 : Pos} (F : Fun K "__init__" qual st f fd) (sc : FnScope ["self", y] ["self", y] (defScope st)) (T : FldC K C fld) (hT : HeC K mg "HeightError" HE)
    (hb : defBody st = [.Expr (.Call (.Attribute (.Name "HeightError" p1) "__init__" p2) [.Name "self" p3, .Constant (.str m) j p4] [] p5) p6, .Assign [.Attribute (.Name "self" p7) fld p8] (.Name y p9) p10] := by rfl)
    (hgl : ∀ (zs : Nat) (zf : Addr) (zc : Value), (envOfC qual (defScope st) zs zf zc).kindOf "HeightError" = some .globalImplicit := by intros; rfl)
    (hc : ∀ (zs : Nat) (zf : Addr) (zc : Value), ∃ pl : Sem Bool, eval (.Call (.Attribute (.Name "HeightError" p1) "__init__" p2) [.Name "self" p3, .Constant (.str m) j p4] [] p5) (envOfC qual (defScope st) zs zf zc) = (do
      let ov ← eval (.Name "HeightError" p1) (envOfC qual (defScope st) zs zf zc)
      standAt p2.atName
      let (f, first) ← holding [ov] (getMethod ov "__init__" pl)
      callWith p5 f first (backTo p5 (starEach [.Name "self" p3, .Constant (.str m) j p4] (envOfC qual (defScope st) zs zf zc))) (backToKw p5 (keywordEach [] (envOfC qual (defScope st) zs zf zc)))) := by exact fun _ _ _ => ⟨_, rfl⟩)
    (h0 : (defScope st).names.lookup ("self" : Str) = some NameKind.local := by rfl) (h1 : (defScope st).names.lookup y = some NameKind.local := by rfl) (hyb : (y == ("__debug__" : Str)) = false := by decide) (hyc : (y == ("__classdict__" : Str)) = false := by decide) :
    FnOk P w K mg base (L2N.CX P w) 1 f fd ["self", y] (spI C fld) := by
  refine okN F sc (fun vs H Q E ⟨a, v, e, _⟩ => by rw [e]; rfl) (fun cdv Ar outer s H vs Q E hr ⟨a, v, e, ea, q⟩ => ?_)
  subst e
  rw [hb]
  let X := cxOf (L2N.CX P w) P w K mg base ["self", y] qual (defScope st) f cdv Ar outer s H E
  have vs0 : ∀ pos, PE X (.Name "self" pos) (tVar 0) := fun pos => pe_var (i := 0) rfl (Or.inl h0) (by decide) (by decide)
  have vs1 : ∀ pos, PE X (.Name y pos) (tVar 1) := fun pos => pe_var (i := 1) rfl (Or.inl h1) hyb hyc
  obtain ⟨pl, hc⟩ := hc s.heap.objs.size f cdv
  have a1 : PS X (.Expr (.Call (.Attribute (.Name "HeightError" p1) "__init__" p2) [.Name "self" p3, .Constant (.str m) j p4] [] p5) p6) _ := ps_expr (pe_heinit (hgl _ _ _) hT (pa_cons (vs0 p3) (pa_cons pe_str pa_nil)) (hc := hc)) rfl
  have a2 : PS X (.Assign [.Attribute (.Name "self" p7) fld p8] (.Name y p9) p10) _ := ps_ost (vs0 p7) (vs1 p9) rfl
  refine ⟨_, pss_cons a1 (pss_cons a2 pss_nil), ?_⟩
  refine ⟨.ref a, rfl, a, C, [.str m], rfl, by show 1 ≤ 1000; decide, T.T, ea, ?_⟩
  refine ⟨v, rfl, .ref a, rfl, a, C, rfl, T.T, T.no, .inl ⟨ea, fun dx n ne => q dx n ne⟩⟩
end
/-- what is known of the class x at C -/
structure EclF (P : Program) (w : World) (K : PySem.W.Frag) (mg : Str → Option Value) (base : Heap) (x : Str) (C : Addr) (fld : Str) : Prop where
  F : FldC K C fld
  g : mg x = some (.ref C)
  init : ∃ fI fd y, PySem.W.findIn K (.ref C) "__init__" = some (some (.ref fI)) ∧ PySem.W.typeIn K (.ref fI) = some (.type "function") ∧ FnOk P w K mg base (L2N.CX P w) 1 fI fd ["self", y] (spI C fld) ∧ Binds K fd ["self", y] []
section
variable {X : Cx} {Γ : List Cell} {A : AD} {rest : List Stmt} {pos pos2 p p2 : Pos} {x fld : Str} {C : Addr} {e : Expr} {es : List Expr} {ta : TA} {d : D} {v : D}
/-- the wish of a made exception, as a value that stays -/
def tVkO (C : Addr) (sp : Sp) (ta : TA) : TE := fun σ H Q => ta σ H fun vs H1 => vs.length ≤ 1000 ∧ ∀ a, H1 a = none → sp (.ref a :: vs) (upd H1 a (exo a C none)) (fun w H2 => w = .non ∧ Q (.ref a) H2) (fun _ _ _ => False)
theorem made_core {k : Nat} {fd : FuncData} {ps : List Str} {sp : Sp} {fI : Addr} (T : OexC X.K C) (iC : PySem.W.findIn X.K (.ref C) "__init__" = some (some (.ref fI))) (tI : PySem.W.typeIn X.K (.ref fI) = some (.type "function"))
    (F1 : FnOk X.prog X.w X.K X.mg X.base (L2N.CX X.prog X.w) k fI fd ps sp) (hr : Room (k + 1) X.A) (hb : Binds X.K fd ps []) (hg : Gl X x) (hm : X.mg x = some (.ref C)) (ha : PA X (e :: es) ta)
    (hdb : (x == ("__debug__" : Str)) = false) (he : starEach (e :: es) X.env = (false, eval e X.env) :: starEach es X.env) (hpl : (backTo pos (starEach es X.env)).any (·.1) = false)
    {pins : List (Addr × Obj)} {s : Shared} {σ : St} {H : Hp} {Q : Value → Shared → Prop} {W : Hp → Addr → VK} (I : Inv X pins σ H s)
    (h : ta σ H fun vs H1 => vs.length ≤ 1000 ∧ ∀ a, H1 a = none → sp (.ref a :: vs) (upd H1 a (exo a C none)) (W H1 a) (fun _ _ _ => False))
    (hq : ∀ (H1 : Hp) (hp : Heap) (g : Array GenState) (dr : Drawn) (tk : Nat) (os : OsState) (us : List Value) (u : Value) (s' : Shared), Inv X pins σ H1 ⟨hp, g, dr, tk, os⟩ →
      (∀ b o, hp.get? b = some o → ((hp.push (PySem.W.kdv_tup us)).push (PySem.HandSPX.excO C hp.objs.size)).get? b = some o) →
      Inv X pins σ (upd H1 (hp.objs.size + 1) (exo (hp.objs.size + 1) C none)) ⟨(hp.push (PySem.W.kdv_tup us)).push (PySem.HandSPX.excO C hp.objs.size), g, dr, tk, os⟩ →
      CE X.stack X.prog X.w (upd H1 (hp.objs.size + 1) (exo (hp.objs.size + 1) C none)) ⟨(hp.push (PySem.W.kdv_tup us)).push (PySem.HandSPX.excO C hp.objs.size), g, dr, tk, os⟩ (W H1 (hp.objs.size + 1)) u s' →
      u = .none ∧ Q (.ref (hp.objs.size + 1)) s') :
    wpAny (model X.prog X.w) X.A (eval (.Call (.Name x p) (e :: es) [] pos) X.env) Q X.xe s := by
  obtain ⟨nm, q, N, bs, bm, sn, sub, ab, col, dd, k0, k1, k2, k3, k5, hC, hbm⟩ := T.cls
  refine wpAny_Call_Name_kw (ld_glob I hg hm ?_ hdb)
  refine PySem.W.callWith_K (h₀ := X.base) I.ok.mod.kin T.kC (thn (ha.run pos pins s σ H _ I h) fun us s1 ⟨vs, H1, I1, r1, hz, q1⟩ => ⟨I1.kIn, ?_⟩) he hpl
  show wpAny _ _ (call (.ref C) us) _ _ _
  obtain ⟨hp, g, dr, tk, os⟩ := s1
  have hsz : hp.objs.size ≤ hp.objs.size + 1 := Nat.le_succ _
  have hn : H1 (hp.objs.size + 1) = none := I1.hok.fresh hsz
  have hq1 := q1 (hp.objs.size + 1) hn
  have kk : ∀ b o, hp.get? b = some o → ((hp.push (PySem.W.kdv_tup us)).push (PySem.HandSPX.excO C hp.objs.size)).get? b = some o := fun b o e => Heap.get?_push_of_some _ (Heap.get?_push_of_some _ e)
  have hget : ((hp.push (PySem.W.kdv_tup us)).push (PySem.HandSPX.excO C hp.objs.size)).get? (hp.objs.size + 1) = some (PySem.HandSPX.excO C hp.objs.size) := by heap_get
  have I2 : Inv X pins σ (upd H1 (hp.objs.size + 1) (exo (hp.objs.size + 1) C none)) ⟨(hp.push (PySem.W.kdv_tup us)).push (PySem.HandSPX.excO C hp.objs.size), g, dr, tk, os⟩ :=
    I1.laid (t' := tk) (a := hp.objs.size + 1) (o := exo (hp.objs.size + 1) C none) (h' := (hp.push (PySem.W.kdv_tup us)).push (PySem.HandSPX.excO C hp.objs.size)) kk hsz (exo_ok hget)
  have r2 : Vals (V.ref (hp.objs.size + 1) :: vs) (Value.ref (hp.objs.size + 1) :: us) := .cons rfl r1
  have hl : (Value.ref (hp.objs.size + 1) :: us ++ []).length = ps.length := by
    have e := r2.length
    rw [F1.len _ _ _ _ hq1] at e
    rw [List.append_nil]
    exact e.symm
  have hus : us.length ≤ sizeLine := by
    rw [← Paired.length r1, sizeLine_eq]
    omega
  have b2 := hb _ (Value.ref (hp.objs.size + 1) :: us) I2.kIn hl
  rw [List.append_nil] at b2
  refine wpAny_call (PySem.HandSPX.call_own F.excBase_ValueError (fun Y => PySem.HandSPX.refsVE_contains Y bm hbm) (I1.kIn _ _ hC) (PySem.W.looks_findIn I1.kIn iC) (fun self => PySem.W.bind_fn I1.kIn self tI) hus
    (codeAny_mono (F1.run _ X.stack _ _ ⟨Value.ref (hp.objs.size + 1) :: us, []⟩ (Value.ref (hp.objs.size + 1) :: us) _ _ (fun _ _ _ => False) (hr.make C us []) (I2.env0.make C us []) b2 r2 hq1) fun r s' hq' => ?_))
  cases r with
  | error er =>
    obtain ⟨_, _, _, _, _, _, _, _, _, _, _, _, z⟩ := hq'
    exact z.elim
  | ok fl =>
    cases fl with
    | ret u => exact hq H1 hp g dr tk os us u s' I1 kk I2 hq'
    | next => exact False.elim hq'
    | brk => exact False.elim hq'
    | cont => exact False.elim hq'
theorem pe_oex (E : EclF X.prog X.w X.K X.mg X.base x C fld) (hr : Room 2 X.A) (hg : Gl X x) (ha : PA X (e :: es) ta) (hdb : (x == ("__debug__" : Str)) = false := by decide)
    (he : starEach (e :: es) X.env = (false, eval e X.env) :: starEach es X.env := by rfl) (hpl : (backTo pos (starEach es X.env)).any (·.1) = false := by rfl) :
    PE X (.Call (.Name x p) (e :: es) [] pos) (tVkO C (spI C fld) ta) := by
  refine ⟨fun pins s σ H Q I h => ?_⟩
  obtain ⟨fI, fd, y, iC, tI, F1, hb⟩ := E.init
  refine made_core (W := fun _ a w H2 => w = .non ∧ Q (.ref a) H2) E.F.T iC tI F1 hr hb hg E.g ha hdb he hpl I h fun H1 hp g dr tk os us u s' I1 kk I2 hq' => ?_
  obtain ⟨v, H2, J, rv, ev, q⟩ := I2.after hq'
  subst ev
  exact ⟨rv, .ref (hp.objs.size + 1), H2, J, rfl, q⟩
/-- C(e, ..) made to be raised; its context is None -/
theorem pmk_oexN (E : EclF X.prog X.w X.K X.mg X.base x C fld) (hr : Room 2 X.A) (hg : Gl X x) (ha : PA X (e :: es) ta) (hdb : (x == ("__debug__" : Str)) = false := by decide)
    (he : starEach (e :: es) X.env = (false, eval e X.env) :: starEach es X.env := by rfl) (hpl : (backTo pos (starEach es X.env)).any (·.1) = false := by rfl) :
    L2N.PMk X (.Call (.Name x p) (e :: es) [] pos) (tMkO C (spI C fld) [] ta) := by
  intro pins s σ H Q I h
  obtain ⟨fI, fd, y, iC, tI, F1, hb⟩ := E.init
  refine made_core (W := fun H1 a w H2 => w = .non ∧ ∃ (d : Addr) (fs : List (Str × V)), H2 a = some (exo a C (some d)) ∧ H2 d = some (exd d fs) ∧ H1 d = none ∧ Q (.ref C) (some d) (upd (del H2 a) d (.xd fs))) E.F.T iC tI F1 hr hb hg E.g ha hdb he hpl I ?_ fun H1 hp g dr tk os us u s' I1 kk I2 hq' => ?_
  · simpa only [tMkO, List.append_nil] using h
  · obtain ⟨v, H2, os2, bare2, un2, hok2, rv, ev, d, fs, ea, ed, hd1, q2⟩ := hq'
    subst ev
    obtain ⟨h2, g2, d2, t2, os'⟩ := s'
    obtain ⟨t0, G, J, kG, ge, hoe, na⟩ := mk_end0 (d2 := d2) (t2 := t2) I1 (Nat.le_succ _) kk un2 hok2 os2 bare2 ea ed hd1
    exact ⟨rv, hp.objs.size + 1, _, _, ⟨G, g2, d2, t2, os'⟩, _, .ref C, some d, rfl, J, kG, ge, hoe, ⟨rfl, rfl, fun vs hv => by cases hv; rfl⟩, rfl, rfl, na, rfl, bare2, raises_own E.F.T.exC E.F.T.tyC, q2⟩
/-- raise C(e) -/
theorem ds_raiseF (hc : X.calm = true) (E : EclF X.prog X.w X.K X.mg X.base x C fld) (hr : Room 2 X.A) (hg : Gl X x) (ha : DA X Γ [e] [v]) (h : A.ex C [(fld, v)] Γ) (hdb : (x == ("__debug__" : Str)) = false := by decide)
    (he : starEach [e] X.env = (false, eval e X.env) :: starEach [] X.env := by rfl) : DS X Γ (.Raise (some (.Call (.Name x p) [e] [] pos)) none pos2 :: rest) A := fun Hs H0 Hb tk σ Hd H r =>
  wSs_cons (wS_of (L2N.ps_raise hc tk (pmk_oexN E hr hg pa_w hdb he rfl)) (ha σ Hd H _ r.l fun vs Hd1 H1 s1 i1 => by
    have r1 := r.stp s1
    cases i1 with
    | @cons u us _ _ iu iu' =>
      cases iu'
      refine ⟨by show 1 ≤ 1000; decide, fun a na => ⟨a, u, rfl, upd_same, fun d dn dne => ⟨rfl, d, [(fld, u)], upd_same, by rw [upd_ne dne, upd_same], by rw [← dn, upd_ne dne], ?_⟩⟩⟩
      have dn1 : H1 d = none := by rw [← dn, upd_ne dne]
      have eH : ∀ b o, H1 b = some o → upd (del (upd (upd (upd H1 a (exo a C none)) d (exd d [(fld, u)])) a (exo a C (some d))) a) d (.xd [(fld, u)]) b = some o := fun b o q => by
        have ba : b ≠ a := ne_of_none q na
        have bd : b ≠ d := ne_of_none q dn1
        rw [upd_ne bd, del_ne ba, upd_ne ba, upd_ne bd, upd_ne ba]
        exact q
      have st : Stp Hd1 H1 Hd1 _ := ⟨Ex.refl _, eH, r1.l.sub.trans eH, fun b o q n => by rw [n] at q; cases q⟩
      exact ⟨C, [(fld, v)], Γ, Hd1, rfl, h, r1.stp st, .inr ⟨List.cons_ne_nil _ _, d, [(fld, u)], rfl, ex_none r1.e.h dn1, ex_none r1.l.sub dn1, upd_same, .cons iu .nil⟩⟩))
/-- C(e).f, nothing raised -/
theorem de_oexAt (E : EclF X.prog X.w X.K X.mg X.base x C fld) (T : XfC X.K C) (hr : Room 2 X.A) (hg : Gl X x) (ha : DA X Γ [e] [v]) (hdb : (x == ("__debug__" : Str)) = false := by decide)
    (he : starEach [e] X.env = (false, eval e X.env) :: starEach [] X.env := by rfl) (hat : attributeBase (.Call (.Name x p) [e] [] pos) fld X.env (eval (.Call (.Name x p) [e] [] pos) X.env) = eval (.Call (.Name x p) [e] [] pos) X.env := by rfl) :
    DE X Γ (.Attribute (.Call (.Name x p) [e] [] pos) fld pos2) v := fun σ Hd H Q r k => by
  have hp : PE X (.Attribute (.Call (.Name x p) [e] [] pos) fld pos2) (fun σ H Q => tVkO C (spI C fld) (wA X [e]) σ H fun z H1 => ∃ a d u, z = .ref a ∧ H1 a = some (exo a C (some d)) ∧ H1 d = some (exd d [(fld, u)]) ∧ Q u H1) := by
    refine ⟨fun pins s σ H Q I h => ?_⟩
    refine attr_of hat (thn ((pe_oex E hr hg pa_w hdb he rfl).run pins s σ H _ I h) fun u s1 ⟨z, H1, I1, rz, a, d, y, ez, ea, ed, q⟩ => ?_)
    subst ez
    obtain rfl : u = Value.ref a := rz
    obtain ⟨t1, ho⟩ := exo_at I1.hok ea
    obtain ⟨mA, hns, rel⟩ := exd_at I1.hok ed
    obtain ⟨od, hod, hl⟩ := lookIn_ns hns
    obtain ⟨u, hu, ru⟩ := RelO.some_of (v := y) (o := mA fld) (by have := rel fld; simpa using this)
    have J : PySem.W.InstAt s1.heap a _ C (some od) := ⟨ho, rfl, rfl, hod⟩
    exact HandSPX.exc_get I1.kIn J T.ga T.gg T.exC (PySem.W.findObj_own T.hdC E.F.no rfl (by rw [hl, hu])) (handed_of ru) ⟨y, H1, I1.tok _, ru, q⟩
  refine wE_of hp (ha σ Hd H _ r fun vs Hd1 H1 s1 i1 => ?_)
  cases i1 with
  | @cons u us _ _ iu iu' =>
    cases iu'
    refine ⟨by show 1 ≤ 1000; decide, fun a na => ⟨a, u, rfl, upd_same, fun d dn dne => ⟨rfl, a, d, u, rfl, upd_same, by rw [upd_ne dne, upd_same], ?_⟩⟩⟩
    have dn1 : H1 d = none := by rw [← dn, upd_ne dne]
    have eH : ∀ b o, H1 b = some o → upd (upd (upd H1 a (exo a C none)) d (exd d [(fld, u)])) a (exo a C (some d)) b = some o := fun b o q => by
      have ba : b ≠ a := ne_of_none q na
      have bd : b ≠ d := ne_of_none q dn1
      rw [upd_ne ba, upd_ne bd, upd_ne ba]
      exact q
    exact k _ Hd1 _ (s1.trans ⟨Ex.refl _, eH, s1.s.trans eH, fun b o q n => by rw [n] at q; cases q⟩) iu
/-- err.f where the error is handled -/
theorem de_xf {n : Str} {a dd : Addr} (h : HotE X a (.ref C) (some dd)) (T : XfC X.K C) (hno : PySem.W.findIn X.K (.ref C) fld = some none) (ha : DE X Γ (.Name n p) (dExc a dd fld v)) (hat : attributeBase (.Name n p) fld X.env (eval (.Name n p) X.env) = eval (.Name n p) X.env := by rfl) :
    DE X Γ (.Attribute (.Name n p) fld pos2) v := fun σ Hd H Q r k => by
  have hp : PE X (.Attribute (.Name n p) fld pos2) (fun σ H Q => wE X (.Name n p) σ H fun z H1 => z = .ref a ∧ ∃ u, H1 dd = some (.xd [(fld, u)]) ∧ Q u H1) := by
    refine ⟨fun pins s σ H Q I hh => ?_⟩
    refine attr_of hat (thn (pe_w.run pins s σ H _ I hh) fun u s1 ⟨z, H1, I1, rz, ez, y, ed, q⟩ => ?_)
    subst ez
    obtain rfl : u = Value.ref a := rz
    obtain ⟨oe, od, J, hJ⟩ := inst_at h I1 fun d2 z => by cases z; exact ⟨_, ed⟩
    obtain ⟨o, rfl, ho⟩ := hJ dd rfl
    have hx : ObjOk X.prog X.w H1 s1.heap dd (.xd [(fld, y)]) := I1.hok dd _ ed
    obtain ⟨mA, hns, rel⟩ := hx
    obtain ⟨od, hod, hl⟩ := lookIn_ns hns
    rw [ho] at hod
    cases hod
    obtain ⟨u, hu, ru⟩ := RelO.some_of (v := y) (o := mA fld) (by have := rel fld; simpa using this)
    exact HandSPX.exc_get I1.kIn J T.ga T.gg T.exC (PySem.W.findObj_own T.hdC hno rfl (by rw [hl, hu])) (handed_of ru) ⟨y, H1, I1.tok _, ru, q⟩
  refine wE_of hp (ha σ Hd H _ r fun z Hd1 H1 s1 i1 => ?_)
  obtain ⟨e1, u, e2, iu⟩ := is_exc i1
  exact ⟨e1, u, s1.s _ _ e2, k u Hd1 H1 s1 iu⟩
end
end Hf

namespace Mf
open PySem Hf
def dI (n : Int) : D := .int n
abbrev dFr (q : Rat) : D := .tuple [.int q.num, .int (q.den : Int)]
/-- below 2 ^ n -/
def Bt (n : Nat) (i : Int) : Prop := i.natAbs < 2 ^ n
structure Sz (n : Nat) (q : Rat) : Prop where
  nu : q.num.natAbs < 2 ^ n
  de : q.den < 2 ^ n
theorem Bt.mono {m n : Nat} {i : Int} (h : Bt m i) (le : m ≤ n) : Bt n i := Nat.lt_of_lt_of_le h (Nat.pow_le_pow_right (by decide) le)
theorem Sz.mono {m n : Nat} {q : Rat} (h : Sz m q) (le : m ≤ n) : Sz n q := ⟨Nat.lt_of_lt_of_le h.1 (Nat.pow_le_pow_right (by decide) le), Nat.lt_of_lt_of_le h.2 (Nat.pow_le_pow_right (by decide) le)⟩
theorem Bt.log {n : Nat} {i : Int} (h : Bt n i) (hn : 0 < n) : i.natAbs.log2 < n := PySem.Flt.log2_lt_of hn h
theorem Bt.mul {m n : Nat} {i j : Int} (h : Bt m i) (g : Bt n j) : Bt (m + n) (i * j) := L2.wide_lt h g
theorem Bt.neg {n : Nat} {i : Int} (h : Bt n i) : Bt n (-i) := by unfold Bt at *; rw [Int.natAbs_neg]; exact h
theorem Bt.add {m n : Nat} {i j : Int} (h : Bt m i) (g : Bt n j) (k : Nat) (hm : m ≤ k) (hn : n ≤ k) : Bt (k + 1) (i + j) := by
  have h1 := h.mono hm
  have h2 := g.mono hn
  unfold Bt at *
  have := Int.natAbs_add_le i j
  rw [Nat.pow_succ]
  omega
theorem Bt.sub {m n : Nat} {i j : Int} (h : Bt m i) (g : Bt n j) (k : Nat) (hm : m ≤ k) (hn : n ≤ k) : Bt (k + 1) (i - j) := by
  rw [Int.sub_eq_add_neg]
  exact h.add g.neg k hm hn
theorem Bt.cast {n : Nat} {k : Nat} (h : k < 2 ^ n) : Bt n (k : Int) := by unfold Bt; simpa using h
theorem Sz.btn {n : Nat} {q : Rat} (h : Sz n q) : Bt n q.num := h.nu
theorem Sz.btd {n : Nat} {q : Rat} (h : Sz n q) : Bt n (q.den : Int) := Bt.cast h.de
theorem mul_ok {m n : Nat} {i j : Int} (h : Bt m i) (g : Bt n j) (le : m + n ≤ 100000000) : CMulB i j := by
  have a : i.natAbs.log2 < m + 1 := (h.mono (Nat.le_succ m)).log (Nat.succ_pos _)
  have b : j.natAbs.log2 < n + 1 := (g.mono (Nat.le_succ n)).log (Nat.succ_pos _)
  unfold CMulB
  omega
theorem div_ok {n : Nat} {i j : Int} (h0 : 0 < j) (g : Bt n j) (le : n ≤ 8999) : L2.CDivW i j := ⟨h0, by
  have b : j.natAbs.log2 < n + 1 := (g.mono (Nat.le_succ n)).log (Nat.succ_pos _)
  omega⟩
theorem divX_ok {n : Nat} {i j : Int} (h0 : j ≠ 0) (g : Bt n j) (le : n ≤ 8999) : CDivX i j := ⟨h0, by
  have b : j.natAbs.log2 < n + 1 := (g.mono (Nat.le_succ n)).log (Nat.succ_pos _)
  omega⟩
theorem gcd_turn (x y : Int) : Int.gcd y (x % y) = Int.gcd x y := by
  rw [Int.emod_def, Int.gcd_sub_mul_left_right, Int.gcd_comm]
/-- what fraction reckons -/
theorem fr_parts {t b by_ : Int} (hb : b ≠ 0) (hy : by_ = if b < 0 then -((Int.gcd t b : Nat) : Int) else ((Int.gcd t b : Nat) : Int)) : t.fdiv by_ = (Rat.divInt t b).num ∧ b.fdiv by_ = ((Rat.divInt t b).den : Int) := by
  have gp : 0 < Int.gcd t b := Int.gcd_pos_of_ne_zero_right t hb
  have d1 : ((Int.gcd t b : Nat) : Int) ∣ t := Int.gcd_dvd_left t b
  have d2 : ((Int.gcd t b : Nat) : Int) ∣ b := Int.gcd_dvd_right t b
  have gc : Int.gcd b t = Int.gcd t b := Int.gcd_comm b t
  rw [Rat.num_divInt, Rat.den_divInt, if_neg hb, gc]
  obtain ⟨u, hu⟩ := d1
  obtain ⟨v, hv⟩ := d2
  generalize hg : ((Int.gcd t b : Nat) : Int) = g at *
  have gp' : 0 < g := by omega
  have hgn : Int.gcd t b = g.toNat := by omega
  have e1 : b.sign * t / g = b.sign * u := by
    rw [hu, ← Int.mul_assoc, Int.mul_right_comm, Int.mul_ediv_cancel _ (by omega)]
  have e2 : ((b.natAbs / Int.gcd t b : Nat) : Int) = v.natAbs := by
    rw [hgn]
    have : b.natAbs = g.toNat * v.natAbs := by rw [hv, Int.natAbs_mul]; congr 1; omega
    rw [this, Nat.mul_div_cancel_left _ (by omega)]
  rw [e1, e2]
  by_cases hn : b < 0
  · rw [if_pos hn] at hy
    have vn : v < 0 := by
      rw [hv] at hn
      by_cases z : 0 ≤ v
      · have := Int.mul_nonneg (Int.le_of_lt gp') z; omega
      · omega
    rw [hy, Int.sign_eq_neg_one_of_neg hn]
    constructor
    · rw [hu, show g * u = (-u) * (-g) by rw [Int.neg_mul_neg, Int.mul_comm], Int.mul_fdiv_cancel _ (by omega)]; omega
    · rw [hv, show g * v = (-v) * (-g) by rw [Int.neg_mul_neg, Int.mul_comm], Int.mul_fdiv_cancel _ (by omega)]; omega
  · rw [if_neg hn] at hy
    have vn : 0 < v := by
      have hb' : 0 < b := by omega
      rw [hv] at hb'
      by_cases z : 0 < v
      · exact z
      · have := Int.mul_nonpos_of_nonneg_of_nonpos (Int.le_of_lt gp') (show v ≤ 0 by omega); omega
    rw [hy, Int.sign_eq_one_of_pos (by omega)]
    constructor
    · rw [hu, show g * u = u * g from Int.mul_comm _ _, Int.mul_fdiv_cancel _ (by omega)]; omega
    · rw [hv, show g * v = v * g from Int.mul_comm _ _, Int.mul_fdiv_cancel _ (by omega)]; omega
theorem gcd_bt {n : Nat} {t b : Int} (hb : b ≠ 0) (h : Bt n b) : Bt n ((Int.gcd t b : Nat) : Int) := by
  have := Int.gcd_le_natAbs_right t hb
  unfold Bt at *
  simp only [Int.natAbs_natCast]
  omega
theorem fr_add (q r : Rat) : Rat.divInt (q.num * r.den + r.num * q.den) (q.den * r.den) = q + r := by
  rw [Rat.add_def', show ((q.den : Int) * (r.den : Int)) = ((q.den * r.den : Nat) : Int) by simp, Rat.divInt_ofNat]
theorem fr_sub (q r : Rat) : Rat.divInt (q.num * r.den - r.num * q.den) (q.den * r.den) = q - r := by
  rw [Rat.sub_def', show ((q.den : Int) * (r.den : Int)) = ((q.den * r.den : Nat) : Int) by simp, Rat.divInt_ofNat]
theorem fr_mul (q r : Rat) : Rat.divInt (q.num * r.num) (q.den * r.den) = q * r := by
  rw [Rat.mul_def', show ((q.den : Int) * (r.den : Int)) = ((q.den * r.den : Nat) : Int) by simp, Rat.divInt_ofNat]
theorem fr_div (q r : Rat) : Rat.divInt (q.num * r.den) (q.den * r.num) = q / r := by
  rw [Rat.div_def, Rat.inv_def]
  have h : q = Rat.divInt q.num q.den := (Rat.num_divInt_den q).symm
  conv => rhs; rw [h]
  rw [Rat.divInt_mul_divInt]
theorem sz_divInt {n : Nat} {t b : Int} (h1 : Bt n t) (h2 : Bt n b) (h0 : 0 < n) : Sz n (Rat.divInt t b) := by
  constructor
  · rw [Rat.num_divInt]
    have h3 : (b.sign * t / ((Int.gcd b t : Nat) : Int)).natAbs ≤ t.natAbs := by
      refine Nat.le_trans (Int.natAbs_ediv_le_natAbs _ _) ?_
      rw [Int.natAbs_mul]
      have : b.sign.natAbs ≤ 1 := by
        rcases Int.sign_trichotomy b with h | h | h <;> rw [h] <;> decide
      exact Nat.le_trans (Nat.mul_le_mul_right _ this) (by omega)
    unfold Bt at h1
    omega
  · rw [Rat.den_divInt]
    split
    · exact Nat.one_lt_two_pow (by omega)
    · have := Nat.div_le_self b.natAbs (Int.gcd b t)
      unfold Bt at h2
      omega
theorem sz_add {m n k : Nat} {q r : Rat} (h : Sz m q) (g : Sz n r) (le : m + n + 1 ≤ k) : Sz k (q + r) := by
  rw [← fr_add]
  refine (sz_divInt (n := m + n + 1) ?_ ?_ (by omega)).mono le
  · exact (h.btn.mul g.btd).add (g.btn.mul h.btd) (m + n) (by omega) (by omega)
  · exact (h.btd.mul g.btd).mono (by omega)
theorem sz_sub {m n k : Nat} {q r : Rat} (h : Sz m q) (g : Sz n r) (le : m + n + 1 ≤ k) : Sz k (q - r) := by
  rw [← fr_sub]
  refine (sz_divInt (n := m + n + 1) ?_ ?_ (by omega)).mono le
  · exact (h.btn.mul g.btd).sub (g.btn.mul h.btd) (m + n) (by omega) (by omega)
  · exact (h.btd.mul g.btd).mono (by omega)
theorem sz_mul {m n k : Nat} {q r : Rat} (h : Sz m q) (g : Sz n r) (h0 : 0 < m + n) (le : m + n ≤ k) : Sz k (q * r) := by
  rw [← fr_mul]
  exact (sz_divInt (n := m + n) (h.btn.mul g.btn) (h.btd.mul g.btd) h0).mono le
theorem sz_int {n : Nat} {i : Int} (h : Bt n i) (h0 : 0 < n) : Sz n (i : Rat) := ⟨h, Nat.one_lt_two_pow (by omega)⟩
theorem den_pos (q : Rat) : (0 : Int) < (q.den : Int) := by have := q.den_pos; omega
theorem den_ne (q : Rat) : (q.den : Int) ≠ 0 := Int.ne_of_gt (den_pos q)
mutual
def plain : D → Bool
  | .bool _ => false
  | .dict _ => false
  | .list xs => plainAll xs
  | .tuple xs => plainAll xs
  | _ => true
def plainAll : List D → Bool
  | [] => true
  | x :: xs => plain x && plainAll xs
end
mutual
theorem eqv_iff : ∀ (a b : D), plain a = true → plain b = true → (PyData.eqv a b = true ↔ a = b)
  | .none, b, _, _ => by cases b <;> simp [PyData.eqv]
  | .bool _, _, h, _ => by simp [plain] at h
  | .int i, b, _, h => by cases b <;> simp [PyData.eqv, plain] at *
  | .str s, b, _, _ => by cases b <;> simp [PyData.eqv]
  | .dict _, _, h, _ => by simp [plain] at h
  | .list xs, b, h1, h2 => by
    cases b with
    | list ys =>
      have := eqvAll_iff xs ys (by simpa [plain] using h1) (by simpa [plain] using h2)
      simp [PyData.eqv, this]
    | _ => simp [PyData.eqv]
  | .tuple xs, b, h1, h2 => by
    cases b with
    | tuple ys =>
      have := eqvAll_iff xs ys (by simpa [plain] using h1) (by simpa [plain] using h2)
      simp [PyData.eqv, this]
    | _ => simp [PyData.eqv]
theorem eqvAll_iff : ∀ (a b : List D), plainAll a = true → plainAll b = true → (PyData.eqvAll a b = true ↔ a = b)
  | [], [], _, _ => by simp [PyData.eqvAll]
  | [], _ :: _, _, _ => by simp [PyData.eqvAll]
  | _ :: _, [], _, _ => by simp [PyData.eqvAll]
  | x :: xs, y :: ys, h1, h2 => by
    have a1 := Bool.and_eq_true_iff.mp (by simpa [plainAll] using h1)
    have a2 := Bool.and_eq_true_iff.mp (by simpa [plainAll] using h2)
    have e1 := eqv_iff x y a1.1 a2.1
    have e2 := eqvAll_iff xs ys a1.2 a2.2
    simp [PyData.eqvAll, e1, e2]
end
theorem plainAll_map {α : Type} (f : α → D) (h : ∀ x, plain (f x) = true) : ∀ xs : List α, plainAll (xs.map f) = true
  | [] => by simp [plainAll]
  | x :: xs => by simp [plainAll, h, plainAll_map f h xs]
theorem eqv_self {d : D} (h : plain d = true) : PyData.eqv d d = true := (eqv_iff d d h h).mpr rfl
theorem plain_fr (q : Rat) : plain (dFr q) = true := by simp [plain, plainAll]
theorem fr_inj {q r : Rat} : dFr q = dFr r ↔ q = r := by
  constructor
  · intro h
    simp only [PyData.tuple.injEq, List.cons.injEq, PyData.int.injEq, and_true] at h
    exact Rat.ext h.1 (by omega)
  · rintro rfl; rfl
theorem map_inj {α : Type} {f : α → D} (h : ∀ x y, f x = f y → x = y) : ∀ {xs ys : List α}, xs.map f = ys.map f → xs = ys
  | [], [], _ => rfl
  | [], _ :: _, e => by simp at e
  | _ :: _, [], e => by simp at e
  | x :: xs, y :: ys, e => by
    simp only [List.map_cons, List.cons.injEq] at e
    rw [h _ _ e.1, map_inj h e.2]
abbrev dFrs (f : List Rat) : List D := f.map dFr
theorem frs_inj {f g : List Rat} (h : dFrs f = dFrs g) : f = g := map_inj (fun _ _ => fr_inj.mp) h
/-- the depth and the signs of data: fit for == -/
def depthLe (n : Nat) (d : D) : Prop := PyData.canLay0 d = true ∧ PyData.depth d ≤ n
theorem shaped_of {d : D} {n : Nat} (h : depthLe n d) (hn : n ≤ 64) : SeqAt.shaped d = true := by
  unfold SeqAt.shaped
  rw [h.1, decide_eq_true (Nat.le_trans h.2 hn)]; rfl
theorem dl_int {n : Nat} (i : Int) (h : 1 ≤ n) : depthLe n (.int i) := ⟨rfl, by simp [PyData.depth]⟩
theorem canLayAll_of : ∀ {ds : List D}, (∀ d ∈ ds, PyData.canLay0 d = true) → PyData.canLayAll0 ds = true
  | [], _ => by simp [PyData.canLayAll0]
  | d :: ds, h => by
    simp [PyData.canLayAll0, h d List.mem_cons_self, canLayAll_of fun x hx => h x (List.mem_cons_of_mem _ hx)]
theorem depthAll_of {n : Nat} : ∀ {ds : List D}, (∀ d ∈ ds, PyData.depth d ≤ n) → PyData.depthAll ds ≤ n
  | [], _ => by simp [PyData.depthAll]
  | d :: ds, h => by
    have h1 := h d List.mem_cons_self
    have h2 := depthAll_of fun x hx => h x (List.mem_cons_of_mem _ hx)
    simp only [PyData.depthAll]
    omega
theorem dl_tup {n : Nat} {ds : List D} (h : ∀ d ∈ ds, depthLe n d) : depthLe (n + 1) (.tuple ds) := ⟨by
  simp only [PyData.canLay0]
  exact canLayAll_of fun d hd => (h d hd).1, by
  simp only [PyData.depth]
  have := depthAll_of (n := n) fun d hd => (h d hd).2
  omega⟩
theorem dl_lst {n : Nat} {ds : List D} (h : ∀ d ∈ ds, depthLe n d) : depthLe (n + 1) (.list ds) := ⟨by
  simp only [PyData.canLay0]
  exact canLayAll_of fun d hd => (h d hd).1, by
  simp only [PyData.depth]
  have := depthAll_of (n := n) fun d hd => (h d hd).2
  omega⟩
theorem dl_fr {n : Nat} (q : Rat) (h : 2 ≤ n) : depthLe n (dFr q) := by
  obtain ⟨m, rfl⟩ : ∃ m, n = m + 1 := ⟨n - 1, by omega⟩
  refine dl_tup fun d hd => ?_
  simp only [List.mem_cons, List.not_mem_nil, or_false] at hd
  rcases hd with rfl | rfl <;> exact dl_int _ (by omega)
theorem dl_map {α : Type} {n : Nat} {f : α → D} (h : ∀ x, depthLe n (f x)) (xs : List α) : ∀ d ∈ xs.map f, depthLe n d := fun d hd => by
  obtain ⟨x, _, rfl⟩ := List.mem_map.mp hd
  exact h x
theorem sh_fr (q : Rat) : SeqAt.shaped (dFr q) = true := shaped_of (dl_fr (n := 2) q (by decide)) (by decide)
theorem sh_frsT (f : List Rat) : SeqAt.shaped (.tuple (dFrs f)) = true := shaped_of (dl_tup (dl_map (fun q => dl_fr (n := 2) q (by decide)) f)) (by decide)
theorem sh_frsL (f : List Rat) : SeqAt.shaped (.list (dFrs f)) = true := shaped_of (dl_lst (dl_map (fun q => dl_fr (n := 2) q (by decide)) f)) (by decide)
theorem sh_frsLL (f : List (List Rat)) : SeqAt.shaped (.list (f.map fun g => .list (dFrs g))) = true := shaped_of (dl_lst (dl_map (fun g => dl_lst (dl_map (fun q => dl_fr (n := 2) q (by decide)) g)) f)) (by decide)
theorem eqv_fr (q r : Rat) : PyData.eqv (dFr q) (dFr r) = decide (q = r) := by
  rw [Bool.eq_iff_iff, eqv_iff _ _ (plain_fr q) (plain_fr r), fr_inj, decide_eq_true_eq]
theorem eqv_frsT (f g : List Rat) : PyData.eqv (.tuple (dFrs f)) (.tuple (dFrs g)) = decide (f = g) := by
  rw [Bool.eq_iff_iff, eqv_iff _ _ (by simpa [plain] using plainAll_map _ plain_fr f) (by simpa [plain] using plainAll_map _ plain_fr g), decide_eq_true_eq]
  constructor
  · intro h; exact frs_inj (PyData.tuple.inj h)
  · rintro rfl; rfl
theorem eqv_frsL (f g : List Rat) : PyData.eqv (.list (dFrs f)) (.list (dFrs g)) = decide (f = g) := by
  rw [Bool.eq_iff_iff, eqv_iff _ _ (by simpa [plain] using plainAll_map _ plain_fr f) (by simpa [plain] using plainAll_map _ plain_fr g), decide_eq_true_eq]
  constructor
  · intro h; exact frs_inj (PyData.list.inj h)
  · rintro rfl; rfl
theorem Bt.lit {n : Nat} {i : Int} (h : i.natAbs < 2 ^ n) : Bt n i := h
theorem de_frI {X : L2.Cx} {Γ : List Cell} {e : Expr} {i : Int} {j x1 : Nat} {p pos : Pos} (h : DE X Γ e (.int i)) (hs : starEach [e, .Constant (.int 1) j p] X.env = (false, eval e X.env) :: starEach [.Constant (.int 1) j p] X.env := by rfl) : DE X Γ (.Tuple [e, .Constant (.int 1) j p] x1 pos) (dFr (i : Rat)) := (de_tup (da_cons h (da_cons de_int da_nil) hs) (Nat.le_of_ble_eq_true rfl)).of rfl
theorem at_map {α : Type} {f : α → D} {xs : List α} {k : Int} {n : Nat} {x : α} (hk : k = (n : Int)) (hx : xs[n]? = some x) : L2.atI (xs.map f) k = some (f x) := by
  rw [hk]
  exact L2.atI_nat (by rw [List.getElem?_map, hx]; rfl)
theorem at_ints {xs : List Int} {k : Int} {n : Nat} {x : Int} (hk : k = (n : Int)) (hx : xs[n]? = some x) : L2.atI (xs.map PyData.int) k = some (.int x) := at_map hk hx
theorem plain_frsT (f : List Rat) : plain (.tuple (dFrs f)) = true := by simpa [plain] using plainAll_map _ plain_fr f
theorem plain_frsL (f : List Rat) : plain (.list (dFrs f)) = true := by simpa [plain] using plainAll_map _ plain_fr f
theorem plain_LL (f g : List Rat) : plain (.list [.list (dFrs f), .list (dFrs g)]) = true := by
  have a := plain_frsL f
  have b := plain_frsL g
  simp only [plain, plainAll] at *
  simp [a, b]
theorem sh_LL (f g : List Rat) : SeqAt.shaped (.list [.list (dFrs f), .list (dFrs g)]) = true := sh_frsLL [f, g]
end Mf

namespace Mf
open PySem Hf
def trim : List Rat → List Rat
  | [] => []
  | a :: f => if trim f = [] then (if a = 0 then [] else [a]) else a :: trim f
theorem trim_snoc0 : ∀ f : List Rat, trim (f ++ [0]) = trim f
  | [] => by simp [trim]
  | a :: f => by
    show trim (a :: (f ++ [0])) = trim (a :: f)
    unfold trim
    rw [trim_snoc0 f]
theorem trim_snoc {a : Rat} (h : a ≠ 0) : ∀ f : List Rat, trim (f ++ [a]) = f ++ [a]
  | [] => by simp [trim, h]
  | b :: f => by
    show trim (b :: (f ++ [a])) = b :: (f ++ [a])
    unfold trim
    rw [trim_snoc h f, if_neg (by simp)]
theorem trim_get : ∀ (f : List Rat) (k : Nat), (trim f).getD k 0 = f.getD k 0
  | [], _ => by simp [trim]
  | a :: f, k => by
    unfold trim
    have ih := trim_get f
    by_cases h : trim f = []
    · rw [if_pos h]
      have z : ∀ k, f.getD k 0 = 0 := fun k => by rw [← ih, h]; rfl
      by_cases ha : a = 0
      · rw [if_pos ha]
        cases k with
        | zero => simp [ha]
        | succ k => have := z k; simpa using this.symm
      · rw [if_neg ha]
        cases k with
        | zero => simp
        | succ k => have := z k; simpa using this.symm
    · rw [if_neg h]
      cases k with
      | zero => simp
      | succ k => simpa using ih k
theorem trim_ext : ∀ {f g : List Rat}, (∀ k, f.getD k 0 = g.getD k 0) → trim f = trim g
  | [], [], _ => rfl
  | [], b :: g, h => by
    have h0 : b = 0 := by simpa using (h 0).symm
    have e : trim g = trim [] := (trim_ext (f := []) (g := g) fun k => by simpa using h (k + 1)).symm
    have e' : trim g = [] := e
    show [] = trim (b :: g)
    unfold trim
    rw [if_pos e', if_pos h0]
  | a :: f, [], h => by
    have h0 : a = 0 := by simpa using (h 0)
    have e' : trim f = [] := trim_ext (f := f) (g := []) fun k => by simpa using h (k + 1)
    show trim (a :: f) = []
    unfold trim
    rw [if_pos e', if_pos h0]
  | a :: f, b :: g, h => by
    have h0 : a = b := by simpa using h 0
    have e : trim f = trim g := trim_ext fun k => by simpa using h (k + 1)
    unfold trim
    rw [e, h0]
theorem trim_trim (f : List Rat) : trim (trim f) = trim f := trim_ext (trim_get f)
theorem trim_len : ∀ f : List Rat, (trim f).length ≤ f.length
  | [] => Nat.le_refl _
  | a :: f => by
    unfold trim
    have := trim_len f
    split
    · split <;> simp
    · simp; omega
theorem trim_sub : ∀ (f : List Rat) (q : Rat), q ∈ trim f → q ∈ f
  | [], q, h => h
  | a :: f, q, h => by
    unfold trim at h
    have ih := trim_sub f q
    split at h
    · split at h
      · cases h
      · simp at h; simp [h]
    · simp at h
      rcases h with h | h
      · simp [h]
      · simp [ih h]
theorem trim_last {f : List Rat} (h : trim f = f) {a : Rat} (g : f.getLast? = some a) : a ≠ 0 := by
  intro z
  subst z
  obtain ⟨l, rfl⟩ := List.getLast?_eq_some_iff.mp g
  rw [trim_snoc0] at h
  have := trim_len l
  rw [h] at this
  simp at this
  omega
/-- one number less at the end -/
theorem trim_take {f : List Rat} {m : Nat} (h : f[m]? = some 0) : trim (f.take (m + 1)) = trim (f.take m) := by
  rw [List.take_add_one, h]
  exact trim_snoc0 _
theorem trim_stop {f : List Rat} {m : Nat} {a : Rat} (h : f[m]? = some a) (ha : a ≠ 0) : trim (f.take (m + 1)) = f.take (m + 1) := by
  rw [List.take_add_one, h]
  exact trim_snoc ha _
theorem cut_take {α : Type} (xs : List α) (m : Nat) (h : m ≤ xs.length) : cutD xs none (some (m : Int)) = xs.take m := by
  unfold cutD
  rw [HT.sIx_none, HT.sIx_nat]
  simp [Nat.min_eq_left h]
theorem cut_drop {α : Type} (xs : List α) (m : Nat) (h : m ≤ xs.length) : cutD xs (some (m : Int)) none = xs.drop m := by
  unfold cutD
  rw [HT.sIx_none, HT.sIx_nat, Nat.min_eq_left h]
  apply List.take_of_length_le
  simp
abbrev dPo (f : List Rat) : D := .tuple (dFrs f)
def cAdd (f g : List Rat) : List Rat := (List.range (max f.length g.length)).map fun k => f.getD k 0 + g.getD k 0
def cSub (f g : List Rat) : List Rat := (List.range (max f.length g.length)).map fun k => f.getD k 0 - g.getD k 0
def pAdd (f g : List Rat) : List Rat := trim (cAdd f g)
def pSub (f g : List Rat) : List Rat := trim (cSub f g)
def SzA (n : Nat) (f : List Rat) : Prop := ∀ q ∈ f, Sz n q
theorem SzA.mono {m n : Nat} {f : List Rat} (h : SzA m f) (le : m ≤ n) : SzA n f := fun q hq => (h q hq).mono le
theorem SzA.trim {n : Nat} {f : List Rat} (h : SzA n f) : SzA n (trim f) := fun q hq => h q (trim_sub f q hq)
theorem sz0 {n : Nat} (h : 0 < n) : Sz n 0 := ⟨Nat.pow_pos (by decide), Nat.one_lt_two_pow (by omega)⟩
theorem SzA.get {n : Nat} {f : List Rat} (h : SzA n f) (h0 : 0 < n) (k : Nat) : Sz n (f.getD k 0) := by
  rw [List.getD_eq_getElem?_getD]
  cases e : f[k]? with
  | none => exact sz0 h0
  | some q => exact h q (List.mem_of_getElem? e)
theorem getD_range_map {n : Nat} {f : Nat → Rat} {k : Nat} : ((List.range n).map f).getD k 0 = if k < n then f k else 0 := by
  rw [List.getD_eq_getElem?_getD, List.getElem?_map]
  by_cases h : k < n
  · rw [List.getElem?_range h, if_pos h]; rfl
  · rw [List.getElem?_eq_none (by simpa using h), if_neg h]; rfl
theorem getD_ge {f : List Rat} {k : Nat} (h : f.length ≤ k) : f.getD k 0 = 0 := by
  rw [List.getD_eq_getElem?_getD, List.getElem?_eq_none h]; rfl
theorem cAdd_get (f g : List Rat) (k : Nat) : (cAdd f g).getD k 0 = f.getD k 0 + g.getD k 0 := by
  unfold cAdd
  rw [getD_range_map]
  split
  · rfl
  · rw [getD_ge (f := f) (by omega), getD_ge (f := g) (by omega)]; grind
theorem cSub_get (f g : List Rat) (k : Nat) : (cSub f g).getD k 0 = f.getD k 0 - g.getD k 0 := by
  unfold cSub
  rw [getD_range_map]
  split
  · rfl
  · rw [getD_ge (f := f) (by omega), getD_ge (f := g) (by omega)]; grind
theorem pSub_self (f : List Rat) : pSub f f = [] := by
  have : trim (cSub f f) = trim [] := trim_ext fun k => by rw [cSub_get]; simp [Rat.sub_self]
  exact this
theorem cAdd_sz {m n k : Nat} {f g : List Rat} (h : SzA m f) (h' : SzA n g) (h0 : 0 < m) (h1 : 0 < n) (le : m + n + 1 ≤ k) : SzA k (cAdd f g) := fun q hq => by
  obtain ⟨i, _, rfl⟩ := List.mem_map.mp hq
  exact sz_add (h.get h0 i) (h'.get h1 i) le
theorem cSub_sz {m n k : Nat} {f g : List Rat} (h : SzA m f) (h' : SzA n g) (h0 : 0 < m) (h1 : 0 < n) (le : m + n + 1 ≤ k) : SzA k (cSub f g) := fun q hq => by
  obtain ⟨i, _, rfl⟩ := List.mem_map.mp hq
  exact sz_sub (h.get h0 i) (h'.get h1 i) le
theorem cAdd_len (f g : List Rat) : (cAdd f g).length = max f.length g.length := by simp [cAdd]
theorem cSub_len (f g : List Rat) : (cSub f g).length = max f.length g.length := by simp [cSub]
theorem getD_at {f : List Rat} {k : Nat} (h : k < f.length) : f[k]? = some (f.getD k 0) := by rw [List.getD_eq_getElem?_getD, List.getElem?_eq_getElem h]; rfl
theorem get_frs {f : List Rat} {k : Nat} (h : k < f.length) : L2.atI (dFrs f) (k : Int) = some (dFr (f.getD k 0)) := at_map rfl (by rw [List.getD_eq_getElem?_getD, List.getElem?_eq_getElem h]; rfl)
theorem cutD_len {α : Type} (xs : List α) (a b : Option Int) : (cutD xs a b).length ≤ xs.length := by
  unfold cutD
  rw [List.length_take, List.length_drop]
  omega
theorem flat_rep {α : Type} (x : α) : ∀ n : Nat, (List.replicate n [x]).flatten = List.replicate n x
  | 0 => rfl
  | n + 1 => by rw [List.replicate_succ, List.flatten_cons, flat_rep x n]; rfl
/-- turns of a loop that tells a list -/
theorem map_range_succ {α : Type} (f : Nat → α) (n : Nat) : (List.range (n + 1)).map f = (List.range n).map f ++ [f n] := by rw [List.range_succ, List.map_append]; rfl
end Mf

namespace Mf
open PySem Hf
theorem mul_sm {i j : Int} (h : -(10 ^ 90 : Int) < i ∧ i < 10 ^ 90) (g : -(10 ^ 90 : Int) < j ∧ j < 10 ^ 90) : CMulB i j := by
  have a : Bt 300 i := by unfold Bt; omega
  have b : Bt 300 j := by unfold Bt; omega
  exact mul_ok a b (by decide)
theorem div_sm {i j : Int} (g : 0 < j ∧ j < 10 ^ 90) : L2.CDivW i j := by
  have b : Bt 300 j := by unfold Bt; omega
  exact div_ok g.1 b (by decide)
def vCell (ns : List Int) (k : Int) : Int := ns.getD k.toNat 0
def vMix (c k : Int) : Int := c % 10000000000000000000000000000000000000000 + 1 + 13 * k + 7 * k * k
def vLow (c k : Int) : Int := vMix c k * 48271 % 2147483647 * 69621 % 1000000007
def vStir (c k : Int) : Int := vLow c k + 1000000007 * (vMix c k * vLow c k * 2862933555777941757 % (1000000000000000000000000000000 + 57))
def gdiv (g : Int) : Nat → Int
  | 0 => g
  | n + 1 => gdiv g n / 1000000000000000000000000000000000000000000000000000000000000
def vDrawn (ns : List Int) (k : Int) : Int :=
  if vCell ns 0 % 2 = 1 ∧ 10000000000000000000000000000000000000000 ≤ vCell ns 1 then gdiv (vCell ns 1) k.toNat % 1000000000000000000000000000000000000000000000000000000000000 else vStir (vCell ns k) k
theorem vMix_bd {c k : Int} (h0 : 0 ≤ k) (h1 : k ≤ 1000) : 0 < vMix c k ∧ vMix c k ≤ 10000000000000000000000000000000000000000 + 8000000 := by
  have a : 0 ≤ k * k := Int.mul_nonneg h0 h0
  have b : k * k ≤ 1000 * 1000 := Int.mul_le_mul h1 h1 h0 (by decide)
  have e : 7 * k * k = 7 * (k * k) := Int.mul_assoc _ _ _
  unfold vMix
  rw [e]
  generalize k * k = z at *
  omega
theorem vLow_bd (c k : Int) : 0 ≤ vLow c k ∧ vLow c k < 1000000007 := by
  unfold vLow
  omega
theorem vStir_bd (c k : Int) : 0 ≤ vStir c k ∧ vStir c k < 10 ^ 60 := by
  have h := vLow_bd c k
  unfold vStir
  generalize vMix c k * vLow c k * 2862933555777941757 = z
  generalize vLow c k = l at *
  omega
theorem vDrawn_bd (ns : List Int) (k : Int) : 0 ≤ vDrawn ns k ∧ vDrawn ns k < 10 ^ 60 := by
  unfold vDrawn
  split
  · omega
  · exact vStir_bd _ _
theorem dz (a : Int) {b : Int} (h : 0 ≤ a) (g : 0 < b) : 0 ≤ a / b ∧ a / b ≤ a := by
  constructor
  · exact Int.ediv_nonneg h (by omega)
  · exact Int.ediv_le_self _ h
theorem low_parts {t b : Int} (hb : 0 < b) : t / ((Int.gcd t b : Nat) : Int) = (Rat.divInt t b).num ∧ b / ((Int.gcd t b : Nat) : Int) = ((Rat.divInt t b).den : Int) := by
  have := fr_parts (t := t) (b := b) (by omega) (by_ := ((Int.gcd t b : Nat) : Int)) (by rw [if_neg (by omega)])
  rw [Int.fdiv_eq_ediv_of_nonneg _ (by omega), Int.fdiv_eq_ediv_of_nonneg _ (by omega)] at this
  exact this
theorem sz_low {t b : Int} (ht : -(10 ^ 29 + 1 : Int) < t ∧ t < (10 ^ 29 + 1)) (hb : -(10 ^ 29 + 1 : Int) < b ∧ b < (10 ^ 29 + 1)) : Sz 97 (Rat.divInt t b) := sz_divInt (by unfold Bt; omega) (by unfold Bt; omega) (by decide)
theorem sz_small {t : Int} (ht : -(10 ^ 29 + 1 : Int) < t ∧ t < (10 ^ 29 + 1)) : Sz 97 (t : Rat) := sz_int (by unfold Bt; omega) (by decide)
theorem vNum_aux {c m : Int} (h : 0 ≤ c) (hm : 0 < m) : 0 ≤ c % m ∧ c % m < m := ⟨Int.emod_nonneg _ (by omega), Int.emod_lt_of_pos _ hm⟩
def vNum (c : Int) : Rat :=
  if c % 4 = 0 then ((c / 4 % 9 - 4 : Int) : Rat)
  else if c % 4 = 1 then Rat.divInt (c / 4 % 41 - 20) (1 + c / 164 % 12)
  else if c % 4 = 2 then Rat.divInt (c / 4 % 1999999 - 999999) (1 + c / 7 % 12)
  else Rat.divInt (c / 4 % (2 * 100000000000000000000000000000 + 1) - 100000000000000000000000000000) (1 + c / 11 % 100000000000000000000000000000)
theorem vNum_sz (c : Int) : Sz 97 (vNum c) := by
  unfold vNum
  split
  · exact sz_small ⟨by omega, by omega⟩
  · split
    · exact sz_low ⟨by omega, by omega⟩ ⟨by omega, by omega⟩
    · split
      · exact sz_low ⟨by omega, by omega⟩ ⟨by omega, by omega⟩
      · exact sz_low ⟨by omega, by omega⟩ ⟨by omega, by omega⟩
def vRaw (ns : List Int) (first : Int) (k : Nat) : Rat :=
  vNum (if 2 < k ∧ vDrawn ns (first + k) / 3 % 4 = 3 then vDrawn ns (first + k) / 3 - 2 else vDrawn ns (first + k) / 3)
def vBase (ns : List Int) (first : Int) (many : Nat) : List Rat := (List.range many).map (vRaw ns first)
def vPo1 (ns : List Int) (first : Int) (many : Nat) (way : Int) : List Rat := if way % 3 = 1 then (vBase ns first many).map (fun q => ((q.num % 3 : Int) : Rat)) else vBase ns first many
def vPoly (ns : List Int) (first : Int) (many : Nat) (way : Int) : List Rat :=
  if way % 3 = 2 then (vPo1 ns first many way).take (many / 2) ++ List.replicate (many - many / 2) 0 else vPo1 ns first many way
theorem vBase_len (ns : List Int) (first : Int) (many : Nat) : (vBase ns first many).length = many := by simp [vBase]
theorem vPo1_len (ns : List Int) (first : Int) (many : Nat) (way : Int) : (vPo1 ns first many way).length = many := by
  unfold vPo1; split <;> simp [vBase_len]
theorem vPoly_len (ns : List Int) (first : Int) (many : Nat) (way : Int) : (vPoly ns first many way).length = many := by
  unfold vPoly
  split
  · simp [vPo1_len]; omega
  · exact vPo1_len _ _ _ _
theorem vBase_sz (ns : List Int) (first : Int) (many : Nat) : SzA 97 (vBase ns first many) := fun q hq => by
  obtain ⟨i, _, rfl⟩ := List.mem_map.mp hq
  exact vNum_sz _
theorem vPo1_sz (ns : List Int) (first : Int) (many : Nat) (way : Int) : SzA 97 (vPo1 ns first many way) := by
  unfold vPo1
  split
  · intro q hq
    obtain ⟨x, _, rfl⟩ := List.mem_map.mp hq
    exact sz_small ⟨by omega, by omega⟩
  · exact vBase_sz _ _ _
theorem vPoly_s (ns : List Int) (first : Int) (many : Nat) (way : Int) : SzA 97 (vPoly ns first many way) := by
  unfold vPoly
  split
  · intro q hq
    rcases List.mem_append.mp hq with h | h
    · exact vPo1_sz _ _ _ _ q (List.mem_of_mem_take h)
    · rw [List.eq_of_mem_replicate h]; exact sz0 (by decide)
  · exact vPo1_sz _ _ _ _
theorem vPoly_sz (ns : List Int) (first : Int) (many : Nat) (way : Int) : SzA 200 (vPoly ns first many way) := (vPoly_s ns first many way).mono (by decide)
theorem at_lastD {f : List Rat} (h : f ≠ []) : L2.atI (dFrs f) (-1) = some (dFr (f.getLast h)) := by
  have e : dFrs f = (f.dropLast.map dFr) ++ [dFr (f.getLast h)] := by
    conv => lhs; rw [← List.dropLast_concat_getLast h]
    simp
  rw [e]
  exact L2.atI_last _ _
theorem trim_last' {f : List Rat} (ht : trim f = f) (h : f ≠ []) : f.getLast h ≠ 0 := trim_last ht (List.getLast?_eq_some_getLast h)
theorem last_getD {f : List Rat} (h : f ≠ []) : f.getD (f.length - 1) 0 = f.getLast h := by
  rw [List.getLast_eq_getElem, List.getD_eq_getElem?_getD, List.getElem?_eq_getElem (by have := List.length_pos_iff.mpr h; omega)]; rfl
theorem at_lastG {f : List Rat} (h : f ≠ []) : L2.atI (dFrs f) (-1) = some (dFr (f.getD (f.length - 1) 0)) := by rw [last_getD h]; exact at_lastD h
theorem trim_lastG {f : List Rat} (ht : trim f = f) (h : f ≠ []) : f.getD (f.length - 1) 0 ≠ 0 := by rw [last_getD h]; exact trim_last' ht h
theorem SzA.neg {n : Nat} {f : List Rat} (h : SzA n f) (k : Nat) : SzA n (f.take k ++ (f.drop k).map (fun q => -q)) := fun q hq => by
  rcases List.mem_append.mp hq with z | z
  · exact h q (List.mem_of_mem_take z)
  · obtain ⟨x, hx, rfl⟩ := List.mem_map.mp z
    have := h x (List.mem_of_mem_drop hx)
    exact ⟨by rw [Rat.neg_num, Int.natAbs_neg]; exact this.nu, this.de⟩
theorem cut_neg (one : List Rat) {kk : Nat} (lk : kk ≤ one.length) : cutD (dFrs one) none (some (kk : Int)) ++ dFrs ((one.drop kk).map (fun q => -q)) = dFrs (one.take kk ++ (one.drop kk).map (fun q => -q)) := by
  rw [cut_take _ _ (by simp; omega)]
  simp
theorem frs_snoc (f : List Rat) (q : Rat) : dFrs (f ++ [q]) = dFrs f ++ [dFr q] := by simp
theorem gcd_fr (q : Rat) : Int.gcd q.num (q.den : Int) = 1 := by
  have := q.reduced
  simpa [Int.gcd, Nat.Coprime] using this
theorem num_ne {q : Rat} (h : q ≠ 0) : q.num ≠ 0 := fun z => h (Rat.num_eq_zero.mp z)
end Mf

namespace Mf
open PySem Hf
def SS : Nat → (Nat → Rat) → Rat
  | 0, _ => 0
  | n + 1, F => SS n F + F n
theorem SS_ext {F G : Nat → Rat} : ∀ {n : Nat}, (∀ i, i < n → F i = G i) → SS n F = SS n G
  | 0, _ => rfl
  | n + 1, h => by
    show SS n F + F n = SS n G + G n
    rw [SS_ext (n := n) fun i hi => h i (by omega), h n (by omega)]
theorem SS_zero {F : Nat → Rat} : ∀ {n : Nat}, (∀ i, i < n → F i = 0) → SS n F = 0
  | 0, _ => rfl
  | n + 1, h => by
    show SS n F + F n = 0
    rw [SS_zero (n := n) fun i hi => h i (by omega), h n (by omega)]
    grind
theorem SS_add (F G : Nat → Rat) : ∀ n : Nat, SS n (fun i => F i + G i) = SS n F + SS n G
  | 0 => by simp [SS] <;> grind
  | n + 1 => by
    show SS n (fun i => F i + G i) + (F n + G n) = (SS n F + F n) + (SS n G + G n)
    rw [SS_add F G n]
    grind
theorem SS_mul (c : Rat) (F : Nat → Rat) : ∀ n : Nat, SS n (fun i => c * F i) = c * SS n F
  | 0 => by simp [SS]
  | n + 1 => by
    show SS n (fun i => c * F i) + c * F n = c * (SS n F + F n)
    rw [SS_mul c F n]
    grind
theorem SS_front (F : Nat → Rat) : ∀ n : Nat, SS (n + 1) F = F 0 + SS n (fun i => F (i + 1))
  | 0 => by simp [SS]; grind
  | n + 1 => by
    show SS (n + 1) F + F (n + 1) = F 0 + (SS n (fun i => F (i + 1)) + F (n + 1))
    rw [SS_front F n]
    grind
theorem SS_rev (F : Nat → Rat) : ∀ n : Nat, SS (n + 1) F = SS (n + 1) (fun i => F (n - i))
  | 0 => rfl
  | n + 1 => by
    rw [SS_front (fun i => F (n + 1 - i)) (n + 1)]
    show SS (n + 1) F + F (n + 1) = _
    rw [SS_rev F n, SS_ext (n := n + 1) (F := fun i => F (n + 1 - (i + 1))) (G := fun i => F (n - i)) fun i _ => by rw [show n + 1 - (i + 1) = n - i by omega]]
    simp only [Nat.sub_zero]
    grind
theorem SS_more {F : Nat → Rat} {m n : Nat} (h : m ≤ n) (z : ∀ i, m ≤ i → F i = 0) : SS n F = SS m F := by
  induction n with
  | zero => rw [show m = 0 by omega]
  | succ n ih =>
    by_cases e : m = n + 1
    · rw [e]
    · show SS n F + F n = _
      rw [ih (by omega), z n (by omega)]
      grind
def cv : List Rat → List Rat → Nat → Rat
  | [], _, _ => 0
  | c :: f, g, 0 => c * g.getD 0 0
  | c :: f, g, k + 1 => c * g.getD (k + 1) 0 + cv f g k
theorem cv_SS : ∀ (f g : List Rat) (k : Nat), cv f g k = SS (k + 1) (fun i => f.getD i 0 * g.getD (k - i) 0)
  | [], g, k => by
    show (0 : Rat) = _
    rw [SS_zero]
    intro i _
    simp
  | c :: f, g, 0 => by
    show c * g.getD 0 0 = SS 0 _ + _
    simp [SS] <;> grind
  | c :: f, g, k + 1 => by
    rw [SS_front]
    show c * g.getD (k + 1) 0 + cv f g k = _
    rw [cv_SS f g k]
    have : SS (k + 1) (fun i => f.getD i 0 * g.getD (k - i) 0) = SS (k + 1) (fun i => (c :: f).getD (i + 1) 0 * g.getD (k + 1 - (i + 1)) 0) := SS_ext fun i _ => by
      rw [show k + 1 - (i + 1) = k - i by omega]; simp
    rw [this]
    simp
theorem cv_comm (f g : List Rat) (k : Nat) : cv f g k = cv g f k := by
  rw [cv_SS, cv_SS, SS_rev]
  refine SS_ext fun i hi => ?_
  rw [show k - (k - i) = i by omega]
  exact Rat.mul_comm _ _
theorem cv_addR {f g h p : List Rat} (e : ∀ k, p.getD k 0 = g.getD k 0 + h.getD k 0) (k : Nat) : cv f p k = cv f g k + cv f h k := by
  rw [cv_SS, cv_SS, cv_SS, ← SS_add]
  refine SS_ext fun i hi => ?_
  rw [e]
  grind
theorem cv_extR {f g h : List Rat} (e : ∀ k, g.getD k 0 = h.getD k 0) (k : Nat) : cv f g k = cv f h k := by
  rw [cv_SS, cv_SS]
  exact SS_ext fun i hi => by rw [e]
theorem cv_extL {f g h : List Rat} (e : ∀ k, g.getD k 0 = h.getD k 0) (k : Nat) : cv g f k = cv h f k := by rw [cv_comm, cv_extR e, cv_comm]
theorem cv_nilR (f : List Rat) (k : Nat) : cv f [] k = 0 := by rw [cv_comm]; rfl
theorem cv_snoc : ∀ (f : List Rat) (c : Rat) (g : List Rat) (k : Nat), cv (f ++ [c]) g k = cv f g k + (if f.length ≤ k then c * g.getD (k - f.length) 0 else 0)
  | [], c, g, 0 => by simp [cv] <;> grind
  | [], c, g, k + 1 => by simp [cv]; grind
  | b :: f, c, g, 0 => by simp [cv] <;> grind
  | b :: f, c, g, k + 1 => by
    show b * g.getD (k + 1) 0 + cv (f ++ [c]) g k = b * g.getD (k + 1) 0 + cv f g k + _
    rw [cv_snoc f c g k]
    simp only [List.length_cons, Nat.add_le_add_iff_right, Nat.add_sub_add_right]
    grind
theorem cv_take (f g : List Rat) (i k : Nat) (h : i < f.length) : cv (f.take (i + 1)) g k = cv (f.take i) g k + (if i ≤ k then f.getD i 0 * g.getD (k - i) 0 else 0) := by
  rw [List.take_add_one, getD_at h]
  have := cv_snoc (f.take i) (f.getD i 0) g k
  rw [List.length_take, Nat.min_eq_left (by omega)] at this
  exact this
theorem cv_ge {f g : List Rat} {k : Nat} (h : f.length + g.length ≤ k + 1) : cv f g k = 0 := by
  rw [cv_SS]
  refine SS_zero fun i hi => ?_
  by_cases h1 : f.length ≤ i
  · rw [getD_ge h1]; grind
  · rw [getD_ge (f := g) (by omega)]; grind
def cMul (f g : List Rat) : List Rat := (List.range (f.length + g.length)).map (cv f g)
theorem cMul_get (f g : List Rat) (k : Nat) : (cMul f g).getD k 0 = cv f g k := by
  unfold cMul
  rw [getD_range_map]
  split
  · rfl
  · rw [cv_ge (by omega)]
theorem cMul_len (f g : List Rat) : (cMul f g).length = f.length + g.length := by simp [cMul]
def pMul (f g : List Rat) : List Rat := trim (cMul f g)
theorem pMul_get (f g : List Rat) (k : Nat) : (pMul f g).getD k 0 = cv f g k := by rw [pMul, trim_get, cMul_get]
theorem pAdd_get (f g : List Rat) (k : Nat) : (pAdd f g).getD k 0 = f.getD k 0 + g.getD k 0 := by rw [pAdd, trim_get, cAdd_get]
theorem pSub_get (f g : List Rat) (k : Nat) : (pSub f g).getD k 0 = f.getD k 0 - g.getD k 0 := by rw [pSub, trim_get, cSub_get]
theorem pMul_comm (f g : List Rat) : pMul f g = pMul g f := trim_ext fun k => by rw [cMul_get, cMul_get, cv_comm]
theorem pMul_add (f g h : List Rat) : pMul f (pAdd g h) = pAdd (pMul f g) (pMul f h) := trim_ext fun k => by
  rw [cMul_get, cAdd_get, pMul_get, pMul_get, cv_addR (pAdd_get g h)]
theorem pMul_nil (f : List Rat) : pMul f [] = [] := by
  have : pMul f [] = trim [] := trim_ext fun k => by rw [cMul_get, cv_nilR]; rfl
  exact this
theorem pMul_len (f g : List Rat) : (pMul f g).length ≤ f.length + g.length := by
  have := trim_len (cMul f g)
  rw [cMul_len] at this
  exact this
/-- what stands after i rows and j of the next -/
def cvP (f g : List Rat) (i j k : Nat) : Rat := cv (f.take i) g k + (if i ≤ k ∧ k < i + j then f.getD i 0 * g.getD (k - i) 0 else 0)
theorem cvP_row (f g : List Rat) (i k : Nat) (h : i < f.length) : cvP f g i g.length k = cvP f g (i + 1) 0 k := by
  unfold cvP
  rw [cv_take f g i k h, if_neg (show ¬ (i + 1 ≤ k ∧ k < i + 1 + 0) by omega)]
  by_cases h1 : i ≤ k
  · by_cases h2 : k < i + g.length
    · rw [if_pos ⟨h1, h2⟩, if_pos h1]; grind
    · rw [if_neg (by omega), if_pos h1, getD_ge (f := g) (by omega)]; grind
  · rw [if_neg (by omega), if_neg h1]; grind
theorem cvP_zero (f g : List Rat) (k : Nat) : cvP f g 0 0 k = 0 := by
  unfold cvP
  rw [if_neg (by omega)]
  simp [cv] <;> grind
theorem cvP_done (f g : List Rat) (k : Nat) : cvP f g f.length 0 k = cv f g k := by
  unfold cvP
  rw [if_neg (by omega), List.take_length]
  grind
theorem cvP_next (f g : List Rat) (i j k : Nat) : cvP f g i (j + 1) k = cvP f g i j k + (if k = i + j then f.getD i 0 * g.getD j 0 else 0) := by
  unfold cvP
  by_cases h : k = i + j
  · subst h
    rw [if_pos (by omega), if_neg (by omega), if_pos rfl, show i + j - i = j by omega]; grind
  · rw [if_neg h]
    by_cases h2 : i ≤ k ∧ k < i + j
    · rw [if_pos (by omega), if_pos h2]; grind
    · rw [if_neg (by omega), if_neg h2]; grind
theorem cvP_set {f g L : List Rat} {i j : Nat} (hl : i + j < L.length) (h : ∀ k, L.getD k 0 = cvP f g i j k) (k : Nat) : (L.set (i + j) (L.getD (i + j) 0 + f.getD i 0 * g.getD j 0)).getD k 0 = cvP f g i (j + 1) k := by
  rw [cvP_next, List.getD_eq_getElem?_getD]
  by_cases e : k = i + j
  · subst e
    rw [List.getElem?_set_self hl, if_pos rfl, ← h]; rfl
  · rw [List.getElem?_set_ne (fun z => e z.symm), if_neg e, ← List.getD_eq_getElem?_getD, h]; grind
theorem trim_cv {f g L : List Rat} (h : ∀ k, L.getD k 0 = cvP f g f.length 0 k) : trim L = pMul f g := trim_ext fun k => by rw [h, cvP_done, cMul_get]
def pScale (f : List Rat) (a : Rat) : List Rat := trim (f.map (· * a))
theorem pScale_zero (f : List Rat) : pScale f 0 = [] := by
  have : pScale f 0 = trim [] := trim_ext fun k => by
    rw [List.getD_eq_getElem?_getD, List.getElem?_map]
    cases f[k]? with
    | none => rfl
    | some q => show q * 0 = _; simp
  exact this
def ev : List Rat → Rat → Rat
  | [], _ => 0
  | c :: f, a => ev f a * a + c
theorem ev_SS : ∀ (f : List Rat) (a : Rat) (n : Nat), f.length ≤ n → ev f a = SS n (fun k => f.getD k 0 * a ^ k)
  | [], a, n, _ => by
    show (0 : Rat) = _
    rw [SS_zero]; intro i _; simp
  | c :: f, a, 0, h => by simp at h
  | c :: f, a, n + 1, h => by
    rw [SS_front]
    have ih := ev_SS f a n (by simpa using h)
    have : SS n (fun i => (c :: f).getD (i + 1) 0 * a ^ (i + 1)) = a * SS n (fun k => f.getD k 0 * a ^ k) := by
      rw [← SS_mul]
      refine SS_ext fun i _ => ?_
      rw [Rat.pow_succ]
      simp
      grind
    rw [this, ← ih]
    show ev f a * a + c = (c :: f).getD 0 0 * a ^ 0 + a * ev f a
    simp [Rat.pow_zero]
    grind
theorem ev_ext {f g : List Rat} (h : ∀ k, f.getD k 0 = g.getD k 0) (a : Rat) : ev f a = ev g a := by
  rw [ev_SS f a (max f.length g.length) (by omega), ev_SS g a (max f.length g.length) (by omega)]
  exact SS_ext fun k _ => by rw [h]
theorem ev_cv : ∀ (f g : List Rat) (a : Rat) (n : Nat), f.length + g.length ≤ n → SS n (fun k => cv f g k * a ^ k) = ev f a * ev g a
  | [], g, a, n, _ => by
    rw [SS_zero (fun i _ => by simp [cv])]
    simp [ev]
  | c :: f, g, a, 0, h => by simp at h
  | c :: f, g, a, n + 1, h => by
    rw [SS_front]
    have ih := ev_cv f g a n (by simp at h; omega)
    have h1 : SS n (fun i => cv (c :: f) g (i + 1) * a ^ (i + 1)) = c * SS n (fun i => g.getD (i + 1) 0 * a ^ (i + 1)) + a * SS n (fun k => cv f g k * a ^ k) := by
      rw [← SS_mul, ← SS_mul, ← SS_add]
      refine SS_ext fun i _ => ?_
      show (c * g.getD (i + 1) 0 + cv f g i) * a ^ (i + 1) = _
      rw [Rat.pow_succ]
      grind
    have h2 := ev_SS g a (n + 1) (by simp at h; omega)
    rw [SS_front] at h2
    rw [h1, ih]
    show c * g.getD 0 0 * a ^ 0 + _ = (ev f a * a + c) * ev g a
    rw [h2]
    grind
theorem ev_pMul (f g : List Rat) (a : Rat) : ev (pMul f g) a = ev f a * ev g a := by
  rw [ev_SS (pMul f g) a (f.length + g.length) (pMul_len f g), ← ev_cv f g a _ (Nat.le_refl _)]
  exact SS_ext fun k _ => by rw [pMul_get]
theorem ev_drop {f : List Rat} {i : Nat} {a : Rat} (h : i < f.length) : ev (f.drop i) a = ev (f.drop (i + 1)) a * a + f.getD i 0 := by
  rw [List.drop_eq_getElem_cons h]
  show ev (f.drop (i + 1)) a * a + f[i] = _
  rw [List.getD_eq_getElem?_getD, List.getElem?_eq_getElem h]; rfl
/-- n of B bits over D -/
def Dv (D B : Nat) (q : Rat) : Prop := ∃ n : Int, Bt B n ∧ q = Rat.divInt n (D : Int)
theorem cast_ne {D : Nat} (h : 0 < D) : ((D : Int) : Rat) ≠ 0 := fun z => by
  have : (D : Int) = 0 := Rat.intCast_inj.mp (by rw [z]; rfl)
  omega
theorem Dv.mono {D B C : Nat} {q : Rat} (h : Dv D B q) (le : B ≤ C) : Dv D C q := let ⟨n, b, e⟩ := h; ⟨n, b.mono le, e⟩
theorem Dv.zero (D B : Nat) : Dv D B 0 := ⟨0, by unfold Bt; exact Nat.pow_pos (by decide), by simp⟩
theorem di_eq {a b : Int} : Rat.divInt a b = (a : Rat) / (b : Rat) := Rat.divInt_eq_div a b
theorem Dv.add {D B C k : Nat} {q r : Rat} (h : Dv D B q) (g : Dv D C r) (hb : B + 1 ≤ k) (hc : C + 1 ≤ k) : Dv D k (q + r) := by
  obtain ⟨n, b, rfl⟩ := h
  obtain ⟨m, c, rfl⟩ := g
  refine ⟨n + m, (Bt.add b c (k - 1) (by omega) (by omega)).mono (by omega), ?_⟩
  rw [di_eq, di_eq, di_eq]
  have : ((n + m : Int) : Rat) = (n : Rat) + (m : Rat) := by simp
  rw [this]
  grind
theorem Dv.neg {D B : Nat} {q : Rat} (h : Dv D B q) : Dv D B (-q) := by
  obtain ⟨n, b, rfl⟩ := h
  refine ⟨-n, b.neg, ?_⟩
  rw [di_eq, di_eq]
  have : ((-n : Int) : Rat) = -(n : Rat) := by simp
  rw [this]
  grind
theorem Dv.sub {D B C k : Nat} {q r : Rat} (h : Dv D B q) (g : Dv D C r) (hb : B + 1 ≤ k) (hc : C + 1 ≤ k) : Dv D k (q - r) := by
  have := h.add g.neg hb hc
  have e : q - r = q + -r := by grind
  rw [e]; exact this
theorem Dv.mul {D E B C : Nat} {q r : Rat} (h : Dv D B q) (g : Dv E C r) (hD : 0 < D) (hE : 0 < E) : Dv (D * E) (B + C) (q * r) := by
  obtain ⟨n, b, rfl⟩ := h
  obtain ⟨m, c, rfl⟩ := g
  refine ⟨n * m, b.mul c, ?_⟩
  rw [di_eq, di_eq, di_eq]
  have e1 : ((n * m : Int) : Rat) = (n : Rat) * (m : Rat) := by simp
  have e2 : (((D * E : Nat) : Int) : Rat) = ((D : Int) : Rat) * ((E : Int) : Rat) := by rw [Int.natCast_mul, Rat.intCast_mul]
  have h1 := cast_ne hD
  have h2 := cast_ne hE
  rw [e1, e2]
  grind
theorem Dv.one {D : Nat} (h : 0 < D) {A : Nat} (hA : D < 2 ^ A) : Dv D A 1 := ⟨D, Bt.cast hA, by
  rw [di_eq]
  have h1 := cast_ne h
  grind⟩
theorem Dv.wide {D E B A : Nat} {q : Rat} (h : Dv D B q) (hD : 0 < D) (hE : 0 < E) (hA : E < 2 ^ A) : Dv (D * E) (B + A) q := by
  have := h.mul (Dv.one hE hA) hD hE
  rw [Rat.mul_one] at this
  exact this
theorem Dv.sz {D B A n : Nat} {q : Rat} (h : Dv D B q) (hD : 0 < D) (hA : D < 2 ^ A) (h1 : B ≤ n) (h2 : A ≤ n) (h0 : 0 < n) : Sz n q := by
  obtain ⟨m, b, rfl⟩ := h
  exact sz_divInt (b.mono h1) ((Bt.cast hA).mono h2) h0
theorem Dv.of {n : Nat} {q : Rat} (h : Sz n q) : Dv q.den n q := ⟨q.num, h.nu, (Rat.num_divInt_den q).symm⟩
theorem lt_mul {A B D E : Nat} (h : D < 2 ^ A) (g : E < 2 ^ B) : D * E < 2 ^ (A + B) := by
  rw [Nat.pow_add]
  exact Nat.mul_lt_mul_of_lt_of_le h (Nat.le_of_lt g) (Nat.pow_pos (by decide))
/-- all numbers over one bottom of A bits, tops of B bits -/
def Pz (A B : Nat) (f : List Rat) : Prop := ∃ D, 0 < D ∧ D < 2 ^ A ∧ ∀ q ∈ f, Dv D B q
theorem Pz.mono {A B A' B' : Nat} {f : List Rat} (h : Pz A B f) (h1 : A ≤ A') (h2 : B ≤ B') : Pz A' B' f := by
  obtain ⟨D, d0, da, h⟩ := h
  exact ⟨D, d0, Nat.lt_of_lt_of_le da (Nat.pow_le_pow_right (by decide) h1), fun q hq => (h q hq).mono h2⟩
theorem Pz.sz {A B n : Nat} {f : List Rat} (h : Pz A B f) (h1 : A ≤ n) (h2 : B ≤ n) (h0 : 0 < n) : SzA n f := by
  obtain ⟨D, d0, da, h⟩ := h
  exact fun q hq => (h q hq).sz d0 da h2 h1 h0
theorem Pz.trim {A B : Nat} {f : List Rat} (h : Pz A B f) : Pz A B (trim f) := let ⟨D, d0, da, h⟩ := h; ⟨D, d0, da, fun q hq => h q (trim_sub f q hq)⟩
theorem Pz.nil {A B : Nat} (h : 0 < A) : Pz A B [] := ⟨1, by decide, Nat.one_lt_two_pow (by omega), fun q hq => nomatch hq⟩
theorem dv_get {D B : Nat} {f : List Rat} (h : ∀ q ∈ f, Dv D B q) (k : Nat) : Dv D B (f.getD k 0) := by
  rw [List.getD_eq_getElem?_getD]
  cases e : f[k]? with
  | none => exact Dv.zero D B
  | some q => exact h q (List.mem_of_getElem? e)
theorem pz_all {n : Nat} (h0 : 0 < n) : ∀ {f : List Rat}, SzA n f → Pz (n * f.length + 1) (n * f.length + 1) f
  | [], _ => Pz.nil (by omega)
  | c :: f, h => by
    obtain ⟨D, d0, da, hd⟩ := pz_all h0 (f := f) fun q hq => h q (List.mem_cons_of_mem _ hq)
    have hc := h c List.mem_cons_self
    have e : n * (c :: f).length + 1 = (n * f.length + 1) + n := by simp [Nat.mul_add]; omega
    rw [e]
    refine ⟨D * c.den, Nat.mul_pos d0 c.den_pos, lt_mul da hc.de, fun q hq => ?_⟩
    rcases List.mem_cons.mp hq with rfl | hq
    · have := (Dv.of hc).wide q.den_pos d0 da
      rw [Nat.mul_comm]
      exact this.mono (by omega)
    · exact (hd q hq).wide d0 c.den_pos hc.de
theorem Pz.add {A B A' B' : Nat} {f g : List Rat} (h : Pz A B f) (h' : Pz A' B' g) : Pz (A + A') (max (B + A') (B' + A) + 1) (pAdd f g) := by
  obtain ⟨D, d0, da, h⟩ := h
  obtain ⟨E, e0, ea, g'⟩ := h'
  refine ⟨D * E, Nat.mul_pos d0 e0, lt_mul da ea, fun q hq => ?_⟩
  obtain ⟨i, _, rfl⟩ := List.mem_map.mp (trim_sub _ q hq)
  have h2 := (dv_get g' i).wide e0 d0 da
  rw [Nat.mul_comm] at h2
  exact ((dv_get h i).wide d0 e0 ea).add h2 (by omega) (by omega)
theorem Pz.sub {A B A' B' : Nat} {f g : List Rat} (h : Pz A B f) (h' : Pz A' B' g) : Pz (A + A') (max (B + A') (B' + A) + 1) (pSub f g) := by
  obtain ⟨D, d0, da, h⟩ := h
  obtain ⟨E, e0, ea, g'⟩ := h'
  refine ⟨D * E, Nat.mul_pos d0 e0, lt_mul da ea, fun q hq => ?_⟩
  obtain ⟨i, _, rfl⟩ := List.mem_map.mp (trim_sub _ q hq)
  have h2 := (dv_get g' i).wide e0 d0 da
  rw [Nat.mul_comm] at h2
  exact ((dv_get h i).wide d0 e0 ea).sub h2 (by omega) (by omega)
theorem dv_cv {D E B C : Nat} {g : List Rat} (hD : 0 < D) (hE : 0 < E) (hg : ∀ q ∈ g, Dv E C q) : ∀ {f : List Rat}, (∀ q ∈ f, Dv D B q) → ∀ k, Dv (D * E) (B + C + f.length) (cv f g k)
  | [], _, k => Dv.zero _ _
  | c :: f, h, 0 => ((h c List.mem_cons_self).mul (dv_get hg 0) hD hE).mono (by omega)
  | c :: f, h, k + 1 => by
    have ih := dv_cv hD hE hg (f := f) (fun q hq => h q (List.mem_cons_of_mem _ hq)) k
    exact ((h c List.mem_cons_self).mul (dv_get hg (k + 1)) hD hE).add ih (by simp <;> omega) (by simp <;> omega)
theorem Pz.mul {A B A' B' : Nat} {f g : List Rat} (h : Pz A B f) (h' : Pz A' B' g) : Pz (A + A') (B + B' + f.length) (pMul f g) := by
  obtain ⟨D, d0, da, h⟩ := h
  obtain ⟨E, e0, ea, g'⟩ := h'
  refine ⟨D * E, Nat.mul_pos d0 e0, lt_mul da ea, fun q hq => ?_⟩
  obtain ⟨i, _, rfl⟩ := List.mem_map.mp (trim_sub _ q hq)
  exact dv_cv d0 e0 g' h i
theorem Pz.cvP {A B A' B' n : Nat} {f g : List Rat} (h : Pz A B f) (h' : Pz A' B' g) (hn : A + A' ≤ n) (hb : B + B' + f.length + 1 ≤ n) (i j k : Nat) : Sz n (cvP f g i j k) := by
  obtain ⟨D, d0, da, h⟩ := h
  obtain ⟨E, e0, ea, g'⟩ := h'
  have h1 := dv_cv d0 e0 g' (f := f.take i) (fun q hq => h q (List.mem_of_mem_take hq)) k
  have h2 : Dv (D * E) (B + B') (if i ≤ k ∧ k < i + j then f.getD i 0 * g.getD (k - i) 0 else 0) := by
    split
    · exact (dv_get h i).mul (dv_get g' (k - i)) d0 e0
    · exact Dv.zero _ _
  have hl : (f.take i).length ≤ f.length := by rw [List.length_take]; omega
  exact (h1.add h2 (k := n) (by omega) (by omega)).sz (Nat.mul_pos d0 e0) (lt_mul da ea) (Nat.le_refl _) hn (by omega)
theorem Pz.get {A B : Nat} {f : List Rat} (h : Pz A B f) (n : Nat) (h1 : A ≤ n) (h2 : B ≤ n) (h0 : 0 < n) (k : Nat) : Sz n (f.getD k 0) := (h.sz h1 h2 h0).get h0 k
/-- Horner's way: what stands behind i numbers -/
theorem dv_ev {D B A m : Nat} {a : Rat} (hD : 0 < D) (hA : D < 2 ^ A) (ha : Sz m a) : ∀ {f : List Rat}, (∀ q ∈ f, Dv D B q) → Dv (D * a.den ^ f.length) (B + (m + 1) * f.length) (ev f a)
  | [], _ => Dv.zero _ _
  | c :: f, h => by
    have ih := dv_ev hD hA ha (f := f) fun q hq => h q (List.mem_cons_of_mem _ hq)
    have dp : 0 < a.den ^ f.length := Nat.pow_pos a.den_pos
    have dp1 : 0 < a.den ^ (f.length + 1) := Nat.pow_pos a.den_pos
    have e1 := ih.mul (Dv.of ha) (Nat.mul_pos hD dp) a.den_pos
    rw [Nat.mul_assoc, ← Nat.pow_succ] at e1
    have lp : a.den ^ (f.length + 1) < 2 ^ (m * (f.length + 1)) := by
      rw [Nat.pow_mul]
      exact Nat.pow_lt_pow_left ha.de (by omega)
    have e2 := (h c List.mem_cons_self).wide hD dp1 lp
    have e3 : (c :: f).length = f.length + 1 := rfl
    rw [e3]
    refine e1.add e2 ?_ ?_
    · rw [Nat.mul_add]; omega
    · have : (m + 1) * (f.length + 1) = m * (f.length + 1) + (f.length + 1) := by rw [Nat.add_mul, Nat.one_mul]
      omega
theorem Pz.ev {A B m n : Nat} {a : Rat} {f : List Rat} (h : Pz A B f) (ha : Sz m a) (h1 : A + m * f.length ≤ n) (h2 : B + (m + 1) * f.length ≤ n) (h0 : 0 < n) : Sz n (ev f a) := by
  obtain ⟨D, d0, da, h⟩ := h
  have e1 := dv_ev d0 da ha h
  by_cases hf : f.length = 0
  · rw [List.length_eq_zero_iff.mp hf]; exact sz0 h0
  have lp : a.den ^ f.length < 2 ^ (m * f.length) := by
    rw [Nat.pow_mul]
    exact Nat.pow_lt_pow_left ha.de hf
  exact e1.sz (Nat.mul_pos d0 (Nat.pow_pos a.den_pos)) (lt_mul da lp) h2 h1 h0
theorem Pz.drop {A B : Nat} {f : List Rat} (h : Pz A B f) (i : Nat) : Pz A B (f.drop i) := let ⟨D, d0, da, h⟩ := h; ⟨D, d0, da, fun q hq => h q (List.mem_of_mem_drop hq)⟩
theorem Pz.take {A B : Nat} {f : List Rat} (h : Pz A B f) (i : Nat) : Pz A B (f.take i) := let ⟨D, d0, da, h⟩ := h; ⟨D, d0, da, fun q hq => h q (List.mem_of_mem_take hq)⟩
/-- the powers' way -/
theorem sz_pow {m : Nat} {a : Rat} (ha : Sz m a) : ∀ k : Nat, Sz (m * k + 1) (a ^ k)
  | 0 => by
    rw [Rat.pow_zero]
    exact ⟨show (1 : Int).natAbs < 2 ^ 1 by decide, show 1 < 2 ^ 1 by decide⟩
  | k + 1 => by
    rw [Rat.pow_succ]
    exact sz_mul (sz_pow ha k) ha (by omega) (by rw [Nat.mul_add]; omega)
/-- the sum of the first i numbers times powers -/
def evT (f : List Rat) (a : Rat) (i : Nat) : Rat := SS i (fun k => f.getD k 0 * a ^ k)
theorem evT_all (f : List Rat) (a : Rat) : evT f a f.length = ev f a := (ev_SS f a f.length (Nat.le_refl _)).symm
theorem dv_pow {m : Nat} {a : Rat} (ha : Sz m a) : ∀ k : Nat, Dv (a.den ^ k) (m * k + 1) (a ^ k)
  | 0 => by
    rw [Rat.pow_zero]
    exact Dv.one (by rw [Nat.pow_zero]; decide) (by rw [Nat.pow_zero, Nat.mul_zero]; decide)
  | k + 1 => by
    rw [Rat.pow_succ, Nat.pow_succ]
    exact ((dv_pow ha k).mul (Dv.of ha) (Nat.pow_pos a.den_pos) a.den_pos).mono (by rw [Nat.mul_add]; omega)
theorem dv_evT {D B m : Nat} {a : Rat} {f : List Rat} (hD : 0 < D) (ha : Sz m a) (h : ∀ q ∈ f, Dv D B q) : ∀ i : Nat, Dv (D * a.den ^ i) (B + (m + 2) * i + 1) (evT f a i)
  | 0 => Dv.zero _ _
  | i + 1 => by
    have e1 := (dv_evT hD ha h i).wide (Nat.mul_pos hD (Nat.pow_pos a.den_pos)) a.den_pos ha.de
    rw [Nat.mul_assoc, ← Nat.pow_succ] at e1
    have e2 := ((dv_get h i).mul (dv_pow ha i) hD (Nat.pow_pos a.den_pos)).wide (Nat.mul_pos hD (Nat.pow_pos a.den_pos)) a.den_pos ha.de
    rw [Nat.mul_assoc, ← Nat.pow_succ] at e2
    have e3 : (m + 2) * (i + 1) = m * i + m + 2 * i + 2 := by rw [Nat.mul_add, Nat.add_mul]; omega
    have e4 : (m + 2) * i = m * i + 2 * i := Nat.add_mul ..
    exact e1.add e2 (by omega) (by omega)
theorem Pz.evT {A B m n : Nat} {a : Rat} {f : List Rat} (h : Pz A B f) (ha : Sz m a) (i : Nat) (h1 : A + m * i + 1 ≤ n) (h2 : B + (m + 2) * i + 1 ≤ n) : Sz n (evT f a i) := by
  obtain ⟨D, d0, da, h⟩ := h
  have lp : a.den ^ i < 2 ^ (m * i + 1) := by
    rw [Nat.pow_succ, Nat.pow_mul]
    have : a.den ^ i ≤ (2 ^ m) ^ i := Nat.pow_le_pow_left (Nat.le_of_lt ha.de) i
    have : 0 < (2 ^ m) ^ i := Nat.pow_pos (Nat.pow_pos (by decide))
    omega
  exact (dv_evT d0 ha h i).sz (Nat.mul_pos d0 (Nat.pow_pos a.den_pos)) (lt_mul da lp) h2 h1 (by omega)
/-- tops and bottom of at most C bits -/
abbrev Pc (C : Nat) (f : List Rat) : Prop := Pz C C f
theorem mul_le' {m a b : Nat} (h : a ≤ b) : m * a ≤ m * b := Nat.mul_le_mul_left m h
theorem Pz.evd {C m n : Nat} {a : Rat} {f : List Rat} (h : Pc C f) (ha : Sz m a) (hn : C + (m + 1) * f.length ≤ n) (h0 : 0 < n) (i : Nat) : Sz n (Mf.ev (f.drop i) a) := by
  have hl : (f.drop i).length ≤ f.length := by rw [List.length_drop]; omega
  have h1 := mul_le' (m := m + 1) hl
  have h2 : m * (f.drop i).length ≤ (m + 1) * (f.drop i).length := Nat.mul_le_mul_right _ (by omega)
  exact (h.drop i).ev ha (by omega) (by omega) h0
theorem Pz.evt {C m n : Nat} {a : Rat} {f : List Rat} (h : Pc C f) (ha : Sz m a) (hn : C + (m + 2) * f.length + 1 ≤ n) {i : Nat} (hi : i ≤ f.length) : Sz n (Mf.evT f a i) := by
  have h1 := mul_le' (m := m + 2) hi
  have h2 : m * i ≤ (m + 2) * i := Nat.mul_le_mul_right _ (by omega)
  exact h.evT ha i (by omega) (by omega)
theorem pow_szle {m n : Nat} {a : Rat} (ha : Sz m a) {k l : Nat} (h : k ≤ l) (hn : m * l + 1 ≤ n) : Sz n (a ^ k) := by
  have h1 : m * k ≤ m * l := Nat.mul_le_mul_left m h
  exact (sz_pow ha k).mono (by omega)
theorem frs_set (L : List Rat) (m : Nat) (q : Rat) : (dFrs L).set m (dFr q) = dFrs (L.set m q) := List.map_set.symm
theorem ixN_at {n m : Nat} {k : Int} (hk : k = (m : Int)) (h : m < n) : L2.ixN n k = some m := hk ▸ Evl.ixN_nat h
theorem rep_get (n k : Nat) : (List.replicate n (0 : Rat)).getD k 0 = 0 := by
  rw [List.getD_eq_getElem?_getD, List.getElem?_replicate]
  split <;> rfl
theorem rev_some {f : List Rat} {i : Nat} {d : D} (h : (dFrs f).reverse[i]? = some d) : i < f.length ∧ d = dFr (f.getD (f.length - 1 - i) 0) := by
  have hi : i < (dFrs f).length := by
    have := (List.getElem?_eq_some_iff.mp h).1
    simpa using this
  rw [List.getElem?_reverse hi] at h
  rw [List.getElem?_map] at h
  simp only [List.length_map] at hi h
  obtain ⟨x, hx, rfl⟩ := Option.map_eq_some_iff.mp h
  refine ⟨hi, ?_⟩
  rw [List.getD_eq_getElem?_getD, hx]; rfl
theorem frs_some {f : List Rat} {i : Nat} {d : D} (h : (dFrs f)[i]? = some d) : i < f.length ∧ d = dFr (f.getD i 0) := by
  rw [List.getElem?_map] at h
  obtain ⟨x, hx, rfl⟩ := Option.map_eq_some_iff.mp h
  refine ⟨(List.getElem?_eq_some_iff.mp hx).1, ?_⟩
  rw [List.getD_eq_getElem?_getD, hx]; rfl
theorem rep_frs {n m : Nat} (h : m = n) : List.replicate m (dFr 0) = dFrs (List.replicate n 0) := by subst h; simp
theorem cross {t b : Int} (h : b ≠ 0) : (Rat.divInt t b).num * b = t * ((Rat.divInt t b).den : Int) := by
  have e := Rat.num_divInt_den (Rat.divInt t b)
  exact (Rat.divInt_eq_divInt_iff (den_ne _) h).mp e
theorem cross' {t b : Int} {x : Rat} (h : b ≠ 0) (e : Rat.divInt t b = x) : x.num * b = t * (x.den : Int) := e ▸ cross h
end Mf

namespace Mf
open PySem Hf
/-- numbers in a row -/
@[ext] structure PS where
  c : Nat → Rat
def mulC : (Nat → Rat) → (Nat → Rat) → Nat → Rat
  | f, g, 0 => f 0 * g 0
  | f, g, k + 1 => f 0 * g (k + 1) + mulC (fun i => f (i + 1)) g k
theorem mulC_SS : ∀ (f g : Nat → Rat) (k : Nat), mulC f g k = SS (k + 1) (fun i => f i * g (k - i))
  | f, g, 0 => by
    show f 0 * g 0 = SS 0 _ + _
    simp [SS] <;> grind
  | f, g, k + 1 => by
    rw [SS_front]
    show f 0 * g (k + 1) + mulC (fun i => f (i + 1)) g k = _
    rw [mulC_SS _ g k]
    have : SS (k + 1) (fun i => f (i + 1) * g (k - i)) = SS (k + 1) (fun i => f (i + 1) * g (k + 1 - (i + 1))) := SS_ext fun i _ => by
      rw [show k + 1 - (i + 1) = k - i by omega]
    rw [this]
    simp
theorem mulC_comm (f g : Nat → Rat) (k : Nat) : mulC f g k = mulC g f k := by
  rw [mulC_SS, mulC_SS, SS_rev]
  refine SS_ext fun i hi => ?_
  rw [show k - (k - i) = i by omega]
  exact Rat.mul_comm _ _
theorem mulC_lin (a : Rat) (f f' g : Nat → Rat) : ∀ k : Nat, mulC (fun i => a * f i + f' i) g k = a * mulC f g k + mulC f' g k
  | 0 => by
    show (a * f 0 + f' 0) * g 0 = a * (f 0 * g 0) + f' 0 * g 0
    grind
  | k + 1 => by
    show (a * f 0 + f' 0) * g (k + 1) + mulC (fun i => a * f (i + 1) + f' (i + 1)) g k = a * (f 0 * g (k + 1) + mulC (fun i => f (i + 1)) g k) + (f' 0 * g (k + 1) + mulC (fun i => f' (i + 1)) g k)
    rw [mulC_lin a (fun i => f (i + 1)) (fun i => f' (i + 1)) g k]
    grind
theorem mulC_assoc : ∀ (f g h : Nat → Rat) (k : Nat), mulC (mulC f g) h k = mulC f (mulC g h) k
  | f, g, h, 0 => by
    show f 0 * g 0 * h 0 = f 0 * (g 0 * h 0)
    grind
  | f, g, h, k + 1 => by
    show f 0 * g 0 * h (k + 1) + mulC (fun i => f 0 * g (i + 1) + mulC (fun i => f (i + 1)) g i) h k = f 0 * (g 0 * h (k + 1) + mulC (fun i => g (i + 1)) h k) + mulC (fun i => f (i + 1)) (mulC g h) k
    rw [mulC_lin (f 0) (fun i => g (i + 1)) (mulC (fun i => f (i + 1)) g) h k, mulC_assoc (fun i => f (i + 1)) g h k]
    grind
theorem mulC_zero (g : Nat → Rat) : ∀ k : Nat, mulC (fun _ => 0) g k = 0
  | 0 => by show (0 : Rat) * g 0 = 0; grind
  | k + 1 => by
    show 0 * g (k + 1) + mulC (fun _ => 0) g k = 0
    rw [mulC_zero g k]; grind
theorem mulC_one (g : Nat → Rat) : ∀ k : Nat, mulC (fun i => if i = 0 then 1 else 0) g k = g k
  | 0 => by show (1 : Rat) * g 0 = g 0; grind
  | k + 1 => by
    show 1 * g (k + 1) + mulC (fun i => if i + 1 = 0 then 1 else 0) g k = g (k + 1)
    have : (fun i : Nat => if i + 1 = 0 then (1 : Rat) else 0) = fun _ => 0 := by funext i; simp
    rw [this, mulC_zero]; grind
theorem mulC_addR (f g h : Nat → Rat) (k : Nat) : mulC f (fun i => g i + h i) k = mulC f g k + mulC f h k := by
  rw [mulC_comm, mulC_comm f g, mulC_comm f h]
  have := mulC_lin 1 g h f k
  have e : (fun i => 1 * g i + h i) = fun i => g i + h i := by funext i; grind
  rw [e] at this
  rw [this]; grind
instance : Add PS := ⟨fun f g => ⟨fun k => f.c k + g.c k⟩⟩
instance : Mul PS := ⟨fun f g => ⟨mulC f.c g.c⟩⟩
instance : Neg PS := ⟨fun f => ⟨fun k => -f.c k⟩⟩
instance : Sub PS := ⟨fun f g => ⟨fun k => f.c k - g.c k⟩⟩
def cP (a : Rat) : PS := ⟨fun k => if k = 0 then a else 0⟩
def npowP (f : PS) : Nat → PS
  | 0 => cP 1
  | n + 1 => npowP f n * f
instance : Pow PS Nat := ⟨npowP⟩
instance : NatCast PS := ⟨fun n => cP n⟩
instance (n : Nat) : OfNat PS n := ⟨cP n⟩
instance : IntCast PS := ⟨fun n => cP n⟩
instance : SMul Nat PS := ⟨fun n f => cP n * f⟩
instance : SMul Int PS := ⟨fun n f => cP n * f⟩
theorem add_c (f g : PS) (k : Nat) : (f + g).c k = f.c k + g.c k := rfl
theorem sub_c (f g : PS) (k : Nat) : (f - g).c k = f.c k - g.c k := rfl
theorem neg_c (f : PS) (k : Nat) : (-f).c k = -f.c k := rfl
theorem mul_c (f g : PS) (k : Nat) : (f * g).c k = mulC f.c g.c k := rfl
theorem cP_c (a : Rat) (k : Nat) : (cP a).c k = if k = 0 then a else 0 := rfl
theorem mul_comm' (f g : PS) : f * g = g * f := PS.ext (funext fun k => mulC_comm f.c g.c k)
theorem mul_assoc' (f g h : PS) : f * g * h = f * (g * h) := PS.ext (funext fun k => mulC_assoc f.c g.c h.c k)
theorem mul_one' (f : PS) : f * cP 1 = f := by rw [mul_comm']; exact PS.ext (funext fun k => mulC_one f.c k)
theorem mul_add' (f g h : PS) : f * (g + h) = f * g + f * h := PS.ext (funext fun k => mulC_addR f.c g.c h.c k)
theorem cP_zero_c (k : Nat) : (cP 0).c k = 0 := by rw [cP_c]; split <;> rfl
theorem zero_mul' (f : PS) : cP 0 * f = cP 0 := PS.ext (funext fun k => by
  rw [mul_c, cP_zero_c]
  have : (cP 0).c = fun _ => 0 := funext fun k => cP_zero_c k
  rw [this, mulC_zero])
theorem cP_add (a b : Rat) : cP (a + b) = cP a + cP b := PS.ext (funext fun k => by
  rw [add_c, cP_c, cP_c, cP_c]; split <;> grind)
theorem cP_neg (a : Rat) : cP (-a) = -cP a := PS.ext (funext fun k => by
  rw [neg_c, cP_c, cP_c]; split <;> grind)
theorem cP_mul_c (a : Rat) (f : PS) (k : Nat) : (cP a * f).c k = a * f.c k := by
  rw [mul_c]
  have : (cP a).c = fun i => a * (if i = 0 then 1 else 0) + 0 := funext fun k => by rw [cP_c]; split <;> grind
  rw [this, mulC_lin a (fun i => if i = 0 then 1 else 0) (fun _ => 0) f.c k, mulC_one, mulC_zero]; grind
theorem cP_mul (a b : Rat) : cP (a * b) = cP a * cP b := PS.ext (funext fun k => by
  rw [cP_mul_c, cP_c, cP_c]; split <;> grind)
instance : Lean.Grind.CommRing PS where
  nsmul := ⟨fun n f => cP n * f⟩
  zsmul := ⟨fun n f => cP n * f⟩
  add_zero f := PS.ext (funext fun k => by show f.c k + (cP 0).c k = _; rw [cP_zero_c]; grind)
  add_comm f g := PS.ext (funext fun k => by show f.c k + g.c k = g.c k + f.c k; grind)
  add_assoc f g h := PS.ext (funext fun k => by show f.c k + g.c k + h.c k = f.c k + (g.c k + h.c k); grind)
  mul_assoc := mul_assoc'
  mul_one f := mul_one' f
  one_mul f := by show cP 1 * f = f; rw [mul_comm']; exact mul_one' f
  left_distrib := mul_add'
  right_distrib f g h := by rw [mul_comm', mul_add', mul_comm' h f, mul_comm' h g]
  zero_mul f := zero_mul' f
  mul_zero f := by show f * cP 0 = cP 0; rw [mul_comm']; exact zero_mul' f
  pow_zero f := rfl
  pow_succ f n := rfl
  neg_add_cancel f := PS.ext (funext fun k => by show -f.c k + f.c k = (cP 0).c k; rw [cP_zero_c]; grind)
  sub_eq_add_neg f g := PS.ext (funext fun k => by show f.c k - g.c k = f.c k + -g.c k; grind)
  mul_comm := mul_comm'
  ofNat_succ n := by show cP ((n + 1 : Nat) : Rat) = cP (n : Rat) + cP ((1 : Nat) : Rat); rw [← cP_add]; congr 1 <;> simp
  ofNat_eq_natCast n := rfl
  nsmul_eq_natCast_mul n f := rfl
  intCast_ofNat n := by show cP (((n : Nat) : Int) : Rat) = cP (n : Rat); rfl
  intCast_neg n := by show cP ((-n : Int) : Rat) = -cP (n : Rat); rw [← cP_neg]; congr 1 <;> simp
  zsmul_natCast_eq_nsmul n f := rfl
  neg_zsmul n f := by
    show cP ((-n : Int) : Rat) * f = -(cP (n : Rat) * f)
    refine PS.ext (funext fun k => ?_)
    rw [neg_c, cP_mul_c, cP_mul_c]
    have : ((-n : Int) : Rat) = -(n : Rat) := by simp
    rw [this]; grind
example (a b c d s q : PS) : (s * a - q * c) * b - a * (s * b - q * d) = q * (a * d - c * b) := by grind
def ph (f : List Rat) : PS := ⟨fun k => f.getD k 0⟩
theorem ph_c (f : List Rat) (k : Nat) : (ph f).c k = f.getD k 0 := rfl
theorem ph_trim (f : List Rat) : ph (trim f) = ph f := PS.ext (funext fun k => trim_get f k)
theorem ph_inj {f g : List Rat} (hf : trim f = f) (hg : trim g = g) (h : ph f = ph g) : f = g := by
  rw [← hf, ← hg]
  exact trim_ext fun k => congrArg (fun p : PS => p.c k) h
theorem cv_mulC : ∀ (f g : List Rat) (k : Nat), cv f g k = mulC (fun i => f.getD i 0) (fun i => g.getD i 0) k := fun f g k => by rw [cv_SS, mulC_SS]
theorem ph_mul (f g : List Rat) : ph (pMul f g) = ph f * ph g := PS.ext (funext fun k => by rw [ph_c, pMul_get, cv_mulC]; rfl)
theorem ph_add (f g : List Rat) : ph (pAdd f g) = ph f + ph g := PS.ext (funext fun k => by rw [ph_c, pAdd_get]; rfl)
theorem ph_sub (f g : List Rat) : ph (pSub f g) = ph f - ph g := PS.ext (funext fun k => by rw [ph_c, pSub_get]; rfl)
theorem ph_nil : ph [] = cP 0 := PS.ext (funext fun k => by rw [ph_c, cP_zero_c]; rfl)
theorem ph_one (a : Rat) : ph [a] = cP a := PS.ext (funext fun k => by
  rw [ph_c, cP_c]
  cases k with
  | zero => rfl
  | succ k => rfl)
theorem ph_scale (f : List Rat) (a : Rat) : ph (pScale f a) = cP a * ph f := PS.ext (funext fun k => by
  rw [cP_mul_c, ph_c, pScale, trim_get, ph_c, List.getD_eq_getElem?_getD, List.getElem?_map, List.getD_eq_getElem?_getD]
  cases f[k]? <;> simp <;> grind)
/-- the letter -/
def xP : PS := ⟨fun k => if k = 1 then 1 else 0⟩
theorem xP_mul_0 (f : PS) : (xP * f).c 0 = 0 := by
  show xP.c 0 * f.c 0 = 0
  show (0 : Rat) * f.c 0 = 0
  grind
theorem xP_mul_s (f : PS) (k : Nat) : (xP * f).c (k + 1) = f.c k := by
  show xP.c 0 * f.c (k + 1) + mulC (fun i => xP.c (i + 1)) f.c k = f.c k
  have e : (fun i => xP.c (i + 1)) = fun i : Nat => if i = 0 then (1 : Rat) else 0 := by funext i; show (if i + 1 = 1 then (1 : Rat) else 0) = _; simp
  rw [e, mulC_one]
  show (0 : Rat) * f.c (k + 1) + f.c k = f.c k
  grind
theorem ph_cons (a : Rat) (f : List Rat) : ph (a :: f) = cP a + xP * ph f := PS.ext (funext fun k => by
  rw [add_c, cP_c]
  cases k with
  | zero => rw [xP_mul_0]; simp [ph_c]; grind
  | succ k => rw [xP_mul_s]; simp [ph_c]; grind)
theorem cP1 : cP 1 = (1 : PS) := rfl
theorem cP0 : cP 0 = (0 : PS) := rfl
theorem ph_rep (n : Nat) (f : List Rat) : ph (List.replicate n 0 ++ f) = xP ^ n * ph f := by
  induction n with
  | zero => simp only [List.replicate_zero, List.nil_append]; grind
  | succ n ih =>
    rw [List.replicate_succ, List.cons_append, ph_cons, ih, cP0]
    grind
/-- nothing from n on -/
theorem trim_short {f : List Rat} {n : Nat} (h : ∀ k, n ≤ k → f.getD k 0 = 0) : (trim f).length ≤ n := by
  have e : trim f = trim (f.take n) := trim_ext fun k => by
    by_cases hk : k < n
    · rw [List.getD_eq_getElem?_getD, List.getD_eq_getElem?_getD, List.getElem?_take, if_pos hk]
    · rw [h k (by omega), getD_ge (f := f.take n) (by rw [List.length_take]; omega)]
  rw [e]
  refine Nat.le_trans (trim_len _) ?_
  rw [List.length_take]
  omega
theorem pMul_short {f g : List Rat} {m n l : Nat} (hf : f.length ≤ m) (hg : g.length ≤ n) (h : m + n ≤ l + 1) : (pMul f g).length ≤ l := trim_short fun k hk => by rw [cMul_get, cv_ge (by omega)]
theorem pSub_short {f g : List Rat} {l : Nat} (hf : f.length ≤ l) (hg : g.length ≤ l) : (pSub f g).length ≤ l := by
  refine Nat.le_trans (trim_len _) ?_
  rw [cSub_len]; omega
/-- p0, p1, and step n times the near one less square n times the one behind -/
def sq (p0 p1 : List Rat) (st sr : Nat → List Rat) : Nat → List Rat
  | 0 => p0
  | 1 => p1
  | n + 2 => pSub (pMul (st (n + 1)) (sq p0 p1 st sr (n + 1))) (pMul (sr (n + 1)) (sq p0 p1 st sr n))
theorem sq_trim {p0 p1 : List Rat} {st sr : Nat → List Rat} (h0 : trim p0 = p0) (h1 : trim p1 = p1) : ∀ n, trim (sq p0 p1 st sr n) = sq p0 p1 st sr n
  | 0 => h0
  | 1 => h1
  | n + 2 => trim_trim _
def fibC : Nat → Nat
  | 0 => 21
  | 1 => 21
  | n + 2 => fibC (n + 1) + fibC n + 44
theorem sq_pc {p0 p1 : List Rat} {st sr : Nat → List Rat} (h0 : Pc 21 p0) (h1 : Pc 21 p1) {m : Nat} (hs : ∀ n, n < m → Pc 20 (st n) ∧ (st n).length ≤ 2 ∧ Pc 20 (sr n) ∧ (sr n).length ≤ 3) : ∀ n, n ≤ m → Pc (fibC n) (sq p0 p1 st sr n)
  | 0, _ => h0
  | 1, _ => h1
  | n + 2, hn => by
    obtain ⟨a1, a2, a3, a4⟩ := hs (n + 1) (by omega)
    have b1 := a1.mul (sq_pc h0 h1 hs (n + 1) (by omega))
    have b2 := a3.mul (sq_pc h0 h1 hs n (by omega))
    refine (b1.sub b2).mono ?_ ?_
    · show _ ≤ fibC (n + 1) + fibC n + 44; omega
    · show _ ≤ fibC (n + 1) + fibC n + 44; omega
theorem sq_len {p0 p1 : List Rat} {st sr : Nat → List Rat} {j : Nat} (h0 : p0.length ≤ j) (h1 : p1.length ≤ j + 1) {m : Nat} (hs : ∀ n, n < m → (st n).length ≤ 2 ∧ (sr n).length ≤ 3) : ∀ n, n ≤ m → (sq p0 p1 st sr n).length ≤ n + j
  | 0, _ => by show p0.length ≤ _; omega
  | 1, _ => by show p1.length ≤ _; omega
  | n + 2, hn => by
    obtain ⟨a2, a4⟩ := hs (n + 1) (by omega)
    have b1 := sq_len h0 h1 hs (n + 1) (by omega)
    have b2 := sq_len h0 h1 hs n (by omega)
    exact pSub_short (pMul_short a2 b1 (by omega)) (pMul_short a4 b2 (by omega))
theorem sq_ph {p0 p1 : List Rat} {st sr : Nat → List Rat} (n : Nat) : ph (sq p0 p1 st sr (n + 2)) = ph (st (n + 1)) * ph (sq p0 p1 st sr (n + 1)) - ph (sr (n + 1)) * ph (sq p0 p1 st sr n) := by
  show ph (pSub _ _) = _
  rw [ph_sub, ph_mul, ph_mul]
end Mf

namespace Mf
open PySem Hf
def vSt1 (ns : List Int) (k : Int) : Int :=
  (vCell ns k % 618970019642690137449562111 * 48271 + k * k * 7919 + k + 1) % 618970019642690137449562111 * 413338662677311947023157 % 618970019642690137449562111 * 282475249 % 618970019642690137449562111
def vStN (ns : List Int) (n : Nat) : List Int := (List.range n).map fun k : Nat => vSt1 ns (k : Int)
def vStC (ns : List Int) : List Int := vStN ns (max ns.length 24)
theorem vStC_len (ns : List Int) : 24 ≤ (vStC ns).length := by simp [vStC, vStN]; omega
theorem vSt1_bd (ns : List Int) (k : Int) : 0 ≤ vSt1 ns k ∧ vSt1 ns k < 618970019642690137449562111 := ⟨Int.emod_nonneg _ (by decide), Int.emod_lt_of_pos _ (by decide)⟩
theorem vStC_bd (ns : List Int) (i : Nat) : 0 ≤ (vStC ns).getD i 0 ∧ (vStC ns).getD i 0 < 618970019642690137449562111 := by
  rw [List.getD_eq_getElem?_getD, vStC, vStN, List.getElem?_map]
  cases h : (List.range (max ns.length 24))[i]? with
  | none => exact ⟨Int.le_refl 0, show (0 : Int) < _ by decide⟩
  | some j => exact vSt1_bd ns _
theorem at_intsG {xs : List Int} {k : Int} {n : Nat} (hk : k = (n : Int)) (hn : n < xs.length) : L2.atI (xs.map PyData.int) k = some (.int (xs.getD n 0)) :=
  at_ints hk (by rw [List.getD_eq_getElem?_getD, List.getElem?_eq_getElem hn]; rfl)
def vFr (c kd : Int) : Rat :=
  if c % 6 = 5 ∧ kd % 2 = 1 then 0
  else if kd / 2 % 3 = 1 then Rat.divInt (c / 6 % 1999 - 999) (1 + c / 11994 % 12)
  else if kd / 2 % 6 = 2 then Rat.divInt (c / 6 % 1999999 - 999999) (1 + c / 7 % 12)
  else ((c / 6 % 9 - 3 : Int) : Rat)
theorem vFr_sz (c kd : Int) : Sz 20 (vFr c kd) := by
  unfold vFr
  split
  · exact sz0 (by decide)
  · split
    · exact sz_divInt (by unfold Bt; omega) (by unfold Bt; omega) (by decide)
    · split
      · exact sz_divInt (by unfold Bt; omega) (by unfold Bt; omega) (by decide)
      · exact sz_int (by unfold Bt; omega) (by decide)
def wAll (cs : List Int) (k : Nat) (kd : Int) : List Rat := (List.range (2 * k + 1)).map fun j => vFr (cs.getD j 0) kd
def wLv (cs : List Int) (k : Nat) (kd : Int) : List Rat := (wAll cs k kd).take (k + 1)
def wDn (cs : List Int) (k : Nat) (kd : Int) : List Rat := (wAll cs k kd).drop (k + 1)
theorem wAll_len (cs : List Int) (k : Nat) (kd : Int) : (wAll cs k kd).length = 2 * k + 1 := by simp [wAll]
theorem wLv_len (cs : List Int) (k : Nat) (kd : Int) : (wLv cs k kd).length = k + 1 := by simp [wLv, wAll_len]; omega
theorem wDn_len (cs : List Int) (k : Nat) (kd : Int) : (wDn cs k kd).length = k := by simp [wDn, wAll_len]; omega
theorem wAll_sz (cs : List Int) (k : Nat) (kd : Int) : SzA 20 (wAll cs k kd) := fun q hq => by
  obtain ⟨j, _, rfl⟩ := List.mem_map.mp hq
  exact vFr_sz _ _
theorem wLv_sz (cs : List Int) (k : Nat) (kd : Int) : SzA 20 (wLv cs k kd) := fun q hq => wAll_sz cs k kd q (List.mem_of_mem_take hq)
theorem wDn_sz (cs : List Int) (k : Nat) (kd : Int) : SzA 20 (wDn cs k kd) := fun q hq => wAll_sz cs k kd q (List.mem_of_mem_drop hq)
abbrev dWt (l d : List Rat) : D := .tuple [dPo l, dPo d]
theorem get_rng {F : Nat → D} {n m : Nat} {k : Int} (hk : k = (m : Int)) (h : m < n) : L2.atI ((List.range n).map F) k = some (F m) := at_map hk (List.getElem?_range h)
theorem pc_two {n : Nat} {q : Rat} (h : Sz n q) : Pc n [1, 0 - q] := ⟨q.den, q.den_pos, h.de, fun r hr => by
  rcases List.mem_cons.mp hr with rfl | hr
  · exact Dv.one q.den_pos h.de
  · rw [List.mem_singleton.mp hr]
    have := (Dv.of h).neg
    have e : (0 : Rat) - q = -q := by grind
    rw [e]; exact this⟩
theorem pc_rev2 {n : Nat} {q : Rat} (h : Sz n q) : Pc n [0 - q, 1] := by
  obtain ⟨D, a, b, c⟩ := pc_two h
  exact ⟨D, a, b, fun r hr => c r (by simp at hr ⊢; rcases hr with h | h <;> simp [h])⟩
theorem pc_sq {n : Nat} {q : Rat} (h : Sz n q) : Pc n [0, 0, q] := ⟨q.den, q.den_pos, h.de, fun r hr => by
  simp only [List.mem_cons, List.not_mem_nil, or_false] at hr
  rcases hr with rfl | rfl | rfl
  · exact Dv.zero _ _
  · exact Dv.zero _ _
  · exact Dv.of h⟩
theorem pc_c {n : Nat} {q : Rat} (h : Sz n q) : Pc n [q] := ⟨q.den, q.den_pos, h.de, fun r hr => by
  rw [List.mem_singleton.mp hr]; exact Dv.of h⟩
theorem pc_1 {n : Nat} (h : 0 < n) : Pc n [1] := ⟨1, by decide, Nat.one_lt_two_pow (by omega), fun r hr => by
  rw [List.mem_singleton.mp hr]; exact Dv.one (by decide) (Nat.one_lt_two_pow (by omega))⟩
def uS (lv : List Rat) (n : Nat) : List Rat := trim [1, 0 - lv.getD n 0]
def uQ (dn : List Rat) (n : Nat) : List Rat := trim [0, 0, dn.getD (n - 1) 0]
def eT (lv dn : List Rat) : Nat → List Rat := sq [] [1] (uS lv) (uQ dn)
def eB (lv dn : List Rat) : Nat → List Rat := sq [1] (uS lv 0) (uS lv) (uQ dn)
section
variable {lv dn : List Rat} (hl : SzA 20 lv) (hd : SzA 20 dn)
theorem uS_len (lv : List Rat) (n : Nat) : (uS lv n).length ≤ 2 := trim_len _
theorem uQ_len (dn : List Rat) (n : Nat) : (uQ dn n).length ≤ 3 := trim_len _
include hl in
theorem uS_pc (n : Nat) : Pc 20 (uS lv n) := (pc_two (hl.get (by decide) n)).trim
include hd in
theorem uQ_pc (n : Nat) : Pc 20 (uQ dn n) := (pc_sq (hd.get (by decide) (n - 1))).trim
theorem one_trim : trim [(1 : Rat)] = [1] := by simp [trim]
theorem eT_trim (n : Nat) : trim (eT lv dn n) = eT lv dn n := sq_trim rfl one_trim n
theorem eB_trim (n : Nat) : trim (eB lv dn n) = eB lv dn n := sq_trim one_trim (trim_trim _) n
include hl hd in
theorem eT_pc (n : Nat) : Pc (fibC n) (eT lv dn n) := sq_pc (m := n) (Pz.nil (by decide)) (pc_1 (by decide)) (fun j _ => ⟨uS_pc hl j, uS_len _ _, uQ_pc hd j, uQ_len _ _⟩) n (Nat.le_refl _)
include hl hd in
theorem eB_pc (n : Nat) : Pc (fibC n) (eB lv dn n) := sq_pc (m := n) (pc_1 (by decide)) ((uS_pc hl 0).mono (by decide) (by decide)) (fun j _ => ⟨uS_pc hl j, uS_len _ _, uQ_pc hd j, uQ_len _ _⟩) n (Nat.le_refl _)
theorem eT_len (n : Nat) : (eT lv dn n).length ≤ n := sq_len (j := 0) (m := n) (by decide) (by decide) (fun j _ => ⟨uS_len _ _, uQ_len _ _⟩) n (Nat.le_refl _)
theorem eB_len (n : Nat) : (eB lv dn n).length ≤ n + 1 := sq_len (j := 1) (m := n) (by decide) (uS_len _ _) (fun j _ => ⟨uS_len _ _, uQ_len _ _⟩) n (Nat.le_refl _)
theorem fibC_le : ∀ n : Nat, n ≤ 8 → fibC n ≤ 2166 := by decide
theorem fibC_lo : ∀ n : Nat, 21 ≤ fibC n
  | 0 => Nat.le_refl _
  | 1 => Nat.le_refl _
  | n + 2 => by show 21 ≤ fibC (n + 1) + fibC n + 44; omega
theorem ph_uQ (n : Nat) : ph (uQ dn n) = cP (dn.getD (n - 1) 0) * xP ^ 2 := by
  unfold uQ
  rw [ph_trim]
  have := ph_rep 2 [dn.getD (n - 1) 0]
  rw [show ([0, 0, dn.getD (n - 1) 0] : List Rat) = List.replicate 2 0 ++ [dn.getD (n - 1) 0] from rfl, this, ph_one]
  grind
theorem eB_0 : ∀ n, (eB lv dn n).getD 0 0 = 1
  | 0 => rfl
  | 1 => by show (uS lv 0).getD 0 0 = 1; unfold uS; rw [trim_get]; rfl
  | n + 2 => by
    have h := congrArg (fun p : PS => p.c 0) (sq_ph (p0 := [1]) (p1 := uS lv 0) (st := uS lv) (sr := uQ dn) n)
    have e1 : (ph (uS lv (n + 1))).c 0 = 1 := by rw [ph_c]; unfold uS; rw [trim_get]; rfl
    have e2 : (ph (uQ dn (n + 1))).c 0 = 0 := by rw [ph_c]; unfold uQ; rw [trim_get]; rfl
    have e3 : (ph (sq [1] (uS lv 0) (uS lv) (uQ dn) (n + 1))).c 0 = 1 := eB_0 (n + 1)
    show (ph (sq [1] (uS lv 0) (uS lv) (uQ dn) (n + 2))).c 0 = 1
    rw [h, sub_c]
    show (ph (uS lv (n + 1))).c 0 * (ph (sq [1] (uS lv 0) (uS lv) (uQ dn) (n + 1))).c 0 - (ph (uQ dn (n + 1))).c 0 * (ph (sq [1] (uS lv 0) (uS lv) (uQ dn) n)).c 0 = 1
    rw [e1, e2, e3]; grind
/-- the product of the first so many -/
def prT (f : List Rat) : Nat → Rat
  | 0 => 1
  | n + 1 => prT f n * f.getD n 0
theorem prT_sz {m : Nat} {f : List Rat} (h : SzA m f) (h0 : 0 < m) : ∀ n, Sz (m * n + 1) (prT f n)
  | 0 => ⟨show (1 : Int).natAbs < 2 ^ (m * 0 + 1) by rw [Nat.mul_zero]; decide, show 1 < 2 ^ (m * 0 + 1) by rw [Nat.mul_zero]; decide⟩
  | n + 1 => sz_mul (prT_sz h h0 n) (h.get h0 n) (by omega) (by rw [Nat.mul_add]; omega)
theorem prT_take {f : List Rat} {m : Nat} : ∀ {n : Nat}, n ≤ m → prT (f.take m) n = prT f n
  | 0, _ => rfl
  | n + 1, h => by
    show prT (f.take m) n * (f.take m).getD n 0 = _
    rw [prT_take (by omega), List.getD_eq_getElem?_getD, List.getElem?_take, if_pos (by omega), ← List.getD_eq_getElem?_getD]; rfl
theorem ends_W : ∀ n, ph (eT lv dn (n + 1)) * ph (eB lv dn n) - ph (eT lv dn n) * ph (eB lv dn (n + 1)) = xP ^ (2 * n) * cP (prT dn n)
  | 0 => by
    have e1 : ph (eT lv dn 1) = 1 := ph_one 1
    have e2 : ph (eB lv dn 0) = 1 := ph_one 1
    have e3 : ph (eT lv dn 0) = 0 := ph_nil
    have e4 : cP (prT dn 0) = 1 := rfl
    rw [e1, e2, e3, e4]
    grind
  | n + 1 => by
    have ih := ends_W n
    have t := sq_ph (p0 := []) (p1 := [1]) (st := uS lv) (sr := uQ dn) n
    have b := sq_ph (p0 := [1]) (p1 := uS lv 0) (st := uS lv) (sr := uQ dn) n
    have q := ph_uQ (dn := dn) (n + 1)
    have e : cP (prT dn (n + 1)) = cP (prT dn n) * cP (dn.getD n 0) := cP_mul _ _
    have t' : ph (eT lv dn (n + 2)) = ph (uS lv (n + 1)) * ph (eT lv dn (n + 1)) - ph (uQ dn (n + 1)) * ph (eT lv dn n) := t
    have b' : ph (eB lv dn (n + 2)) = ph (uS lv (n + 1)) * ph (eB lv dn (n + 1)) - ph (uQ dn (n + 1)) * ph (eB lv dn n) := b
    rw [t', b', q, e, show n + 1 - 1 = n by omega, show 2 * (n + 1) = 2 * n + 2 by omega]
    grind
end
def cAddS (f g : List Rat) (a : Rat) : List Rat := (List.range (max f.length g.length)).map fun k => f.getD k 0 + a * g.getD k 0
theorem cAddS_len (f g : List Rat) (a : Rat) : (cAddS f g a).length = max f.length g.length := by simp [cAddS]
theorem cAddS_get (f g : List Rat) (a : Rat) (k : Nat) : (cAddS f g a).getD k 0 = f.getD k 0 + a * g.getD k 0 := by
  unfold cAddS
  rw [getD_range_map]
  split
  · rfl
  · rw [getD_ge (f := f) (by omega), getD_ge (f := g) (by omega)]; grind
def pAddS (f g : List Rat) (a : Rat) : List Rat := trim (cAddS f g a)
theorem ph_addS (f g : List Rat) (a : Rat) : ph (pAddS f g a) = ph f + cP a * ph g := PS.ext (funext fun k => by
  rw [ph_c, pAddS, trim_get, cAddS_get, add_c, cP_mul_c]; rfl)
theorem rep_flat {n : Nat} {k : Int} (hk : k = (n : Int)) (p : Rat) : (List.replicate k.toNat [dFr 0]).flatten ++ [dFr p] = dFrs (List.replicate n 0 ++ [p]) := by
  rw [flat_rep, hk, Int.toNat_natCast]; simp
theorem cut_mid {α : Type} (xs : List α) (a b : Nat) (h : a ≤ b) (hb : b ≤ xs.length) : cutD xs (some (a : Int)) (some (b : Int)) = (xs.drop a).take (b - a) := by
  unfold cutD
  rw [HT.sIx_nat, HT.sIx_nat, Nat.min_eq_left hb, Nat.min_eq_left (by omega)]
theorem eB_at (lv dn : List Rat) (n : Nat) : (eB lv dn n)[0]? = some 1 := by
  have h := eB_0 (lv := lv) (dn := dn) n
  rw [List.getD_eq_getElem?_getD] at h
  cases e : (eB lv dn n)[0]? with
  | none =>
    rw [e] at h
    have : (0 : Rat) = 1 := h
    exact absurd this (by decide +kernel)
  | some q => rw [e] at h; exact congrArg some h
theorem fibC_le7 : ∀ n : Nat, n ≤ 7 → fibC n ≤ 1321 := by decide
theorem ends_sub (lv dn : List Rat) (n : Nat) : pAddS (pMul (eT lv dn (n + 1)) (eB lv dn n)) (pMul (eT lv dn n) (eB lv dn (n + 1))) ((-1 : Int) : Rat) = trim (List.replicate (2 * n) 0 ++ [prT dn n]) := by
  refine ph_inj (trim_trim _) (trim_trim _) ?_
  rw [ph_addS, ph_mul, ph_mul, ph_trim, ph_rep, ph_one, ← ends_W (lv := lv), show ((-1 : Int) : Rat) = -1 by rfl, cP_neg, cP1]
  grind
def rS (lv : List Rat) (n : Nat) : List Rat := trim [0 - lv.getD n 0, 1]
def rQ (dn : List Rat) (n : Nat) : List Rat := trim [dn.getD (n - 1) 0]
def rR (lv dn : List Rat) : Nat → List Rat := sq [1] (rS lv 0) (rS lv) (rQ dn)
theorem rS_len (lv : List Rat) (n : Nat) : (rS lv n).length ≤ 2 := trim_len _
theorem rQ_len (dn : List Rat) (n : Nat) : (rQ dn n).length ≤ 3 := Nat.le_trans (trim_len _) (show 1 ≤ 3 by decide)
theorem rS_pc {lv : List Rat} (hl : SzA 20 lv) (n : Nat) : Pc 20 (rS lv n) := (pc_rev2 (hl.get (by decide) n)).trim
theorem rQ_pc {dn : List Rat} (hd : SzA 20 dn) (n : Nat) : Pc 20 (rQ dn n) := (pc_c (hd.get (by decide) (n - 1))).trim
theorem rR_pc {lv dn : List Rat} (hl : SzA 20 lv) (hd : SzA 20 dn) (n : Nat) : Pc (fibC n) (rR lv dn n) := sq_pc (m := n) (pc_1 (by decide)) ((rS_pc hl 0).mono (by decide) (by decide)) (fun j _ => ⟨rS_pc hl j, rS_len _ _, rQ_pc hd j, rQ_len _ _⟩) n (Nat.le_refl _)
theorem rQ_len1 (dn : List Rat) (n : Nat) : (rQ dn n).length ≤ 1 := trim_len _
theorem rR_le (lv dn : List Rat) (n : Nat) : (rR lv dn n).length ≤ n + 1 := sq_len (j := 1) (m := n) (by decide) (rS_len _ _) (fun j _ => ⟨rS_len _ _, rQ_len _ _⟩) n (Nat.le_refl _)
theorem rR_trim (lv dn : List Rat) (n : Nat) : trim (rR lv dn n) = rR lv dn n := sq_trim one_trim (trim_trim _) n
theorem ph_rS (lv : List Rat) (n : Nat) : ph (rS lv n) = xP - cP (lv.getD n 0) := by
  unfold rS
  rw [ph_trim, ph_cons, ph_one, show (0 : Rat) - lv.getD n 0 = -lv.getD n 0 by grind, cP_neg, cP1]
  grind
theorem ph_rQ (dn : List Rat) (n : Nat) : ph (rQ dn n) = cP (dn.getD (n - 1) 0) := by
  unfold rQ; rw [ph_trim, ph_one]
theorem ph_uS (lv : List Rat) (n : Nat) : ph (uS lv n) = 1 - cP (lv.getD n 0) * xP := by
  unfold uS
  rw [ph_trim, ph_cons, ph_one, show (0 : Rat) - lv.getD n 0 = -lv.getD n 0 by grind, cP_neg, cP1]
  grind
theorem rR_next (lv dn : List Rat) (n : Nat) : ph (rR lv dn (n + 2)) = xP * ph (rR lv dn (n + 1)) - cP (lv.getD (n + 1) 0) * ph (rR lv dn (n + 1)) - cP (dn.getD n 0) * ph (rR lv dn n) := by
  have h : ph (rR lv dn (n + 2)) = ph (rS lv (n + 1)) * ph (rR lv dn (n + 1)) - ph (rQ dn (n + 1)) * ph (rR lv dn n) := sq_ph n
  rw [h, ph_rS, ph_rQ, show n + 1 - 1 = n by omega]
  grind
theorem eB_next (lv dn : List Rat) (n : Nat) : ph (eB lv dn (n + 2)) = ph (eB lv dn (n + 1)) - cP (lv.getD (n + 1) 0) * (xP * ph (eB lv dn (n + 1))) - cP (dn.getD n 0) * (xP * (xP * ph (eB lv dn n))) := by
  have h : ph (eB lv dn (n + 2)) = ph (uS lv (n + 1)) * ph (eB lv dn (n + 1)) - ph (uQ dn (n + 1)) * ph (eB lv dn n) := sq_ph n
  rw [h, ph_uS, ph_uQ, show n + 1 - 1 = n by omega]
  grind
theorem eT_next (lv dn : List Rat) (n : Nat) : ph (eT lv dn (n + 2)) = ph (eT lv dn (n + 1)) - cP (lv.getD (n + 1) 0) * (xP * ph (eT lv dn (n + 1))) - cP (dn.getD n 0) * (xP * (xP * ph (eT lv dn n))) := by
  have h : ph (eT lv dn (n + 2)) = ph (uS lv (n + 1)) * ph (eT lv dn (n + 1)) - ph (uQ dn (n + 1)) * ph (eT lv dn n) := sq_ph n
  rw [h, ph_uS, ph_uQ, show n + 1 - 1 = n by omega]
  grind
theorem rR_s (lv dn : List Rat) (n k : Nat) : (rR lv dn (n + 2)).getD (k + 1) 0 = (rR lv dn (n + 1)).getD k 0 - lv.getD (n + 1) 0 * (rR lv dn (n + 1)).getD (k + 1) 0 - dn.getD n 0 * (rR lv dn n).getD (k + 1) 0 := by
  have h := congrArg (fun p : PS => p.c (k + 1)) (rR_next lv dn n)
  simp only [sub_c, cP_mul_c, xP_mul_s, ph_c] at h
  exact h
theorem rR_0 (lv dn : List Rat) (n : Nat) : (rR lv dn (n + 2)).getD 0 0 = 0 - lv.getD (n + 1) 0 * (rR lv dn (n + 1)).getD 0 0 - dn.getD n 0 * (rR lv dn n).getD 0 0 := by
  have h := congrArg (fun p : PS => p.c 0) (rR_next lv dn n)
  simp only [sub_c, cP_mul_c, xP_mul_0, ph_c] at h
  exact h
theorem rR_top (lv dn : List Rat) : ∀ n, (rR lv dn n).getD n 0 = 1
  | 0 => rfl
  | 1 => by show (rS lv 0).getD 1 0 = 1; unfold rS; rw [trim_get]; rfl
  | n + 2 => by
    rw [rR_s, rR_top lv dn (n + 1), getD_ge (f := rR lv dn (n + 1)) (by have := rR_le lv dn (n + 1); omega), getD_ge (f := rR lv dn n) (by have := rR_le lv dn n; omega)]
    grind
theorem rR_len (lv dn : List Rat) (n : Nat) : (rR lv dn n).length = n + 1 := by
  have h := rR_le lv dn n
  by_cases e : (rR lv dn n).length ≤ n
  · have := rR_top lv dn n
    rw [getD_ge e] at this
    exact absurd this (by decide +kernel)
  · omega
theorem eB_rR (lv dn : List Rat) : ∀ (n k : Nat), k ≤ n → (eB lv dn n).getD k 0 = (rR lv dn n).getD (n - k) 0
  | 0, k, h => by rw [show k = 0 by omega]; rfl
  | 1, 0, _ => by
    show (uS lv 0).getD 0 0 = (rS lv 0).getD 1 0
    unfold uS rS; rw [trim_get, trim_get]; rfl
  | 1, 1, _ => by
    show (uS lv 0).getD 1 0 = (rS lv 0).getD 0 0
    unfold uS rS; rw [trim_get, trim_get]; rfl
  | n + 2, 0, _ => by rw [eB_0, show n + 2 - 0 = n + 2 by omega, rR_top]
  | n + 2, 1, _ => by
    have h := congrArg (fun p : PS => p.c 1) (eB_next lv dn n)
    simp only [sub_c, cP_mul_c] at h
    rw [show (xP * ph (eB lv dn (n + 1))).c 1 = _ from xP_mul_s _ 0, show (xP * (xP * ph (eB lv dn n))).c 1 = _ from xP_mul_s _ 0, xP_mul_0] at h
    simp only [ph_c] at h
    rw [h, eB_rR lv dn (n + 1) 1 (by omega), eB_rR lv dn (n + 1) 0 (by omega), show n + 2 - 1 = n + 1 by omega, rR_s, getD_ge (f := rR lv dn n) (by have := rR_le lv dn n; omega)]
    simp only [Nat.add_sub_cancel, Nat.sub_zero]
  | n + 2, k + 2, hk => by
    have h := congrArg (fun p : PS => p.c (k + 2)) (eB_next lv dn n)
    simp only [sub_c, cP_mul_c, xP_mul_s, ph_c] at h
    rw [h, eB_rR lv dn (n + 1) (k + 1) (by omega), eB_rR lv dn n k (by omega), show n + 1 - (k + 1) = n - k by omega, show n + 2 - (k + 2) = n - k by omega]
    by_cases e : k = n
    · subst e
      rw [getD_ge (f := eB lv dn (k + 1)) (by have := eB_len (lv := lv) (dn := dn) (k + 1); omega), Nat.sub_self, rR_0]
    · obtain ⟨j, hj⟩ : ∃ j, n - k = j + 1 := ⟨n - k - 1, by omega⟩
      rw [hj, rR_s, eB_rR lv dn (n + 1) (k + 2) (by omega), show n + 1 - (k + 2) = j by omega]
theorem eB_rev (lv dn : List Rat) (n : Nat) : trim (rR lv dn n).reverse = eB lv dn n := by
  rw [← eB_trim (lv := lv) (dn := dn) n]
  refine trim_ext fun k => ?_
  have hl := rR_len lv dn n
  by_cases h : k ≤ n
  · rw [eB_rR lv dn n k h, List.getD_eq_getElem?_getD, List.getElem?_reverse (by omega), ← List.getD_eq_getElem?_getD, hl, show n + 1 - 1 - k = n - k by omega]
  · rw [getD_ge (by rw [List.length_reverse]; omega), getD_ge (by have := eB_len (lv := lv) (dn := dn) n; omega)]
theorem subS (f g : List Rat) : pAddS f g ((-1 : Int) : Rat) = pSub f g := trim_ext fun k => by
  rw [cAddS_get, cSub_get, show ((-1 : Int) : Rat) = -1 by rfl]
  grind
theorem rS_list (lv : List Rat) (n : Nat) : rS lv n = [-(lv.getD n 0), 1] := by
  unfold rS
  rw [show (0 : Rat) - lv.getD n 0 = -lv.getD n 0 by grind]
  exact trim_snoc (a := 1) (by decide +kernel) [-(lv.getD n 0)]
end Mf

namespace Mf
open PySem PySem.Spec PyProof.Rows L2 Hf
def ruN (m f : List Rat) (n : Nat) : Rat := SS n (fun i => f.getD i 0 * m.getD i 0)
abbrev ruV (m f : List Rat) : Rat := ruN m f f.length
theorem ruN_succ (m f : List Rat) (n : Nat) : ruN m f (n + 1) = ruN m f n + f.getD n 0 * m.getD n 0 := rfl
theorem ruN_ge {m f : List Rat} {n : Nat} (h : f.length ≤ n) : ruN m f n = ruV m f := SS_more h fun i hi => by rw [getD_ge hi]; grind
theorem ruN_sz {a b c : Nat} {m f : List Rat} (hm : SzA a m) (hf : SzA b f) (ha : 0 < a) (hb : 0 < b) : ∀ n, (a + b + 1) * n + 1 ≤ c → Sz c (ruN m f n) := by
  intro n
  induction n generalizing c with
  | zero => intro h; exact sz0 (by omega)
  | succ n ih =>
    intro h
    have e : (a + b + 1) * (n + 1) = (a + b + 1) * n + (a + b + 1) := by rw [Nat.mul_add, Nat.mul_one]
    rw [ruN_succ]
    exact sz_add (ih (c := (a + b + 1) * n + 1) (Nat.le_refl _)) (sz_mul (hf.get hb n) (hm.get ha n) (by omega) (Nat.le_refl (b + a))) (by omega)
theorem pAddS_get (f g : List Rat) (a : Rat) (k : Nat) : (pAddS f g a).getD k 0 = f.getD k 0 + a * g.getD k 0 := by
  unfold pAddS; rw [trim_get, cAddS_get]
theorem pAddS_len (f g : List Rat) (a : Rat) : (pAddS f g a).length ≤ max f.length g.length := by
  have := trim_len (cAddS f g a); rw [cAddS_len] at this; exact this
theorem ruV_add (m f g : List Rat) (a : Rat) : ruV m (pAddS f g a) = ruV m f + a * ruV m g := by
  have l := pAddS_len f g a
  rw [← ruN_ge (n := max f.length g.length) l, ← ruN_ge (f := f) (n := max f.length g.length) (by omega), ← ruN_ge (f := g) (n := max f.length g.length) (by omega)]
  unfold ruN
  rw [← SS_mul, ← SS_add]
  exact SS_ext fun i _ => by rw [pAddS_get]; grind
theorem pAddS_sz {m n c k : Nat} {f g : List Rat} {a : Rat} (hf : SzA m f) (hg : SzA n g) (ha : Sz c a) (h0 : 0 < m) (h1 : 0 < n) (h : m + (c + n) + 1 ≤ k) : SzA k (pAddS f g a) := by
  unfold pAddS
  refine SzA.trim fun q hq => ?_
  unfold cAddS at hq
  obtain ⟨i, _, rfl⟩ := List.mem_map.mp hq
  exact sz_add (hf.get h0 i) (sz_mul ha (hg.get h1 i) (by omega) (Nat.le_refl _)) (by omega)
end Mf
namespace Mf
open PySem PySem.Spec PyProof.Rows L2 Hf
theorem eqv_tb {d : D} (b : Bool) (h : plain d = true) : PyData.eqv (.tuple [d, .bool b]) (.tuple [d, .bool b]) = true := by
  have := eqv_self h
  cases b <;> simp [PyData.eqv, PyData.eqvAll, this]
/-- fractions by some of the cells -/
def cutF (cs : List Int) (a n : Nat) (dv kd : Int) : List Rat := ((cs.drop a).take n).map fun c => vFr (c / dv) kd
theorem cutF_len {cs : List Int} {a n : Nat} (h : a + n ≤ cs.length) (dv kd : Int) : (cutF cs a n dv kd).length = n := by simp [cutF]; omega
theorem cutF_sz (cs : List Int) (a n : Nat) (dv kd : Int) : SzA 20 (cutF cs a n dv kd) := fun q hq => by
  obtain ⟨c, _, rfl⟩ := List.mem_map.mp hq
  exact vFr_sz _ _
theorem cut_ints (cs : List Int) (a n : Nat) (h : a + n ≤ cs.length) {u v : Int} (hu : u = (a : Int)) (hv : v = ((a + n : Nat) : Int)) : cutD (cs.map PyData.int) (some u) (some v) = ((cs.drop a).take n).map PyData.int := by
  subst hu hv
  rw [cut_mid _ _ _ (by omega) (by simpa using h), List.map_take, List.map_drop, Nat.add_sub_cancel_left]
theorem SzA.trimTo {n m : Nat} {f : List Rat} (h : SzA n f) (le : n ≤ m) : SzA m (Mf.trim f) := (h.trim).mono le
end Mf
namespace Mf
open PySem Hf
theorem dl_bool {n : Nat} (b : Bool) (h : 1 ≤ n) : depthLe n (.bool b) := ⟨rfl, by simp [PyData.depth]⟩
theorem dl_none {n : Nat} (h : 1 ≤ n) : depthLe n .none := ⟨rfl, by simp [PyData.depth]⟩
theorem sh_tb (q : Rat) (b : Bool) : SeqAt.shaped (.tuple [dFr q, .bool b]) = true := shaped_of (n := 3) (dl_tup (n := 2) (by
  intro d hd
  simp only [List.mem_cons, List.not_mem_nil, or_false] at hd
  rcases hd with rfl | rfl
  · exact dl_fr q (by decide)
  · exact dl_bool b (by decide))) (by decide)
end Mf
namespace Mf
open PySem Hf
theorem uS_neg (lv : List Rat) (n : Nat) : trim [1, -(lv.getD n 0)] = uS lv n := by unfold uS; rw [show (0 : Rat) - lv.getD n 0 = -(lv.getD n 0) by grind]
theorem eqv_pp (f g : List Rat) : PyData.eqv (.tuple [dPo f, dPo g]) (.tuple [dPo f, dPo g]) = true := eqv_self (by simp [plain, plainAll, plain_frsT] <;> exact ⟨plain_frsT f, plain_frsT g⟩)
theorem sh_pp (f g : List Rat) : SeqAt.shaped (.tuple [dPo f, dPo g]) = true := shaped_of (n := 4) (dl_tup (n := 3) (by
  intro d hd
  simp only [List.mem_cons, List.not_mem_nil, or_false] at hd
  rcases hd with rfl | rfl <;> exact dl_tup (n := 2) (dl_map (fun q => dl_fr q (by decide)) _))) (by decide)
end Mf
namespace Mf
open PySem PySem.Spec PyProof.Rows L2 Hf
theorem de_ifF {X : Cx} {Γ : List Cell} {a b c : Expr} {pos : Pos} {m : Bool} {x y : Rat} (hc : DT X Γ c m) (ha : m = true → DE X Γ a (dFr x)) (hb : m = false → DE X Γ b (dFr y)) : DE X Γ (.IfExp c a b pos) (dFr (if m = true then x else y)) :=
  de_if hc (fun h => by rw [if_pos h]; exact ha h) (fun h => by rw [if_neg (by rw [h]; decide)]; exact hb h)
end Mf

namespace Mf
open PySem Hf
def riseN (c : Nat) : Int := if c = 100 then -1 else if c = 108 then 0 else 1
theorem sidx {c : Nat} (h : c ∈ [100, 108, 117]) : Builtin.Str.occurrences "dlu" ⟨#[c]⟩ 0 (Str.length "dlu") 1 = (if c = 100 then 0 else if c = 108 then 1 else 2) :: [] := by
  simp only [List.mem_cons, List.not_mem_nil, or_false] at h
  rcases h with rfl | rfl | rfl <;> decide +kernel
theorem riseN_eq {c : Nat} (h : c ∈ [100, 108, 117]) : riseN c = (((if c = 100 then 0 else if c = 108 then 1 else 2 : Nat) : Nat) : Int) - 1 := by
  simp only [List.mem_cons, List.not_mem_nil, or_false] at h
  rcases h with rfl | rfl | rfl <;> rfl
def lieB (h : Int) : Option Int → Bool
  | none => true
  | some b => decide (h < b)
abbrev mI (m : List (Int × Int)) : List (Int × D) := mV PyData.int m
/-- one step by the sign c from the height h, n ways -/
def st1 (b : Option Int) (h n : Int) (acc : List (Int × Int)) (c : Nat) : List (Int × Int) :=
  if 0 ≤ h + riseN c ∧ lieB (h + riseN c) b = true then pI acc (h + riseN c) ((vI acc (h + riseN c)).getD 0 + n) else acc
def st3 (b : Option Int) (acc : List (Int × Int)) (p : Int × Int) : List (Int × Int) := [100, 108, 117].foldl (st1 b p.1 p.2) acc
def stA (b : Option Int) (m : List (Int × Int)) (i : Nat) : List (Int × Int) := (m.take i).foldl (st3 b) []
theorem stA_succ {b : Option Int} {m : List (Int × Int)} {i : Nat} {p : Int × Int} (h : m[i]? = some p) : stA b m (i + 1) = st3 b (stA b m i) p := by
  unfold stA
  rw [List.take_add_one, h, List.foldl_append]; rfl
theorem mI_some {m : List (Int × Int)} {i : Nat} {j : Int} {x : D} (h : (mI m)[i]? = some (j, x)) : ∃ a n, m[i]? = some (a, n) ∧ j = a ∧ x = .int n := by
  unfold mI mV at h
  rw [List.getElem?_map] at h
  obtain ⟨q, hq, e⟩ := Option.map_eq_some_iff.mp h
  cases e
  exact ⟨q.1, q.2, hq, rfl, rfl⟩
theorem prs_len (m : List (Int × Int)) : (prsD (ikv (mI m))).length = m.length := by simp [prsD, ikv, mI, mV]
theorem pI_len {α : Type} (m : List (Int × α)) (j : Int) (x : α) : (pI m j x).length ≤ m.length + 1 := by
  unfold pI
  split <;> simp
theorem st1_len (b : Option Int) (h n : Int) (acc : List (Int × Int)) (c : Nat) : (st1 b h n acc c).length ≤ acc.length + 1 := by
  unfold st1
  split
  · exact pI_len _ _ _
  · omega
theorem foldl_len (b : Option Int) (h n : Int) : ∀ (cs : List Nat) (acc : List (Int × Int)), (cs.foldl (st1 b h n) acc).length ≤ acc.length + cs.length
  | [], acc => Nat.le_refl _
  | c :: cs, acc => by
    have h1 := st1_len b h n acc c
    have h2 := foldl_len b h n cs (st1 b h n acc c)
    show (cs.foldl (st1 b h n) (st1 b h n acc c)).length ≤ _
    rw [List.length_cons]; omega
theorem fold_len (b : Option Int) (h n : Int) (acc : List (Int × Int)) (j : Nat) : (([100, 108, 117].take j).foldl (st1 b h n) acc).length ≤ acc.length + 3 := by
  have := foldl_len b h n ([100, 108, 117].take j) acc
  have h3 : ([100, 108, 117].take j).length ≤ 3 := by rw [List.length_take]; exact Nat.min_le_right _ _
  omega
theorem stA_len (b : Option Int) (m : List (Int × Int)) : ∀ i, (stA b m i).length ≤ 3 * i
  | 0 => by simp [stA]
  | i + 1 => by
    cases h : m[i]? with
    | none =>
      have e : m.take (i + 1) = m.take i := by rw [List.take_add_one, h]; simp
      have : stA b m (i + 1) = stA b m i := by unfold stA; rw [e]
      rw [this]
      have := stA_len b m i
      omega
    | some p =>
      rw [stA_succ h]
      have h1 := stA_len b m i
      have h2 := foldl_len b p.1 p.2 [100, 108, 117] (stA b m i)
      show ([100, 108, 117].foldl (st1 b p.1 p.2) (stA b m i)).length ≤ _
      simp only [List.length_cons, List.length_nil] at h2
      omega
theorem dlu_some {i : Nat} {d : D} (h : (signs "dlu")[i]? = some d) : ∃ c, [100, 108, 117][i]? = some c ∧ c ∈ [100, 108, 117] ∧ d = .str ⟨#[c]⟩ := by
  have e : signs "dlu" = ([100, 108, 117] : List Nat).map fun c => .str ⟨#[c]⟩ := by rfl
  rw [e, List.getElem?_map] at h
  obtain ⟨c, hc, rfl⟩ := Option.map_eq_some_iff.mp h
  exact ⟨c, hc, List.mem_of_getElem? hc, rfl⟩
theorem fold_succ {b : Option Int} {h n : Int} {acc : List (Int × Int)} {j c : Nat} (hc : [100, 108, 117][j]? = some c) : ([100, 108, 117].take (j + 1)).foldl (st1 b h n) acc = st1 b h n (([100, 108, 117].take j).foldl (st1 b h n) acc) c := by
  rw [List.take_add_one, hc, List.foldl_append]; rfl
theorem nodup_len : ∀ (n : Nat) (l : List Int), l.Nodup → (∀ x ∈ l, 0 ≤ x ∧ x < n) → l.length ≤ n
  | 0, [], _, _ => Nat.le_refl _
  | 0, x :: l, _, h => by have := h x List.mem_cons_self; omega
  | n + 1, l, hn, h => by
    have h1 : (l.erase (n : Int)).length ≤ n := nodup_len n _ (hn.erase _) fun x hx => by
      have h2 := (hn.mem_erase_iff).mp hx
      have h3 := h x h2.2
      have h4 := h2.1
      omega
    have h5 := List.length_erase (a := (n : Int)) (l := l)
    split at h5 <;> omega
def keys (m : List (Int × Int)) : List Int := m.map (·.1)
/-- keys once each, from nought to K -/
def Kin (K : Int) (m : List (Int × Int)) : Prop := (keys m).Nodup ∧ ∀ p ∈ m, 0 ≤ p.1 ∧ p.1 ≤ K
theorem Kin.len {K : Int} {m : List (Int × Int)} (h : Kin K m) (h0 : 0 ≤ K) : m.length ≤ K.toNat + 1 := by
  have := nodup_len (K.toNat + 1) (keys m) h.1 fun x hx => by
    obtain ⟨p, hp, rfl⟩ := List.mem_map.mp hx
    have := h.2 p hp
    omega
  simpa [keys] using this
theorem Kin.put {K : Int} {m : List (Int × Int)} {j x : Int} (h : Kin K m) (h0 : 0 ≤ j) (h1 : j ≤ K) : Kin K (pI m j x) := by
  unfold pI
  by_cases hm : (m.any fun p => decide (p.1 = j)) = true
  · rw [if_pos hm]
    have e : keys (m.map fun p => if p.1 = j then (p.1, x) else p) = keys m := by
      unfold keys
      rw [List.map_map]
      refine List.map_congr_left fun p _ => ?_
      by_cases e : p.1 = j <;> simp [e]
    refine ⟨by rw [e]; exact h.1, fun p hp => ?_⟩
    obtain ⟨q, hq, rfl⟩ := List.mem_map.mp hp
    have := h.2 q hq
    by_cases e : q.1 = j
    · rw [if_pos e]; exact this
    · rw [if_neg e]; exact this
  · rw [if_neg hm]
    refine ⟨?_, fun p hp => ?_⟩
    · unfold keys
      rw [List.map_append]
      refine List.nodup_append.mpr ⟨h.1, by simp, fun a ha b hb e => ?_⟩
      obtain ⟨q, hq, rfl⟩ := List.mem_map.mp ha
      simp at hb
      subst hb
      exact hm (List.any_eq_true.mpr ⟨q, hq, by simpa using e⟩)
    · rcases List.mem_append.mp hp with hp | hp
      · exact h.2 p hp
      · rw [List.mem_singleton.mp hp]; exact ⟨h0, h1⟩
theorem Kin.mono {K L : Int} {m : List (Int × Int)} (h : Kin K m) (le : K ≤ L) : Kin L m := ⟨h.1, fun p hp => by have := h.2 p hp; omega⟩
theorem riseN_bd (c : Nat) : -1 ≤ riseN c ∧ riseN c ≤ 1 := by
  unfold riseN
  split
  · omega
  · split <;> omega
theorem Kin.st1 {K h n : Int} {b : Option Int} {acc : List (Int × Int)} {c : Nat} (q : Kin K acc) (hk : h + 1 ≤ K) : Kin K (Mf.st1 b h n acc c) := by
  unfold Mf.st1
  have := riseN_bd c
  split
  · rename_i w
    exact q.put w.1 (by omega)
  · exact q
theorem Kin.fold {K h n : Int} {b : Option Int} (hk : h + 1 ≤ K) : ∀ (cs : List Nat) {acc : List (Int × Int)}, Kin K acc → Kin K (cs.foldl (Mf.st1 b h n) acc)
  | [], acc, q => q
  | c :: cs, acc, q => Kin.fold hk cs (q.st1 hk)
theorem Kin.stA {K : Int} {b : Option Int} {m : List (Int × Int)} (h : Kin K m) : ∀ i, Kin (K + 1) (Mf.stA b m i)
  | 0 => ⟨by simp [Mf.stA, keys], fun p hp => by simp [Mf.stA] at hp⟩
  | i + 1 => by
    cases e : m[i]? with
    | none =>
      have e2 : m.take (i + 1) = m.take i := by rw [List.take_add_one, e]; simp
      have : Mf.stA b m (i + 1) = Mf.stA b m i := by unfold Mf.stA; rw [e2]
      rw [this]
      exact h.stA i
    | some p =>
      rw [stA_succ e]
      exact Kin.fold (by have := h.2 p (List.mem_of_getElem? e); omega) _ (h.stA i)
/-- the counts behind l steps -/
def wC (b : Option Int) (f : Int) : Nat → List (Int × Int)
  | 0 => if lieB f b = true then [(f, 1)] else []
  | l + 1 => stA b (wC b f l) (wC b f l).length
theorem wC_kin {b : Option Int} {f : Int} (hf : 0 ≤ f) : ∀ l : Nat, Kin (f + l) (wC b f l)
  | 0 => by
    show Kin _ (if _ then _ else _)
    split
    · exact ⟨by simp [keys], fun p hp => by rw [List.mem_singleton.mp hp]; exact ⟨hf, by simp⟩⟩
    · exact ⟨by simp [keys], fun p hp => nomatch hp⟩
  | l + 1 => by
    have := (wC_kin (b := b) hf l).stA (b := b) (wC b f l).length
    exact this.mono (by omega)
theorem wC_len {b : Option Int} {f : Int} (hf : 0 ≤ f) (l : Nat) : (wC b f l).length ≤ f.toNat + l + 1 := by
  have := (wC_kin (b := b) hf l).len (by omega)
  omega
theorem rpick {c : Nat} {e1 e2 e3 f1 f2 f3 : Expr} (h : c ∈ [100, 108, 117]) : L2.valV (L2.mergeK [] (kvK [(e1, f1, "d", -1), (e2, f2, "l", 0), (e3, f3, "u", 1)])) (.inr ⟨#[c]⟩) = some (.int (riseN c)) := by
  simp only [List.mem_cons, List.not_mem_nil, or_false] at h
  rcases h with rfl | rfl | rfl <;> rfl
end Mf

namespace Mf
open PySem Hf
def vA (m : List (Int × Int)) (g : Int) : Int := (vI m g).getD 0
def cn (L : List Int) (g : Int) : Int := (L.count g : Nat)
def sumL (φ : Int → Int) : List Int → Int
  | [] => 0
  | h :: L => φ h + sumL φ L
def sumM (φ : Int → Int) : List (Int × Int) → Int
  | [] => 0
  | p :: m => p.2 * φ p.1 + sumM φ m
theorem vA_cons (p : Int × Int) (m : List (Int × Int)) (g : Int) : vA (p :: m) g = if p.1 = g then p.2 else vA m g := by
  unfold vA vI
  by_cases e : p.1 = g <;> simp [e]
theorem sumL_split (φ : Int → Int) (h : Int) : ∀ L : List Int, sumL φ L = cn L h * φ h + sumL φ (L.filter fun x => decide (x ≠ h))
  | [] => by simp [sumL, cn]
  | x :: L => by
    have ih := sumL_split φ h L
    by_cases e : x = h
    · subst e
      have h1 : cn (x :: L) x = cn L x + 1 := by unfold cn; rw [List.count_cons_self]; omega
      rw [h1, Int.add_mul, Int.one_mul]
      simp [sumL, List.filter_cons]
      simp at ih
      omega
    · have h1 : cn (x :: L) h = cn L h := by unfold cn; rw [List.count_cons_of_ne e]
      rw [h1]
      simp [sumL, List.filter_cons, e]
      simp at ih
      omega
theorem cn_filter (L : List Int) (h g : Int) : cn (L.filter fun x => decide (x ≠ h)) g = if g = h then 0 else cn L g := by
  unfold cn
  by_cases e : g = h
  · subst e
    rw [if_pos rfl, List.count_eq_zero_of_not_mem (by simp)]; rfl
  · rw [if_neg e, List.count_filter (by simpa using e)]
theorem sums_eq (φ : Int → Int) : ∀ (m : List (Int × Int)) (L : List Int), (keys m).Nodup → (∀ g, vA m g = cn L g) → sumM φ m = sumL φ L
  | [], L, _, h => by
    have : L = [] := by
      cases L with
      | nil => rfl
      | cons x L =>
        have := h x
        unfold cn at this
        rw [List.count_cons_self] at this
        simp [vA, vI] at this
        omega
    subst this; rfl
  | p :: m, L, hn, h => by
    have hn' := List.nodup_cons.mp hn
    rw [sumL_split φ p.1 L]
    have h1 : cn L p.1 = p.2 := by rw [← h p.1, vA_cons, if_pos rfl]
    have h2 := sums_eq φ m (L.filter fun x => decide (x ≠ p.1)) hn'.2 fun g => by
      rw [cn_filter]
      by_cases e : g = p.1
      · subst e
        rw [if_pos rfl]
        have : vI m p.1 = none := by
          unfold vI
          rw [List.find?_eq_none.mpr fun q hq => ?_]; rfl
          simp only [decide_eq_true_eq]
          intro z
          exact hn'.1 (List.mem_map.mpr ⟨q, hq, z⟩)
        unfold vA; rw [this]; rfl
      · rw [if_neg e, ← h g, vA_cons, if_neg (fun z => e z.symm)]
    rw [h1, ← h2]; rfl
theorem vA_map (j x g : Int) : ∀ m : List (Int × Int), vA (m.map fun p => if p.1 = j then (p.1, x) else p) g = if g = j ∧ (m.any fun p => decide (p.1 = j)) = true then x else vA m g
  | [] => by simp [vA, vI]
  | p :: m => by
    rw [List.map_cons, vA_cons, vA_map j x g m, vA_cons]
    by_cases e : p.1 = j
    · rw [if_pos e]
      by_cases e2 : p.1 = g
      · simp [e, e2, ← e2]
      · have : g ≠ j := fun z => e2 (by rw [e, z])
        simp [e2, this]
    · rw [if_neg e]
      by_cases e2 : p.1 = g
      · have : g ≠ j := fun z => e (by rw [e2, z])
        simp [e2, this]
      · rw [if_neg e2, if_neg e2, List.any_cons, decide_eq_false e, Bool.false_or]
theorem vA_app (j x g : Int) : ∀ m : List (Int × Int), (m.any fun p => decide (p.1 = j)) ≠ true → vA (m ++ [(j, x)]) g = if g = j then x else vA m g
  | [], _ => by
    by_cases e : j = g
    · simp [vA, vI, e]
    · have : g ≠ j := fun z => e z.symm
      simp [vA, vI, e, this]
  | p :: m, h => by
    have h1 : ¬ p.1 = j := fun z => h (by rw [List.any_cons, decide_eq_true z]; rfl)
    have h2 : (m.any fun p => decide (p.1 = j)) ≠ true := fun z => h (by rw [List.any_cons, z, Bool.or_true])
    rw [List.cons_append, vA_cons, vA_app j x g m h2, vA_cons]
    by_cases e2 : p.1 = g
    · have : g ≠ j := fun z => h1 (by rw [e2, z])
      simp [e2, this]
    · simp [e2]
theorem vA_put (m : List (Int × Int)) (j x g : Int) : vA (pI m j x) g = if g = j then x else vA m g := by
  unfold pI
  by_cases h : (m.any fun p => decide (p.1 = j)) = true
  · rw [if_pos h, vA_map]
    simp only [h, and_true]
  · rw [if_neg h, vA_app j x g m h]
/-- how often g is come to from h by a sign -/
def hit (b : Option Int) (h g : Int) (c : Nat) : Int := if 0 ≤ h + riseN c ∧ lieB (h + riseN c) b = true ∧ g = h + riseN c then 1 else 0
theorem vA_st1 (b : Option Int) (h n : Int) (acc : List (Int × Int)) (c : Nat) (g : Int) : vA (st1 b h n acc c) g = vA acc g + n * hit b h g c := by
  unfold st1 hit
  by_cases w : 0 ≤ h + riseN c ∧ lieB (h + riseN c) b = true
  · rw [if_pos w, vA_put]
    by_cases e : g = h + riseN c
    · rw [if_pos e, if_pos ⟨w.1, w.2, e⟩, e]
      show vA acc (h + riseN c) + n = _
      omega
    · rw [if_neg e, if_neg (fun z => e z.2.2)]; omega
  · rw [if_neg w, if_neg (fun z => w ⟨z.1, z.2.1⟩)]; omega
def hits (b : Option Int) (g : Int) (h : Int) : Int := hit b h g 100 + hit b h g 108 + hit b h g 117
theorem vA_st3 (b : Option Int) (acc : List (Int × Int)) (p : Int × Int) (g : Int) : vA (st3 b acc p) g = vA acc g + p.2 * hits b g p.1 := by
  unfold st3 hits
  simp only [List.foldl_cons, List.foldl_nil, vA_st1]
  rw [Int.mul_add, Int.mul_add]
  omega
theorem vA_stF (b : Option Int) (g : Int) : ∀ (m acc : List (Int × Int)), vA (m.foldl (st3 b) acc) g = vA acc g + sumM (hits b g) m
  | [], acc => by simp [sumM]
  | p :: m, acc => by
    rw [List.foldl_cons, vA_stF b g m, vA_st3]
    simp [sumM]; omega
/-- the heights of all texts, one sign more -/
def tx1 (b : Option Int) (h : Int) (acc : List Int) (c : Nat) : List Int := if 0 ≤ h + riseN c ∧ lieB (h + riseN c) b = true then acc ++ [h + riseN c] else acc
def tx3 (b : Option Int) (acc : List Int) (h : Int) : List Int := [117, 108, 100].foldl (tx1 b h) acc
def tW (b : Option Int) (f : Int) : Nat → List Int
  | 0 => if lieB f b = true then [f] else []
  | l + 1 => (tW b f l).foldl (tx3 b) []
theorem cn_app (L M : List Int) (g : Int) : cn (L ++ M) g = cn L g + cn M g := by unfold cn; rw [List.count_append]; omega
theorem cn_tx1 (b : Option Int) (h : Int) (acc : List Int) (c : Nat) (g : Int) : cn (tx1 b h acc c) g = cn acc g + hit b h g c := by
  unfold tx1 hit
  by_cases w : 0 ≤ h + riseN c ∧ lieB (h + riseN c) b = true
  · rw [if_pos w, cn_app]
    by_cases e : g = h + riseN c
    · rw [if_pos ⟨w.1, w.2, e⟩, e]; unfold cn; simp
    · rw [if_neg (fun z => e z.2.2)]
      have : cn [h + riseN c] g = 0 := by unfold cn; rw [List.count_cons_of_ne (fun z => e z.symm)]; rfl
      omega
  · rw [if_neg w, if_neg (fun z => w ⟨z.1, z.2.1⟩)]; omega
theorem cn_tx3 (b : Option Int) (acc : List Int) (h g : Int) : cn (tx3 b acc h) g = cn acc g + hits b g h := by
  unfold tx3 hits
  simp only [List.foldl_cons, List.foldl_nil, cn_tx1]
  omega
theorem cn_txF (b : Option Int) (g : Int) : ∀ (L acc : List Int), cn (L.foldl (tx3 b) acc) g = cn acc g + sumL (hits b g) L
  | [], acc => by simp [sumL]
  | h :: L, acc => by
    rw [List.foldl_cons, cn_txF b g L, cn_tx3]
    simp [sumL]; omega
theorem wC_tW (b : Option Int) {f : Int} (hf : 0 ≤ f) : ∀ (l : Nat) (g : Int), vA (wC b f l) g = cn (tW b f l) g
  | 0, g => by
    show vA (if _ then _ else _) g = cn (if _ then _ else _) g
    split
    · rw [vA_cons]
      by_cases e : f = g
      · rw [if_pos e, e]; unfold cn; simp
      · rw [if_neg e]; unfold cn; rw [List.count_cons_of_ne e]; rfl
    · rfl
  | l + 1, g => by
    show vA (stA b (wC b f l) (wC b f l).length) g = cn ((tW b f l).foldl (tx3 b) []) g
    unfold stA
    rw [List.take_length, vA_stF, cn_txF, sums_eq (hits b g) _ _ (wC_kin hf l).1 (fun g => wC_tW b hf l g)]
    rfl
end Mf
namespace Mf
open PySem Hf
def dO : Option Int → D
  | none => .none
  | some b => .int b
theorem uld_some {i : Nat} {d : D} (h : (signs "uld")[i]? = some d) : ∃ c, [117, 108, 100][i]? = some c ∧ c ∈ [100, 108, 117] ∧ d = .str ⟨#[c]⟩ := by
  have e : signs "uld" = ([117, 108, 100] : List Nat).map fun c => .str ⟨#[c]⟩ := by rfl
  rw [e, List.getElem?_map] at h
  obtain ⟨c, hc, rfl⟩ := Option.map_eq_some_iff.mp h
  refine ⟨c, hc, ?_, rfl⟩
  have := List.mem_of_getElem? hc
  simp only [List.mem_cons, List.not_mem_nil, or_false] at this ⊢
  omega
theorem foldT_succ {b : Option Int} {h : Int} {acc : List Int} {j c : Nat} (hc : [117, 108, 100][j]? = some c) : ([117, 108, 100].take (j + 1)).foldl (tx1 b h) acc = tx1 b h (([117, 108, 100].take j).foldl (tx1 b h) acc) c := by
  rw [List.take_add_one, hc, List.foldl_append]; rfl
theorem foldW_succ {b : Option Int} {L : List Int} {j : Nat} {h : Int} (hc : L[j]? = some h) : (L.take (j + 1)).foldl (tx3 b) [] = tx3 b ((L.take j).foldl (tx3 b) []) h := by
  rw [List.take_add_one, hc, List.foldl_append]; rfl
theorem tx1_len (b : Option Int) (h : Int) (acc : List Int) (c : Nat) : (tx1 b h acc c).length ≤ acc.length + 1 := by
  unfold tx1; split <;> simp
theorem txs_len (b : Option Int) (h : Int) : ∀ (cs : List Nat) (acc : List Int), (cs.foldl (tx1 b h) acc).length ≤ acc.length + cs.length
  | [], acc => Nat.le_refl _
  | c :: cs, acc => by
    have h1 := tx1_len b h acc c
    have h2 := txs_len b h cs (tx1 b h acc c)
    show (cs.foldl (tx1 b h) (tx1 b h acc c)).length ≤ _
    rw [List.length_cons]; omega
theorem tx3s_len (b : Option Int) : ∀ (L acc : List Int), (L.foldl (tx3 b) acc).length ≤ acc.length + 3 * L.length
  | [], acc => Nat.le_refl _
  | h :: L, acc => by
    have h1 := txs_len b h [117, 108, 100] acc
    have h2 := tx3s_len b L (tx3 b acc h)
    have h3 : (tx3 b acc h).length ≤ acc.length + 3 := h1
    show (L.foldl (tx3 b) (tx3 b acc h)).length ≤ _
    rw [List.length_cons]; omega
theorem tW_len (b : Option Int) (f : Int) : ∀ l, (tW b f l).length ≤ 3 ^ l
  | 0 => by unfold tW; split <;> simp
  | l + 1 => by
    have h1 := tx3s_len b (tW b f l) []
    have h2 := tW_len b f l
    show ((tW b f l).foldl (tx3 b) []).length ≤ _
    rw [Nat.pow_succ]
    simp at h1
    omega
def outsG (g : Int) (L : List Int) : List (Option D) := L.map fun h => if h = g then some (.int h) else none
theorem outsG_cn (g : Int) : ∀ L : List Int, ((((outsG g L).filterMap id).length : Nat) : Int) = cn L g
  | [] => rfl
  | h :: L => by
    have ih := outsG_cn g L
    unfold cn at ih ⊢
    show ((((if h = g then some (PyData.int h) else none) :: outsG g L).filterMap id).length : Int) = _
    by_cases e : h = g
    · subst e
      rw [if_pos rfl, List.count_cons_self]
      simp only [List.filterMap_cons, id, List.length_cons]
      omega
    · rw [if_neg e, List.count_cons_of_ne e]
      simp only [List.filterMap_cons, id]
      exact ih
/-- digits -/
def digC (c : Int) (zs : List Int) : Nat → Int
  | 0 => c
  | i + 1 => digC c zs i / zs.getD i 1
def digN (c : Int) (zs : List Int) (i : Nat) : List Int := (List.range i).map fun j => digC c zs j % zs.getD j 1
theorem digN_succ {c : Int} {zs : List Int} {i : Nat} {z : Int} (h : zs[i]? = some z) : digN c zs (i + 1) = digN c zs i ++ [digC c zs i % z] := by
  unfold digN
  rw [map_range_succ, List.getD_eq_getElem?_getD, h]; rfl
theorem digC_succ {c : Int} {zs : List Int} {i : Nat} {z : Int} (h : zs[i]? = some z) : digC c zs (i + 1) = digC c zs i / z := by
  show digC c zs i / zs.getD i 1 = _
  rw [List.getD_eq_getElem?_getD, h]; rfl
theorem digN_len (c : Int) (zs : List Int) (i : Nat) : (digN c zs i).length = i := by simp [digN]
theorem digN_get {c : Int} {zs : List Int} {i j : Nat} {z : Int} (hj : j < i) (h : zs[j]? = some z) : (digN c zs i)[j]? = some (digC c zs j % z) := by
  unfold digN
  rw [List.getElem?_map, List.getElem?_range hj]
  simp [List.getD_eq_getElem?_getD, h]
theorem at_none {x : Int} (h0 : 0 ≤ x) (h1 : x ≤ 10) : L2.atI [PyData.int x, .none] (x / 10) = some (dO (if x < 10 then some x else none)) := by
  by_cases e : x < 10
  · rw [if_pos e, show x / 10 = 0 by omega]; rfl
  · rw [if_neg e, show x / 10 = 1 by omega]; rfl
end Mf

namespace Mf
open PySem Hf
def inR (b : Option Int) (h : Int) : Prop := 0 ≤ h ∧ lieB h b = true
instance (b : Option Int) (h : Int) : Decidable (inR b h) := by unfold inR; infer_instance
def wV (b : Option Int) : Nat → Int → Int → Int
  | 0, f, g => if inR b f ∧ f = g then 1 else 0
  | l + 1, f, g => if inR b g then wV b l f (g - 1) + wV b l f g + wV b l f (g + 1) else 0
theorem wV_s (b : Option Int) (l : Nat) (f g : Int) : wV b (l + 1) f g = if inR b g then wV b l f (g - 1) + wV b l f g + wV b l f (g + 1) else 0 := rfl
theorem wV_out {b : Option Int} : ∀ {l : Nat} {f g : Int}, ¬ inR b g → wV b l f g = 0
  | 0, f, g, h => if_neg fun z : inR b f ∧ f = g => h (z.2 ▸ z.1)
  | l + 1, f, g, h => if_neg h
theorem wV_outF {b : Option Int} : ∀ {l : Nat} {f g : Int}, ¬ inR b f → wV b l f g = 0
  | 0, f, g, h => if_neg fun z => h z.1
  | l + 1, f, g, h => by rw [wV_s, wV_outF h, wV_outF h, wV_outF h]; split <;> rfl
/-- the first step told -/
theorem wV_first (b : Option Int) : ∀ (l : Nat) (f g : Int), wV b (l + 1) f g = if inR b f then wV b l (f - 1) g + wV b l f g + wV b l (f + 1) g else 0
  | 0, f, g => by
    rw [wV_s]
    show (if inR b g then (if inR b f ∧ f = g - 1 then 1 else 0) + (if inR b f ∧ f = g then 1 else 0) + (if inR b f ∧ f = g + 1 then 1 else 0) else 0) =
      if inR b f then (if inR b (f - 1) ∧ f - 1 = g then 1 else 0) + (if inR b f ∧ f = g then 1 else 0) + (if inR b (f + 1) ∧ f + 1 = g then (1 : Int) else 0) else 0
    by_cases hf : inR b f
    · by_cases hg : inR b g
      · rw [if_pos hf, if_pos hg]
        have e1 : (inR b f ∧ f = g - 1) ↔ (inR b (f + 1) ∧ f + 1 = g) := ⟨fun z => ⟨by rw [show f + 1 = g by omega]; exact hg, by omega⟩, fun z => ⟨hf, by omega⟩⟩
        have e2 : (inR b f ∧ f = g + 1) ↔ (inR b (f - 1) ∧ f - 1 = g) := ⟨fun z => ⟨by rw [show f - 1 = g by omega]; exact hg, by omega⟩, fun z => ⟨hf, by omega⟩⟩
        simp only [e1, e2]
        omega
      · rw [if_pos hf, if_neg hg, if_neg (fun z : inR b (f - 1) ∧ f - 1 = g => hg (z.2 ▸ z.1)), if_neg (fun z : inR b f ∧ f = g => hg (z.2 ▸ z.1)), if_neg (fun z : inR b (f + 1) ∧ f + 1 = g => hg (z.2 ▸ z.1))]; rfl
    · have n1 : ∀ y : Int, ¬ (inR b f ∧ f = y) := fun y z => hf z.1
      simp only [if_neg hf, if_neg (n1 _)]
      split <;> rfl
  | l + 1, f, g => by
    have s1 := wV_s b l (f - 1) g
    have s2 := wV_s b l f g
    have s3 := wV_s b l (f + 1) g
    have a1 := wV_first b l f (g - 1)
    have a2 := wV_first b l f g
    have a3 := wV_first b l f (g + 1)
    rw [wV_s b (l + 1) f g]
    by_cases hf : inR b f
    · simp only [if_pos hf] at a1 a2 a3 ⊢
      by_cases hg : inR b g
      · simp only [if_pos hg] at s1 s2 s3 ⊢; omega
      · simp only [if_neg hg] at s1 s2 s3 ⊢; omega
    · simp only [if_neg hf] at a1 a2 a3 ⊢
      rw [a1, a2, a3]
      split <;> rfl
theorem wV_sym (b : Option Int) : ∀ (l : Nat) (f g : Int), wV b l f g = wV b l g f
  | 0, f, g => by
    show (if inR b f ∧ f = g then (1 : Int) else 0) = if inR b g ∧ g = f then 1 else 0
    by_cases e : f = g
    · subst e; rfl
    · rw [if_neg (fun z => e z.2), if_neg (fun z => e z.2.symm)]
  | l + 1, f, g => by rw [wV_s, wV_first, wV_sym b l f, wV_sym b l f, wV_sym b l f]
/-- sums over the heights -/
def sZ (F : Int → Int) : Nat → Int
  | 0 => 0
  | n + 1 => sZ F n + F n
theorem sZ_ext {F G : Int → Int} : ∀ {n : Nat}, (∀ i : Nat, i < n → F i = G i) → sZ F n = sZ G n
  | 0, _ => rfl
  | n + 1, h => by show sZ F n + F n = sZ G n + G n; rw [sZ_ext fun i hi => h i (by omega), h n (by omega)]
theorem sZ_zero {F : Int → Int} : ∀ {n : Nat}, (∀ i : Nat, i < n → F i = 0) → sZ F n = 0
  | 0, _ => rfl
  | n + 1, h => by show sZ F n + F n = 0; rw [sZ_zero fun i hi => h i (by omega), h n (by omega)]; rfl
theorem sZ_add (F G : Int → Int) : ∀ n : Nat, sZ (fun i => F i + G i) n = sZ F n + sZ G n
  | 0 => rfl
  | n + 1 => by show sZ _ n + (F n + G n) = sZ F n + F n + (sZ G n + G n); rw [sZ_add F G n]; omega
theorem sZ_one {F : Int → Int} {g : Int} (h0 : 0 ≤ g) : ∀ {n : Nat}, (∀ i : Nat, i < n → (i : Int) ≠ g → F i = 0) → sZ F n = if g < n then F g else 0
  | 0, _ => by rw [if_neg (by omega)]; rfl
  | n + 1, h => by
    show sZ F n + F n = _
    rw [sZ_one h0 fun i hi => h i (by omega)]
    by_cases e : (n : Int) = g
    · rw [if_neg (by omega), if_pos (by omega), ← e]; omega
    · rw [h n (by omega) e]
      by_cases e2 : g < n
      · rw [if_pos e2, if_pos (by omega)]; omega
      · rw [if_neg e2, if_neg (by omega)]; rfl
/-- by way of all heights at a place -/
theorem wV_part {n : Nat} (a : Nat) (f : Int) : ∀ (c : Nat) (g : Int), sZ (fun h => wV (some (n : Int)) a f h * wV (some (n : Int)) c h g) n = wV (some (n : Int)) (a + c) f g
  | 0, g => by
    by_cases hg : inR (some (n : Int)) g
    · rw [sZ_one (g := g) hg.1 fun i _ hi => ?_]
      · have h2 : g < (n : Int) := of_decide_eq_true hg.2
        rw [if_pos h2]
        show wV _ a f g * (if inR _ g ∧ g = g then 1 else 0) = _
        rw [if_pos ⟨hg, rfl⟩, Int.mul_one]; rfl
      · show _ * (if inR _ (i : Int) ∧ (i : Int) = g then (1 : Int) else 0) = 0
        rw [if_neg (fun z => hi z.2), Int.mul_zero]
    · rw [wV_out hg]
      exact sZ_zero fun i _ => by rw [wV_out hg, Int.mul_zero]
  | c + 1, g => by
    rw [show a + (c + 1) = (a + c) + 1 by omega, wV_s]
    by_cases hg : inR (some (n : Int)) g
    · rw [if_pos hg, ← wV_part a f c (g - 1), ← wV_part a f c g, ← wV_part a f c (g + 1), ← sZ_add, ← sZ_add]
      exact sZ_ext fun i _ => by rw [wV_s, if_pos hg, Int.mul_add, Int.mul_add]
    · rw [if_neg hg]
      exact sZ_zero fun i _ => by rw [wV_s, if_neg hg, Int.mul_zero]
/-- no way rises so fast -/
theorem wV_far {b : Option Int} : ∀ {l : Nat} {f g : Int}, f + l < g → wV b l f g = 0
  | 0, f, g, h => if_neg fun z : inR b f ∧ f = g => by have := z.2; simp at h; omega
  | l + 1, f, g, h => by
    rw [wV_s, wV_far (f := f) (g := g - 1) (by omega), wV_far (f := f) (g := g) (by omega), wV_far (f := f) (g := g + 1) (by omega)]
    split <;> rfl
/-- a bound that no way comes to -/
theorem wV_free : ∀ (l : Nat) (f g : Int), 0 ≤ f → 0 ≤ g → (l : Int) + f + g < 18 → wV none l f g = wV (some 9) l f g
  | 0, f, g, h0, h1, h => by
    show (if inR none f ∧ f = g then (1 : Int) else 0) = if inR (some 9) f ∧ f = g then 1 else 0
    by_cases e : f = g
    · rw [if_pos ⟨⟨h0, rfl⟩, e⟩, if_pos ⟨⟨h0, decide_eq_true (by simp at h; omega)⟩, e⟩]
    · rw [if_neg (fun z => e z.2), if_neg (fun z => e z.2)]
  | l + 1, f, g, h0, h1, h => by
    rw [wV_s, wV_s, if_pos ⟨h1, rfl⟩]
    by_cases e : g < 9
    · rw [if_pos ⟨h1, decide_eq_true e⟩, wV_free l f g h0 h1 (by omega), wV_free l f (g + 1) h0 (by omega) (by omega)]
      by_cases e2 : g = 0
      · subst e2
        rw [wV_out (b := none) (g := 0 - 1) (fun z => by have := z.1; omega), wV_out (b := some 9) (g := 0 - 1) (fun z => by have := z.1; omega)]
      · rw [wV_free l f (g - 1) h0 (by omega) (by omega)]
    · rw [if_neg (fun z => e (of_decide_eq_true z.2)), wV_far (by omega), wV_far (by omega), wV_far (by omega)]; rfl
theorem hits_is (b : Option Int) (g h : Int) : hits b g h = if inR b g then (if h = g - 1 then 1 else 0) + (if h = g then 1 else 0) + (if h = g + 1 then 1 else 0) else 0 := by
  unfold hits hit
  have r1 : riseN 100 = -1 := rfl
  have r2 : riseN 108 = 0 := rfl
  have r3 : riseN 117 = 1 := rfl
  rw [r1, r2, r3]
  by_cases e1 : h = g - 1
  · subst e1
    have a1 : ¬ g = g - 1 + -1 := by omega
    have a2 : ¬ g = g - 1 + 0 := by omega
    have a3 : ¬ g - 1 = g := by omega
    have a4 : ¬ g - 1 = g + 1 := by omega
    have a5 : g - 1 + 1 = g := by omega
    simp only [a1, a2, a3, a4, a5, and_false, if_false, if_true, and_true]
    unfold inR; split <;> simp_all
  · by_cases e2 : h = g
    · subst e2
      have a1 : ¬ h = h + -1 := by omega
      have a2 : h + 0 = h := by omega
      have a3 : ¬ h = h - 1 := by omega
      have a4 : ¬ h = h + 1 := by omega
      simp only [a1, a2, a3, a4, and_false, if_false, if_true, and_true]
      unfold inR; split <;> simp_all
    · by_cases e3 : h = g + 1
      · subst e3
        have a1 : g + 1 + -1 = g := by omega
        have a2 : ¬ g = g + 1 + 0 := by omega
        have a3 : ¬ g + 1 = g - 1 := by omega
        have a4 : ¬ g + 1 = g := by omega
        have a5 : ¬ g = g + 1 + 1 := by omega
        simp only [a1, a2, a3, a4, a5, and_false, if_false, if_true, and_true]
        unfold inR; split <;> simp_all
      · have a1 : ¬ g = h + -1 := by omega
        have a2 : ¬ g = h + 0 := by omega
        have a3 : ¬ g = h + 1 := by omega
        simp only [a1, a2, a3, e1, e2, e3, and_false, if_false]
        split <;> rfl
theorem cn_cons (x : Int) (L : List Int) (g : Int) : cn (x :: L) g = (if x = g then 1 else 0) + cn L g := by
  unfold cn
  rw [List.count_cons]
  by_cases e : x = g
  · subst e; simp; omega
  · simp [e]
theorem sumL_hits (b : Option Int) (g : Int) : ∀ L : List Int, sumL (hits b g) L = if inR b g then cn L (g - 1) + cn L g + cn L (g + 1) else 0
  | [] => by simp [sumL, cn]
  | h :: L => by
    show hits b g h + sumL (hits b g) L = _
    rw [sumL_hits b g L, hits_is, cn_cons, cn_cons, cn_cons]
    split <;> omega
theorem cn_wV (b : Option Int) {f : Int} (hf : 0 ≤ f) : ∀ (l : Nat) (g : Int), cn (tW b f l) g = wV b l f g
  | 0, g => by
    show cn (if lieB f b = true then [f] else []) g = if inR b f ∧ f = g then 1 else 0
    by_cases e : lieB f b = true
    · rw [if_pos e, cn_cons]
      have : inR b f := ⟨hf, e⟩
      by_cases e2 : f = g
      · rw [if_pos e2, if_pos ⟨this, e2⟩]; rfl
      · rw [if_neg e2, if_neg (fun z => e2 z.2)]; rfl
    · rw [if_neg e, if_neg (fun z => e z.1.2)]; rfl
  | l + 1, g => by
    show cn ((tW b f l).foldl (tx3 b) []) g = _
    rw [cn_txF, sumL_hits, wV_s, cn_wV b hf l, cn_wV b hf l, cn_wV b hf l]
    show 0 + _ = _
    omega
theorem vA_wV (b : Option Int) {f : Int} (hf : 0 ≤ f) (l : Nat) (g : Int) : vA (wC b f l) g = wV b l f g := by rw [wC_tW b hf, cn_wV b hf]
end Mf
namespace Mf
open PySem Hf
/-- whole numbers by their places -/
def mF (n : Nat) (F : Nat → Int) : List D := (List.range n).map fun t => .int (F t)
theorem mF_len (n : Nat) (F : Nat → Int) : (mF n F).length = n := by simp [mF]
theorem mF_get {n m : Nat} {F : Nat → Int} (h : m < n) : (mF n F)[m]? = some (.int (F m)) := by
  unfold mF; rw [List.getElem?_map, List.getElem?_range h]; rfl
theorem mF_at {n m : Nat} {F : Nat → Int} {k : Int} (hk : k = (m : Int)) (h : m < n) : L2.atI (mF n F) k = some (.int (F m)) := get_rng (F := fun t => PyData.int (F t)) hk h
theorem mF_ext {n : Nat} {F G : Nat → Int} (h : ∀ t, t < n → F t = G t) : mF n F = mF n G := by
  unfold mF
  exact List.map_congr_left fun t ht => by rw [h t (List.mem_range.mp ht)]
theorem mF_set {n m : Nat} {F : Nat → Int} (x : Int) : (mF n F).set m (.int x) = mF n (fun t => if t = m then x else F t) := by
  unfold mF
  apply List.ext_getElem?
  intro j
  rw [List.getElem?_set]
  by_cases hj : j < n
  · rw [List.getElem?_map, List.getElem?_map, List.getElem?_range hj]
    by_cases e : m = j
    · subst e; simp [hj]
    · have : ¬ j = m := fun z => e z.symm
      simp [e, this]
  · rw [List.getElem?_map, List.getElem?_map, List.getElem?_eq_none (by simpa using hj)]
    by_cases e : m = j
    · subst e; simp; omega
    · simp [e]
theorem mF_rep (n : Nat) : List.replicate n (PyData.int 0) = mF n (fun _ => 0) := by
  unfold mF
  apply List.ext_getElem?
  intro j
  by_cases hj : j < n
  · rw [List.getElem?_map, List.getElem?_range hj, List.getElem?_replicate, if_pos hj]; rfl
  · rw [List.getElem?_eq_none (by simpa using hj), List.getElem?_eq_none (by simpa using hj)]
/-- what the first so many heights give to t -/
def fS (c : Nat → Int) (t : Nat) : Nat → Int
  | 0 => 0
  | h + 1 => fS c t h + if h ≤ t + 1 ∧ t ≤ h + 1 then c h else 0
theorem fS_all {c : Nat → Int} {t n : Nat} (ht : t < n) : fS c t n = (if 0 < t then c (t - 1) else 0) + c t + (if t + 1 < n then c (t + 1) else 0) := by
  have low : ∀ h, h + 1 ≤ t → fS c t h = 0 := by
    intro h
    induction h with
    | zero => intro _; rfl
    | succ h ih => intro hh; show fS c t h + _ = 0; rw [ih (by omega), if_neg (by omega)]; rfl
  have a0 : fS c t t = if 0 < t then c (t - 1) else 0 := by
    cases t with
    | zero => rfl
    | succ t =>
      show fS c (t + 1) t + _ = _
      rw [low t (by omega), if_pos (by omega), if_pos (by omega)]
      simp
  have a1 : fS c t (t + 1) = (if 0 < t then c (t - 1) else 0) + c t := by
    show fS c t t + _ = _
    rw [a0, if_pos (show t ≤ t + 1 ∧ t ≤ t + 1 by omega)]
  have a2 : ∀ k, fS c t (t + 2 + k) = (if 0 < t then c (t - 1) else 0) + c t + c (t + 1) := by
    intro k
    induction k with
    | zero =>
      show fS c t (t + 1) + _ = _
      rw [a1, if_pos (show t + 1 ≤ t + 1 ∧ t ≤ t + 1 + 1 by omega)]
    | succ k ih =>
      show fS c t (t + 2 + k) + (if t + 2 + k ≤ t + 1 ∧ t ≤ t + 2 + k + 1 then c (t + 2 + k) else 0) = _
      rw [ih, if_neg (show ¬ (t + 2 + k ≤ t + 1 ∧ t ≤ t + 2 + k + 1) by omega)]; exact Int.add_zero _
  by_cases e : t + 1 < n
  · rw [if_pos e, show n = t + 2 + (n - (t + 2)) by omega, a2]
  · rw [if_neg e, show n = t + 1 by omega, a1]; omega
theorem fS_wV {n l t : Nat} {f : Int} (ht : t < n) : fS (fun h : Nat => wV (some (n : Int)) l f h) t n = wV (some (n : Int)) (l + 1) f t := by
  rw [fS_all ht, wV_s, if_pos (show inR (some (n : Int)) (t : Int) from ⟨by omega, decide_eq_true (by omega)⟩)]
  have e1 : (if 0 < t then wV (some (n : Int)) l f ((t - 1 : Nat) : Int) else 0) = wV (some (n : Int)) l f ((t : Int) - 1) := by
    by_cases h : 0 < t
    · rw [if_pos h, show ((t - 1 : Nat) : Int) = (t : Int) - 1 by omega]
    · rw [if_neg h, wV_out fun z => by have := z.1; omega]
  have e2 : (if t + 1 < n then wV (some (n : Int)) l f ((t + 1 : Nat) : Int) else 0) = wV (some (n : Int)) l f ((t : Int) + 1) := by
    by_cases h : t + 1 < n
    · rw [if_pos h, show ((t + 1 : Nat) : Int) = (t : Int) + 1 by omega]
    · rw [if_neg h, wV_out fun z => by have := of_decide_eq_true (show decide ((t : Int) + 1 < (n : Int)) = true from z.2); omega]
  rw [e1, e2]
theorem motz : ∀ l : Fin 16, vA (wC none 0 l.val) 0 = [1, 1, 2, 4, 9, 21, 51, 127, 323, 835, 2188, 5798, 15511, 41835, 113634, 310572].getD l.val 0 := by decide +kernel
end Mf
namespace Mf
open PySem Hf
theorem wV_bd (b : Option Int) : ∀ (l : Nat) (f g : Int), 0 ≤ wV b l f g ∧ wV b l f g ≤ ((3 ^ l : Nat) : Int)
  | 0, f, g => by
    show 0 ≤ (if inR b f ∧ f = g then (1 : Int) else 0) ∧ (if inR b f ∧ f = g then (1 : Int) else 0) ≤ _
    split <;> simp
  | l + 1, f, g => by
    have h1 := wV_bd b l f (g - 1)
    have h2 := wV_bd b l f g
    have h3 := wV_bd b l f (g + 1)
    rw [wV_s, Nat.pow_succ]
    split <;> omega
theorem motz_at {l : Nat} (h : l ≤ 15) : L2.atI ([1, 1, 2, 4, 9, 21, 51, 127, 323, 835, 2188, 5798, 15511, 41835, 113634, 310572].map PyData.int) (l : Int) = some (.int (wV none l 0 0)) := by
  rw [at_ints (n := l) rfl (x := [1, 1, 2, 4, 9, 21, 51, 127, 323, 835, 2188, 5798, 15511, 41835, 113634, 310572].getD l 0) (by
    rw [List.getD_eq_getElem?_getD, List.getElem?_eq_getElem (show l < 16 by omega)]; rfl)]
  rw [← motz ⟨l, by omega⟩, vA_wV none (by decide)]
end Mf

namespace Mf
open PySem Hf
abbrev MQ := List (Int × Rat)
abbrev mQ (m : MQ) : List (Int × D) := mV (fun q : Rat => dFr q) m
def vQ (m : MQ) (g : Int) : Rat := (vI m g).getD 0
def keyQ (m : MQ) : List Int := m.map (·.1)
/-- heights once each, from nought to K -/
def KinQ (K : Int) (m : MQ) : Prop := (keyQ m).Nodup ∧ ∀ p ∈ m, 0 ≤ p.1 ∧ p.1 ≤ K
theorem vQ_cons (p : Int × Rat) (m : MQ) (g : Int) : vQ (p :: m) g = if p.1 = g then p.2 else vQ m g := by
  unfold vQ vI
  by_cases e : p.1 = g <;> simp [e]
theorem vQ_map (j : Int) (x : Rat) (g : Int) : ∀ m : MQ, vQ (m.map fun p => if p.1 = j then (p.1, x) else p) g = if g = j ∧ (m.any fun p => decide (p.1 = j)) = true then x else vQ m g
  | [] => by simp [vQ, vI]
  | p :: m => by
    rw [List.map_cons, vQ_cons, vQ_map j x g m, vQ_cons]
    by_cases e : p.1 = j
    · rw [if_pos e]
      by_cases e2 : p.1 = g
      · simp [e, e2, ← e2]
      · have : g ≠ j := fun z => e2 (by rw [e, z])
        simp [e2, this]
    · rw [if_neg e]
      by_cases e2 : p.1 = g
      · have : g ≠ j := fun z => e (by rw [e2, z])
        simp [e2, this]
      · rw [if_neg e2, if_neg e2, List.any_cons, decide_eq_false e, Bool.false_or]
theorem vQ_app (j : Int) (x : Rat) (g : Int) : ∀ m : MQ, (m.any fun p => decide (p.1 = j)) ≠ true → vQ (m ++ [(j, x)]) g = if g = j then x else vQ m g
  | [], _ => by
    by_cases e : j = g
    · simp [vQ, vI, e]
    · have : g ≠ j := fun z => e z.symm
      simp [vQ, vI, e, this]
  | p :: m, h => by
    have h1 : ¬ p.1 = j := fun z => h (by rw [List.any_cons, decide_eq_true z]; rfl)
    have h2 : (m.any fun p => decide (p.1 = j)) ≠ true := fun z => h (by rw [List.any_cons, z, Bool.or_true])
    rw [List.cons_append, vQ_cons, vQ_app j x g m h2, vQ_cons]
    by_cases e2 : p.1 = g
    · have : g ≠ j := fun z => h1 (by rw [e2, z])
      simp [e2, this]
    · simp [e2]
theorem vQ_put (m : MQ) (j : Int) (x : Rat) (g : Int) : vQ (pI m j x) g = if g = j then x else vQ m g := by
  unfold pI
  by_cases h : (m.any fun p => decide (p.1 = j)) = true
  · rw [if_pos h, vQ_map]
    simp only [h, and_true]
  · rw [if_neg h, vQ_app j x g m h]
theorem KinQ.put {K : Int} {m : MQ} {j : Int} {x : Rat} (h : KinQ K m) (h0 : 0 ≤ j) (h1 : j ≤ K) : KinQ K (pI m j x) := by
  unfold pI
  by_cases hm : (m.any fun p => decide (p.1 = j)) = true
  · rw [if_pos hm]
    have e : keyQ (m.map fun p => if p.1 = j then (p.1, x) else p) = keyQ m := by
      unfold keyQ
      rw [List.map_map]
      refine List.map_congr_left fun p _ => ?_
      by_cases e : p.1 = j <;> simp [e]
    refine ⟨by rw [e]; exact h.1, fun p hp => ?_⟩
    obtain ⟨q, hq, rfl⟩ := List.mem_map.mp hp
    have := h.2 q hq
    by_cases e : q.1 = j
    · rw [if_pos e]; exact this
    · rw [if_neg e]; exact this
  · rw [if_neg hm]
    refine ⟨?_, fun p hp => ?_⟩
    · unfold keyQ
      rw [List.map_append]
      refine List.nodup_append.mpr ⟨h.1, by simp, fun a ha b hb e => ?_⟩
      obtain ⟨q, hq, rfl⟩ := List.mem_map.mp ha
      simp at hb
      subst hb
      exact hm (List.any_eq_true.mpr ⟨q, hq, by simpa using e⟩)
    · rcases List.mem_append.mp hp with hp | hp
      · exact h.2 p hp
      · rw [List.mem_singleton.mp hp]; exact ⟨h0, h1⟩
theorem KinQ.nil (K : Int) : KinQ K [] := ⟨List.nodup_nil, fun p hp => nomatch hp⟩
theorem KinQ.len {K : Int} {m : MQ} (h : KinQ K m) (h0 : 0 ≤ K) : m.length ≤ K.toNat + 1 := by
  have := nodup_len (K.toNat + 1) (keyQ m) h.1 fun x hx => by
    obtain ⟨p, hp, rfl⟩ := List.mem_map.mp hx
    have := h.2 p hp
    omega
  simpa [keyQ] using this
/-- all values whole numbers over D, of B bits -/
def DvM (D B : Nat) (m : MQ) : Prop := ∀ p ∈ m, Dv D B p.2
theorem DvM.get {D B : Nat} {m : MQ} (h : DvM D B m) (g : Int) : Dv D B (vQ m g) := by
  induction m with
  | nil => exact Dv.zero _ _
  | cons p m ih =>
    rw [vQ_cons]
    by_cases e : p.1 = g
    · rw [if_pos e]; exact h p List.mem_cons_self
    · rw [if_neg e]; exact ih fun q hq => h q (List.mem_cons_of_mem _ hq)
theorem DvM.mono {D B C : Nat} {m : MQ} (h : DvM D B m) (le : B ≤ C) : DvM D C m := fun p hp => (h p hp).mono le
theorem DvM.put {D B : Nat} {m : MQ} {j : Int} {x : Rat} (h : DvM D B m) (hx : Dv D B x) : DvM D B (pI m j x) := fun p hp => by
  unfold pI at hp
  by_cases hm : (m.any fun p => decide (p.1 = j)) = true
  · rw [if_pos hm] at hp
    obtain ⟨q, hq, rfl⟩ := List.mem_map.mp hp
    by_cases e : q.1 = j
    · rw [if_pos e]; exact hx
    · rw [if_neg e]; exact h q hq
  · rw [if_neg hm] at hp
    rcases List.mem_append.mp hp with hp | hp
    · exact h p hp
    · rw [List.mem_singleton.mp hp]; exact hx
/-- from the height 0 to k, below b -/
def inK (k : Nat) (b : Option Int) (g : Int) : Prop := 0 ≤ g ∧ g ≤ k ∧ lieB g b = true
instance (k : Nat) (b : Option Int) (g : Int) : Decidable (inK k b g) := by unfold inK; infer_instance
/-- the weight of the step d, l, u (0, 1, 2) from a height -/
def sW (lv dn : List Rat) (q : Nat) (h : Int) : Rat := if q = 0 then dn.getD (h - 1).toNat 0 else if q = 1 then lv.getD h.toNat 0 else 1
/-- what the first q steps from h bring to g -/
def psi (b : Option Int) (lv dn : List Rat) (h g : Int) : Nat → Rat
  | 0 => 0
  | q + 1 => psi b lv dn h g q + if inK dn.length b g ∧ g = h + (q : Int) - 1 then sW lv dn q h else 0
/-- the first so many entries' gifts to g -/
def sMQ (b : Option Int) (lv dn : List Rat) (g : Int) : MQ → Rat
  | [] => 0
  | p :: m => p.2 * psi b lv dn p.1 g 3 + sMQ b lv dn g m
theorem sMQ_app (b : Option Int) (lv dn : List Rat) (g : Int) (p : Int × Rat) : ∀ m : MQ, sMQ b lv dn g (m ++ [p]) = sMQ b lv dn g m + p.2 * psi b lv dn p.1 g 3
  | [] => by show _ + 0 = 0 + _; grind
  | q :: m => by show _ + sMQ b lv dn g (m ++ [p]) = _ + sMQ b lv dn g m + _; rw [sMQ_app b lv dn g p m]; grind
/-- one step by height -/
def stQ (b : Option Int) (lv dn : List Rat) (F : Int → Rat) (g : Int) : Rat :=
  if inK dn.length b g then F (g - 1) + F g * lv.getD g.toNat 0 + F (g + 1) * dn.getD g.toNat 0 else 0
theorem psi3 (b : Option Int) (lv dn : List Rat) (h g : Int) : psi b lv dn h g 3 = if inK dn.length b g then (if h = g + 1 then dn.getD g.toNat 0 else 0) + (if h = g then lv.getD g.toNat 0 else 0) + (if h = g - 1 then 1 else 0) else 0 := by
  unfold psi psi psi psi
  have i0 : ∀ q : Nat, sW lv dn 0 h = dn.getD (h - 1).toNat 0 := fun _ => rfl
  have s0 : sW lv dn 0 h = dn.getD (h - 1).toNat 0 := rfl
  have s1 : sW lv dn 1 h = lv.getD h.toNat 0 := rfl
  have s2 : sW lv dn 2 h = 1 := rfl
  rw [s0, s1, s2]
  by_cases hi : inK dn.length b g
  · simp only [hi, true_and, if_true]
    have e0 : (g = h + ((0 : Nat) : Int) - 1) ↔ h = g + 1 := by omega
    have e1 : (g = h + ((1 : Nat) : Int) - 1) ↔ h = g := by omega
    have e2 : (g = h + ((2 : Nat) : Int) - 1) ↔ h = g - 1 := by omega
    simp only [e0, e1, e2]
    by_cases a : h = g + 1
    · have b1 : ¬ h = g := by omega
      have b2 : ¬ h = g - 1 := by omega
      simp only [if_pos a, if_neg b1, if_neg b2, show (h - 1).toNat = g.toNat by omega]; grind
    · by_cases a1 : h = g
      · have b2 : ¬ h = g - 1 := by omega
        subst a1; simp only [if_neg a, if_neg b2, if_true]; grind
      · rw [if_neg a, if_neg a, if_neg a1, if_neg a1]; grind
  · simp only [hi, false_and, if_false]; grind
/-- an entry for each height: the gifts are the step -/
theorem vQ_not {m : MQ} {g : Int} (h : g ∉ keyQ m) : vQ m g = 0 := by
  unfold vQ vI
  rw [List.find?_eq_none.mpr fun q hq => ?_]; rfl
  simp only [decide_eq_true_eq]
  intro z
  exact h (List.mem_map.mpr ⟨q, hq, z⟩)
theorem sMQ_is (b : Option Int) (lv dn : List Rat) (g : Int) : ∀ m : MQ, (keyQ m).Nodup → sMQ b lv dn g m = stQ b lv dn (vQ m) g
  | [], _ => by
    unfold stQ
    show (0 : Rat) = if _ then vQ [] _ + vQ [] _ * _ + vQ [] _ * _ else 0
    have : ∀ g, vQ [] g = 0 := fun _ => rfl
    rw [this, this, this]
    split <;> grind
  | p :: m, hn => by
    have hn' := List.nodup_cons.mp hn
    have hp : p.1 ∉ keyQ m := hn'.1
    show p.2 * psi b lv dn p.1 g 3 + sMQ b lv dn g m = _
    rw [sMQ_is b lv dn g m hn'.2, psi3]
    unfold stQ
    by_cases hi : inK dn.length b g
    · rw [if_pos hi, if_pos hi, if_pos hi, vQ_cons, vQ_cons, vQ_cons]
      by_cases a : p.1 = g + 1
      · have b1 : ¬ p.1 = g := by omega
        have b2 : ¬ p.1 = g - 1 := by omega
        rw [if_pos a, if_neg b1, if_neg b2, if_neg b2, if_neg b1, if_pos a, vQ_not (g := g + 1) (fun z => hp (by rw [a]; exact z))]; grind
      · by_cases a1 : p.1 = g
        · have b2 : ¬ p.1 = g - 1 := by omega
          rw [if_neg a, if_pos a1, if_neg b2, if_neg b2, if_pos a1, if_neg a, vQ_not (g := g) (fun z => hp (by rw [a1]; exact z))]; grind
        · by_cases a2 : p.1 = g - 1
          · rw [if_neg a, if_neg a1, if_pos a2, if_pos a2, if_neg a1, if_neg a, vQ_not (g := g - 1) (fun z => hp (by rw [a2]; exact z))]; grind
          · rw [if_neg a, if_neg a1, if_neg a2, if_neg a2, if_neg a1, if_neg a]; grind
    · rw [if_neg hi, if_neg hi, if_neg hi]; grind

theorem mQ_some {m : MQ} {i : Nat} {j : Int} {x : D} (h : (mQ m)[i]? = some (j, x)) : ∃ a q, m[i]? = some (a, q) ∧ j = a ∧ x = dFr q := by
  unfold mQ mV at h
  rw [List.getElem?_map] at h
  obtain ⟨q, hq, e⟩ := Option.map_eq_some_iff.mp h
  cases e
  exact ⟨q.1, q.2, hq, rfl, rfl⟩
theorem prsQ_len (m : MQ) : (prsD (ikv (mQ m))).length = m.length := by simp [prsD, ikv, mQ, mV]
theorem psi_put {b : Option Int} {lv dn : List Rat} {h : Int} {x : Rat} {q : Nat} {m' : MQ} {s : Int → Rat} (hi : inK dn.length b (h + (q : Int) - 1)) (hv : ∀ g, vQ m' g = s g + x * psi b lv dn h g q) (g : Int) :
    vQ (pI m' (h + (q : Int) - 1) (vQ m' (h + (q : Int) - 1) + x * sW lv dn q h)) g = s g + x * psi b lv dn h g (q + 1) := by
  rw [vQ_put]
  show _ = s g + x * (psi b lv dn h g q + if inK dn.length b g ∧ g = h + (q : Int) - 1 then sW lv dn q h else 0)
  by_cases e : g = h + (q : Int) - 1
  · rw [if_pos e, if_pos ⟨e ▸ hi, e⟩, ← e, hv]; grind
  · rw [if_neg e, if_neg (fun z => e z.2), hv]; grind
theorem psi_skip {b : Option Int} {lv dn : List Rat} {h : Int} {x : Rat} {q : Nat} {m' : MQ} {s : Int → Rat} (hi : ¬ inK dn.length b (h + (q : Int) - 1)) (hv : ∀ g, vQ m' g = s g + x * psi b lv dn h g q) (g : Int) :
    vQ m' g = s g + x * psi b lv dn h g (q + 1) := by
  show _ = s g + x * (psi b lv dn h g q + if inK dn.length b g ∧ g = h + (q : Int) - 1 then sW lv dn q h else 0)
  rw [if_neg (fun z : inK dn.length b g ∧ g = h + (q : Int) - 1 => hi (z.2 ▸ z.1)), hv]; grind
theorem sMQ_take {b : Option Int} {lv dn : List Rat} {m : MQ} {i : Nat} {h : Int} {x : Rat} (e : m[i]? = some (h, x)) (g : Int) : sMQ b lv dn g (m.take (i + 1)) = sMQ b lv dn g (m.take i) + x * psi b lv dn h g 3 := by
  rw [List.take_add_one, e]
  exact sMQ_app b lv dn g (h, x) (m.take i)
/-- bottoms that divide a power -/
theorem pw_lt0 (n : Nat) : 27720 ^ n < 2 ^ (15 * n + 1) := by
  rw [Nat.pow_succ, Nat.pow_mul]
  have : 27720 ^ n ≤ (2 ^ 15) ^ n := Nat.pow_le_pow_left (by decide) n
  have := Nat.pow_pos (n := n) (show 0 < 2 ^ 15 by decide)
  omega
@[irreducible] def pE (n : Nat) : Nat := 27720 ^ n
theorem pE_pos (n : Nat) : 0 < pE n := by unfold pE; exact Nat.pow_pos (by decide)
theorem pE_s (n : Nat) : pE (n + 1) = pE n * 27720 := by unfold pE; exact Nat.pow_succ _ _
theorem pE_0 : pE 0 = 1 := by unfold pE; rfl
theorem pw_lt (n : Nat) : pE n < 2 ^ (15 * n + 1) := by unfold pE; exact pw_lt0 n
theorem dvE_sz {n B : Nat} {q : Rat} (h : Dv (pE n) B q) (hn : n ≤ 200) (hB : B ≤ 4000) : Sz 4000 q := h.sz (pE_pos _) (pw_lt n) hB (by omega) (by decide)
def WOK (f : List Rat) : Prop := ∀ q ∈ f, Dv 27720 36 q
theorem WOK.get {f : List Rat} (h : WOK f) (k : Nat) : Dv 27720 36 (f.getD k 0) := dv_get h k
theorem WOK.sz {f : List Rat} (h : WOK f) (k : Nat) : Sz 4000 (f.getD k 0) := (h.get k).sz (A := 15) (by decide) (by decide) (by decide) (by decide) (by decide)
theorem sW_dv {lv dn : List Rat} (yl : WOK lv) (yd : WOK dn) (q : Nat) (h : Int) : Dv 27720 36 (sW lv dn q h) := by
  unfold sW
  split
  · exact yd.get _
  · split
    · exact yl.get _
    · exact (Dv.one (by decide) (A := 15) (by decide)).mono (by decide)
theorem mulE {n B : Nat} {x y : Rat} (h : Dv (pE n) B x) (g : Dv 27720 36 y) : Dv (pE (n + 1)) (B + 36) (x * y) := by
  rw [pE_s]
  exact h.mul g (pE_pos _) (by decide)
/-- sums from a height to a height -/
def uW (b : Option Int) (lv dn : List Rat) (f : Int) : Nat → Int → Rat
  | 0, g => if inK dn.length b f ∧ f = g then 1 else 0
  | l + 1, g => stQ b lv dn (uW b lv dn f l) g
theorem stQ_ext {b : Option Int} {lv dn : List Rat} {F G : Int → Rat} (h : ∀ g, F g = G g) (g : Int) : stQ b lv dn F g = stQ b lv dn G g := by
  rw [show F = G from funext h]
section
variable (b : Option Int) (lv dn : List Rat)
theorem uW_s (f : Int) (l : Nat) (g : Int) : uW b lv dn f (l + 1) g = if inK dn.length b g then uW b lv dn f l (g - 1) + uW b lv dn f l g * lv.getD g.toNat 0 + uW b lv dn f l (g + 1) * dn.getD g.toNat 0 else 0 := rfl
variable {b lv dn}
theorem uW_out : ∀ {l : Nat} {f g : Int}, ¬ inK dn.length b g → uW b lv dn f l g = 0
  | 0, f, g, h => if_neg fun z : inK dn.length b f ∧ f = g => h (z.2 ▸ z.1)
  | l + 1, f, g, h => if_neg h
theorem uW_outF : ∀ {l : Nat} {f g : Int}, ¬ inK dn.length b f → uW b lv dn f l g = 0
  | 0, f, g, h => if_neg fun z => h z.1
  | l + 1, f, g, h => by rw [uW_s, uW_outF h, uW_outF h, uW_outF h]; split <;> grind
theorem uW_first : ∀ (l : Nat) (f g : Int), uW b lv dn f (l + 1) g = if inK dn.length b f then dn.getD (f - 1).toNat 0 * uW b lv dn (f - 1) l g + lv.getD f.toNat 0 * uW b lv dn f l g + uW b lv dn (f + 1) l g else 0
  | 0, f, g => by
    rw [uW_s]
    show (if inK dn.length b g then (if inK dn.length b f ∧ f = g - 1 then 1 else 0) + (if inK dn.length b f ∧ f = g then 1 else 0) * lv.getD g.toNat 0 + (if inK dn.length b f ∧ f = g + 1 then 1 else 0) * dn.getD g.toNat 0 else 0) =
      if inK dn.length b f then dn.getD (f - 1).toNat 0 * (if inK dn.length b (f - 1) ∧ f - 1 = g then 1 else 0) + lv.getD f.toNat 0 * (if inK dn.length b f ∧ f = g then 1 else 0) + (if inK dn.length b (f + 1) ∧ f + 1 = g then (1 : Rat) else 0) else 0
    by_cases hf : inK dn.length b f
    · by_cases hg : inK dn.length b g
      · rw [if_pos hf, if_pos hg]
        have e1 : (inK dn.length b f ∧ f = g - 1) ↔ (inK dn.length b (f + 1) ∧ f + 1 = g) := ⟨fun z => ⟨by rw [show f + 1 = g by omega]; exact hg, by omega⟩, fun z => ⟨hf, by omega⟩⟩
        have e2 : (inK dn.length b f ∧ f = g + 1) ↔ (inK dn.length b (f - 1) ∧ f - 1 = g) := ⟨fun z => ⟨by rw [show f - 1 = g by omega]; exact hg, by omega⟩, fun z => ⟨hf, by omega⟩⟩
        simp only [e1, e2]
        by_cases q0 : f = g
        · subst q0; grind
        · by_cases q1 : f - 1 = g
          · rw [← q1]; grind
          · grind
      · rw [if_pos hf, if_neg hg, if_neg (fun z : inK dn.length b (f - 1) ∧ f - 1 = g => hg (z.2 ▸ z.1)), if_neg (fun z : inK dn.length b f ∧ f = g => hg (z.2 ▸ z.1)), if_neg (fun z : inK dn.length b (f + 1) ∧ f + 1 = g => hg (z.2 ▸ z.1))]; grind
    · have n1 : ∀ y : Int, ¬ (inK dn.length b f ∧ f = y) := fun y z => hf z.1
      simp only [if_neg hf, if_neg (n1 _)]
      split <;> grind
  | l + 1, f, g => by
    have s1 := uW_s b lv dn (f - 1) l g
    have s2 := uW_s b lv dn f l g
    have s3 := uW_s b lv dn (f + 1) l g
    have a1 := uW_first l f (g - 1)
    have a2 := uW_first l f g
    have a3 := uW_first l f (g + 1)
    rw [uW_s b lv dn f (l + 1) g]
    obtain ⟨X, hX⟩ : ∃ X, X = uW b lv dn f (l + 1) g := ⟨_, rfl⟩
    rw [← hX] at a2 s2 ⊢
    by_cases hf : inK dn.length b f
    · simp only [if_pos hf] at a1 a2 a3 ⊢
      by_cases hg : inK dn.length b g
      · simp only [if_pos hg] at s1 s2 s3 ⊢; rw [a1, a3, s1, s3]; grind
      · simp only [if_neg hg] at s1 s2 s3 ⊢; rw [s1, s2, s3]; grind
    · simp only [if_neg hf] at a1 a2 a3 ⊢
      rw [a1, a2, a3]
      split <;> grind
theorem uW_far : ∀ {l : Nat} {f g : Int}, f + l < g → uW b lv dn f l g = 0
  | 0, f, g, h => if_neg fun z => by have := z.2; omega
  | l + 1, f, g, h => by rw [uW_s, uW_far (by omega), uW_far (by omega), uW_far (by omega)]; split <;> grind
theorem uW_low : ∀ {l : Nat} {f g : Int}, g + l < f → uW b lv dn f l g = 0
  | 0, f, g, h => if_neg fun z => by have := z.2; omega
  | l + 1, f, g, h => by rw [uW_s, uW_low (by omega), uW_low (by omega), uW_low (by omega)]; split <;> grind
/-- straight up -/
theorem uW_up {f : Int} : ∀ l : Nat, inK dn.length b f → inK dn.length b (f + l) → uW b lv dn f l (f + l) = 1
  | 0, h, _ => if_pos ⟨h, by omega⟩
  | l + 1, h, h2 => by
    have h3 : inK dn.length b (f + l) := by
      obtain ⟨a, c, d⟩ := h2
      refine ⟨by have := h.1; omega, by omega, ?_⟩
      cases b with
      | none => rfl
      | some v => exact decide_eq_true (by have : f + ((l + 1 : Nat) : Int) < v := of_decide_eq_true d; omega)
    rw [uW_s, if_pos h2, show f + ((l + 1 : Nat) : Int) - 1 = f + l by omega, uW_up l h h3, uW_far (by omega), uW_far (by omega)]; grind
/-- the downs between two heights -/
def dP (dn : List Rat) (f : Nat) : Nat → Rat
  | 0 => 1
  | n + 1 => dP dn f n * dn.getD (f + n) 0
theorem uW_back : ∀ (l f n : Nat), uW b lv dn ((f + n : Nat) : Int) l f = uW b lv dn f l ((f + n : Nat) : Int) * dP dn f n
  | l, f, 0 => by show _ = _ * 1; grind
  | 0, f, n + 1 => by
    show (if _ then (1 : Rat) else 0) = (if _ then (1 : Rat) else 0) * _
    rw [if_neg (fun z => by have := z.2; omega), if_neg (fun z => by have := z.2; omega)]; grind
  | l + 1, f, n + 1 => by
    rw [uW_s b lv dn (f : Int) l, uW_first]
    by_cases hi : inK dn.length b ((f + (n + 1) : Nat) : Int)
    · rw [if_pos hi, if_pos hi]
      have a1 := uW_back l f n
      have a2 := uW_back l f (n + 1)
      have a3 := uW_back l f (n + 2)
      have e1 : ((f + (n + 1) : Nat) : Int) - 1 = ((f + n : Nat) : Int) := by omega
      have e2 : ((f + (n + 1) : Nat) : Int) + 1 = ((f + (n + 2) : Nat) : Int) := by omega
      rw [e1, e2, a1, a2, a3, Int.toNat_natCast, Int.toNat_natCast]
      show _ = _ * (dP dn f n * dn.getD (f + n) 0)
      rw [show dP dn f (n + 2) = dP dn f n * dn.getD (f + n) 0 * dn.getD (f + (n + 1)) 0 from rfl, show dP dn f (n + 1) = dP dn f n * dn.getD (f + n) 0 from rfl]
      grind
    · rw [if_neg hi, if_neg hi]; grind
/-- sums over heights -/
theorem SS_one {F : Nat → Rat} {g : Nat} : ∀ {n : Nat}, (∀ i, i < n → i ≠ g → F i = 0) → SS n F = if g < n then F g else 0
  | 0, _ => rfl
  | n + 1, h => by
    show SS n F + F n = _
    rw [SS_one fun i hi => h i (by omega)]
    by_cases e : g < n
    · rw [if_pos e, if_pos (by omega), h n (by omega) (by omega)]; grind
    · rw [if_neg e]
      by_cases e2 : g = n
      · rw [if_pos (by omega), e2]; grind
      · rw [if_neg (by omega), h n (by omega) (by omega)]; grind
theorem SS_lin (F G H : Nat → Rat) (x y : Rat) : ∀ n : Nat, SS n (fun i => F i + G i * x + H i * y) = SS n F + SS n G * x + SS n H * y
  | 0 => by show (0 : Rat) = 0 + 0 * x + 0 * y; grind
  | n + 1 => by show SS n _ + _ = (SS n F + F n) + (SS n G + G n) * x + (SS n H + H n) * y; rw [SS_lin F G H x y n]; grind
/-- put together -/
theorem uW_part (a : Nat) (f : Int) : ∀ (c : Nat) (g : Int), 0 ≤ g → SS (dn.length + 1) (fun h : Nat => uW b lv dn f a h * uW b lv dn h c g) = uW b lv dn f (a + c) g
  | 0, g, hg0 => by
    rw [SS_one (g := g.toNat) fun i hi hne => by
      rw [show uW b lv dn (i : Int) 0 g = 0 from if_neg fun z => hne (by have := z.2; omega)]; grind]
    rw [Int.toNat_of_nonneg hg0]
    by_cases hg : inK dn.length b g
    · rw [if_pos (by have := hg.2.1; omega), show uW b lv dn g 0 g = 1 from if_pos ⟨hg, rfl⟩, Rat.mul_one]; rfl
    · rw [uW_out hg, show uW b lv dn f (a + 0) g = 0 from uW_out hg]; split <;> grind
  | c + 1, g, hg0 => by
    by_cases hg : inK dn.length b g
    · rw [show a + (c + 1) = (a + c) + 1 by omega, uW_s, if_pos hg, ← uW_part a f c g hg0, ← uW_part a f c (g + 1) (by omega)]
      have p0 : SS (dn.length + 1) (fun h : Nat => uW b lv dn f a h * uW b lv dn h c (g - 1)) = uW b lv dn f (a + c) (g - 1) := by
        by_cases h1 : 0 ≤ g - 1
        · exact uW_part a f c (g - 1) h1
        · rw [uW_out (g := g - 1) fun z => h1 z.1]
          exact SS_zero fun i _ => by rw [uW_out (g := g - 1) fun z => h1 z.1]; grind
      rw [← p0, ← SS_lin]
      exact SS_ext fun i _ => by rw [uW_s, if_pos hg]; grind
    · rw [uW_out hg]
      exact SS_zero fun i _ => by rw [uW_out hg]; grind
theorem uW_dv (yl : WOK lv) (yd : WOK dn) : ∀ (l : Nat) (f g : Int), Dv (pE l) (61 * l + 1) (uW b lv dn f l g)
  | 0, f, g => by
    show Dv _ _ (if _ then (1 : Rat) else 0)
    split
    · exact (Dv.one (pE_pos 0) (A := 1) (by rw [pE_0]; decide)).mono (by omega)
    · exact Dv.zero _ _
  | l + 1, f, g => by
    rw [uW_s]
    split
    · have z1 : Dv (pE (l + 1)) (61 * l + 16) (uW b lv dn f l (g - 1)) := by rw [pE_s]; exact (uW_dv yl yd l f (g - 1)).wide (pE_pos _) (by decide) (A := 15) (by decide)
      exact ((z1.add (mulE (uW_dv yl yd l f g) (yl.get _)) (k := 61 * l + 40) (by omega) (by omega)).add (mulE (uW_dv yl yd l f (g + 1)) (yd.get _)) (k := 61 * (l + 1) + 1) (by omega) (by omega))
    · exact Dv.zero _ _
end
/-- a weight drawn -/
def wBy (n : Int) : Rat :=
  if n % 6 < 3 then ((n / 6 % 9 - 3 : Int) : Rat) else if n % 6 < 5 then Rat.divInt (n / 6 % 1999 - 999) (1 + n / 6 / 1999 % 12) else Rat.divInt (n / 6 % 1999999 - 999999) (1 + n / 6 / 1999999 % 12)
theorem dv_over {t b : Int} (h0 : 1 ≤ b) (h1 : b ≤ 12) (ht : t.natAbs ≤ 999999) : Dv 27720 36 (Rat.divInt t b) := by
  obtain ⟨c, hc, hc2⟩ : ∃ c : Int, b * c = 27720 ∧ c.natAbs ≤ 27720 := by
    refine ⟨27720 / b, ?_, ?_⟩ <;> rcases (show b = 1 ∨ b = 2 ∨ b = 3 ∨ b = 4 ∨ b = 5 ∨ b = 6 ∨ b = 7 ∨ b = 8 ∨ b = 9 ∨ b = 10 ∨ b = 11 ∨ b = 12 by omega) with rfl | rfl | rfl | rfl | rfl | rfl | rfl | rfl | rfl | rfl | rfl | rfl <;> decide
  refine ⟨t * c, ?_, ?_⟩
  · unfold Bt
    rw [Int.natAbs_mul]
    exact Nat.lt_of_le_of_lt (Nat.mul_le_mul ht hc2) (by decide)
  · have hb : (b : Rat) ≠ 0 := fun z => by have := Rat.intCast_eq_zero_iff.mp z; omega
    have e : (b : Rat) * (c : Rat) = 27720 := by rw [← Rat.intCast_mul, hc]; rfl
    have e2 : (((27720 : Nat) : Int) : Rat) = 27720 := rfl
    rw [di_eq, di_eq, Rat.intCast_mul, e2, ← e]
    have hc0 : (c : Rat) ≠ 0 := fun z => by rw [z] at e; grind
    grind
theorem wBy_dv (n : Int) : Dv 27720 36 (wBy n) := by
  unfold wBy
  split
  · rw [show ((n / 6 % 9 - 3 : Int) : Rat) = Rat.divInt (n / 6 % 9 - 3) 1 by rw [di_eq]; grind]
    exact dv_over (by decide) (by decide) (by omega)
  · split
    · exact dv_over (by omega) (by omega) (by omega)
    · exact dv_over (by omega) (by omega) (by omega)
/-- rows drawn -/
def gdS (c s : Int) : Nat → Int
  | 0 => c
  | n + 1 => gdS c s n / s
def vRow (ns : List Int) (k : Int) (many : Nat) (s : Int) : List Int :=
  (List.range many).map fun j : Nat => if vCell ns k % 2 = 1 then gdS (vCell ns k / 2) s j % s else vLow (vCell ns (k + j)) (k + j) % s
theorem vRow_len (ns : List Int) (k : Int) (many : Nat) (s : Int) : (vRow ns k many s).length = many := by simp [vRow]
theorem vRow_s (ns : List Int) (k : Int) (n : Nat) (s : Int) : vRow ns k (n + 1) s = vRow ns k n s ++ [if vCell ns k % 2 = 1 then gdS (vCell ns k / 2) s n % s else vLow (vCell ns (k + n)) (k + n) % s] := by
  unfold vRow
  rw [map_range_succ]
def vWt (ns : List Int) (k : Int) (many : Nat) : List Rat := (vRow ns k many 143999928).map wBy
theorem vWt_len (ns : List Int) (k : Int) (many : Nat) : (vWt ns k many).length = many := by simp [vWt, vRow_len]
theorem vWt_ok (ns : List Int) (k : Int) (many : Nat) : WOK (vWt ns k many) := fun q hq => by
  obtain ⟨n, _, rfl⟩ := List.mem_map.mp hq
  exact wBy_dv n
theorem dP_dv {dn : List Rat} (yd : WOK dn) (f : Nat) : ∀ n, Dv (pE n) (36 * n + 1) (dP dn f n)
  | 0 => (Dv.one (pE_pos 0) (A := 1) (by rw [pE_0]; decide)).mono (by omega)
  | n + 1 => (mulE (dP_dv yd f n) (yd.get _)).mono (by omega)
/-- the signs d, l, u -/
def sgn (q : Nat) : Nat := if q = 0 then 100 else if q = 1 then 108 else 117
theorem sgn_some {h : Int} {q : Nat} {d : D} (hi : ([.tuple [.str "d", .int (h - 1)], .tuple [.str "l", .int h], .tuple [.str "u", .int (h + 1)]] : List D)[q]? = some d) : q < 3 ∧ d = .tuple [.str ⟨#[sgn q]⟩, .int (h + (q : Int) - 1)] := by
  rcases q with _ | _ | _ | q
  · cases hi; exact ⟨by decide, by rw [show h + ((0 : Nat) : Int) - 1 = h - 1 by omega]; rfl⟩
  · cases hi; exact ⟨by decide, by rw [show h + ((0 + 1 : Nat) : Int) - 1 = h by omega]; rfl⟩
  · cases hi; exact ⟨by decide, by rw [show h + ((0 + 1 + 1 : Nat) : Int) - 1 = h + 1 by omega]; rfl⟩
  · cases hi
theorem kinq_one {K f : Int} {x : Rat} (h0 : 0 ≤ f) (h1 : f ≤ K) : KinQ K [(f, x)] := ⟨by simp [keyQ], fun p hp => by rw [List.mem_singleton.mp hp]; exact ⟨h0, h1⟩⟩
theorem dvm_one (f : Int) : DvM (pE 0) (61 * 0 + 1) [(f, 1)] := fun p hp => by
  rw [List.mem_singleton.mp hp]
  exact Dv.one (pE_pos 0) (A := 1) (by rw [pE_0]; decide)
theorem vq_one {b : Option Int} {lv dn : List Rat} {f : Int} (h : inK dn.length b f) (g : Int) : vQ [(f, 1)] g = uW b lv dn f 0 g := by
  rw [vQ_cons]
  show _ = if inK dn.length b f ∧ f = g then (1 : Rat) else 0
  by_cases e : f = g
  · rw [if_pos e, if_pos ⟨h, e⟩]
  · rw [if_neg e, if_neg (fun z => e z.2)]; rfl
theorem vq_none {b : Option Int} {lv dn : List Rat} {f : Int} (h : ¬ inK dn.length b f) (g : Int) : vQ [] g = uW b lv dn f 0 g := by
  show (0 : Rat) = if inK dn.length b f ∧ f = g then (1 : Rat) else 0
  rw [if_neg (fun z => h z.1)]
theorem pE_add (a : Nat) : ∀ c : Nat, pE a * pE c = pE (a + c)
  | 0 => by rw [pE_0, Nat.mul_one]; rfl
  | c + 1 => by rw [pE_s, ← Nat.mul_assoc, pE_add a c, ← pE_s]; rfl
theorem uWW_dv {b : Option Int} {lv dn : List Rat} (yl : WOK lv) (yd : WOK dn) (a c : Nat) (f g h h' : Int) : Dv (pE (a + c)) (61 * (a + c) + 2) (uW b lv dn f a h * uW b lv dn h' c g) := by
  rw [← pE_add]
  exact ((uW_dv yl yd a f h).mul (uW_dv yl yd c h' g) (pE_pos _) (pE_pos _)).mono (by omega)
theorem part_dv {b : Option Int} {lv dn : List Rat} (yl : WOK lv) (yd : WOK dn) (a c : Nat) (f g : Int) : ∀ n : Nat, Dv (pE (a + c)) (61 * (a + c) + 2 + n) (SS n fun h : Nat => uW b lv dn f a h * uW b lv dn h c g)
  | 0 => Dv.zero _ _
  | n + 1 => (part_dv yl yd a c f g n).add (uWW_dv yl yd a c f g n n) (by omega) (by omega)
theorem part_zero {b : Option Int} {lv dn : List Rat} {a c : Nat} {f g h : Int} (hn : ¬ ((h ≤ f + a ∧ h ≤ g + c) ∧ lieB h b = true)) : uW b lv dn f a h * uW b lv dn h c g = 0 := by
  by_cases h1 : h ≤ f + a
  · by_cases h2 : h ≤ g + c
    · rw [uW_out (g := h) fun z => hn ⟨⟨h1, h2⟩, z.2.2⟩]; grind
    · rw [uW_low (f := h) (by omega)]; grind
  · rw [uW_far (g := h) (by omega)]; grind
def dB : Option Int → D
  | none => .none
  | some b => .int b
theorem u0_i {lv dn : List Rat} {b f g : Int} (h0 : 0 ≤ f) (h1 : f ≤ (dn.length : Int)) : uW (some b) lv dn f 0 g = (((if (decide (f = g) && (isNon (PyData.int b) || decide (f < b))) = true then 1 else 0 : Int)) : Rat) := by
  show (if inK dn.length (some b) f ∧ f = g then (1 : Rat) else 0) = _
  have e : (decide (f = g) && (isNon (PyData.int b) || decide (f < b))) = true ↔ inK dn.length (some b) f ∧ f = g := by
    simp only [isNon, Bool.false_or, Bool.and_eq_true, decide_eq_true_eq]
    exact ⟨fun z => ⟨⟨h0, h1, decide_eq_true z.2⟩, z.1⟩, fun z => ⟨z.2, of_decide_eq_true z.1.2.2⟩⟩
  by_cases z : inK dn.length (some b) f ∧ f = g
  · rw [if_pos z, if_pos (e.mpr z)]; rfl
  · rw [if_neg z, if_neg (fun q => z (e.mp q))]; rfl
theorem u0_n {lv dn : List Rat} {f g : Int} (h0 : 0 ≤ f) (h1 : f ≤ (dn.length : Int)) : uW none lv dn f 0 g = (((if (decide (f = g) && (isNon PyData.none || true)) = true then 1 else 0 : Int)) : Rat) := by
  show (if inK dn.length none f ∧ f = g then (1 : Rat) else 0) = _
  have e : (decide (f = g) && (isNon PyData.none || true)) = true ↔ inK dn.length none f ∧ f = g := by
    simp only [isNon, Bool.true_or, Bool.and_true, decide_eq_true_eq]
    exact ⟨fun z => ⟨⟨h0, h1, rfl⟩, z⟩, fun z => z.2⟩
  by_cases z : inK dn.length none f ∧ f = g
  · rw [if_pos z, if_pos (e.mpr z)]; rfl
  · rw [if_neg z, if_neg (fun q => z (e.mp q))]; rfl
end Mf

namespace Hf
open PySem PySem.Spec PyProof.Rows L2
open Evl (Ex)
section
variable {X : Cx} {Γ : List Cell} {A : AD} {rest : List Stmt} {pos p : Pos} {x y : Str} {C : Addr} {fs : List (Str × D)} {e : Expr} {es : List Expr} {ds dds : List D} {k i : Nat} {S : List D → Res → Prop} {z : Str} {a : Expr}
theorem dx_callD (h : HasD X.prog X.w X.K X.mg X.base x k S dds) (hr : Room k X.A) (hg : Gl X x) (ha : DA X Γ (e :: es) ds) (hs : S (ds ++ dds) (.exc C fs)) (hdb : (x == ("__debug__" : Str)) = false := by decide)
    (he : starEach (e :: es) X.env = (false, eval e X.env) :: starEach es X.env := by rfl) (hpl : (backTo pos (starEach es X.env)).any (·.1) = false := by rfl) : DX X Γ (.Call (.Name x p) (e :: es) [] pos) C fs := fun Hs H0 Hb tk σ Hd H Q r => by
  obtain ⟨f, fd, ps, ws, dvs, F, hm, hk, hb, hv, hi⟩ := h.ok
  refine wE_of (pe_callSD F hr hg hm hk hb hv (fun σ => L2N.passAt tk σ) pa_w hdb he hpl) (ha σ Hd H _ r.l fun vs Hd1 H1 s1 i1 => ?_)
  refine ⟨Hd1, ds ++ dds, .exc C fs, s1.s, i1.app (hi Hd1), hs, fun d H2 w => ?_⟩
  obtain ⟨Hd2, r2, q⟩ := w.fld r s1
  exact ⟨C, fs, Γ, Hd2, rfl, ⟨rfl, rfl, rfl⟩, r2, q⟩
/-- f(a, b) where b lets an error out -/
theorem dx_in2 {b : Expr} {d : D} {k : Nat} {x : Str} {S : List D → Res → Prop} (h : Has X.prog X.w X.K X.mg X.base x k S) (hr : Room k X.A) (hg : Gl X x) (ha : DE X Γ a d) (hb : DX X Γ b C fs) (hdb : (x == ("__debug__" : Str)) = false := by decide)
    (he : starEach [a, b] X.env = (false, eval a X.env) :: starEach [b] X.env := by rfl) (he2 : starEach [b] X.env = (false, eval b X.env) :: starEach [] X.env := by rfl) (hpl : (backTo pos (starEach [b] X.env)).any (·.1) = false := by rfl) : DX X Γ (.Call (.Name x p) [a, b] [] pos) C fs := fun Hs H0 Hb tk σ Hd H Q r => by
  obtain ⟨f, fd, ps, F, hm, hk, hbd⟩ := h.ok
  refine wE_of (pe_callS F hr hg hm hk hbd (fun σ => L2N.passAt tk σ) (pa_cons pe_w (pa_cons pe_w pa_nil he2) he) hdb he hpl) ?_
  exact ha σ Hd H _ r.l fun v Hd1 H1 s1 i1 => hb Hs H0 Hb tk σ Hd1 H1 _ (r.stp s1)
theorem ds_forX {tg : Expr} {body : List Stmt} (hp : PassesOwn (model X.prog X.w) X.A X.env X.xe) (hc : X.calm = true) (h : DX X Γ e C fs) (q : A.ex C fs Γ) (hs : ∀ x, foldedSetIterable e X.env x = pure x := by intro _; rfl) : DS X Γ (.For tg e body [] pos :: rest) A := fun Hs H0 Hb tk σ Hd H r =>
  wSs_cons (wS_of (ps_for hp hc (pi_list pe_w) pg_w pss_w hs) (h.take tk q r))
def rIns : V → List V → Hp → VK → Prop := fun x vs H Q => ∃ (l : Addr) (xs : List V) (i : Int) (y : V), x = .ref l ∧ vs = [.int i, y] ∧ H l = some (.lst xs) ∧ xs.length < sizeLine ∧ 0 ≤ i ∧ i < 2 ^ 63 ∧ Q .non (upd H l (.lst (xs.take i.toNat ++ [y] ++ xs.drop i.toNat)))
/-- x.insert(a, e), x one's own list -/
theorem ds_ins {e2 : Expr} {xn : Str} {d : D} {j : Int} {apos pos2 px : Pos} (hi : Γ[i]? = some (.ml ds)) (hx : PE X (.Name xn px) (tVar i)) (ha : DE X Γ a (.int j)) (he : DE X Γ e2 d) (hj : 0 ≤ j ∧ j < 2 ^ 63) (hz : ds.length < 100000)
    (hp : PS X (.Expr (.Call (.Attribute (.Name xn px) "insert" apos) [a, e2] [] pos) pos2) (tDrop (tBM X.K "list" rIns (wE X (.Name xn px)) (tCons (wE X a) (tCons (wE X e2) tNil)))))
    (h : DS X (Γ.set i (.ml (ds.take j.toNat ++ [d] ++ ds.drop j.toNat))) rest A) : DS X Γ (.Expr (.Call (.Attribute (.Name xn px) "insert" apos) [a, e2] [] pos) pos2 :: rest) A := fun Hs H0 Hb tk σ Hd H r =>
  wSs_cons (wS_of hp (by
    obtain ⟨l, vs, es, hd, h1, i1⟩ := own_list r hi
    refine wE_of hx ⟨_, es, .inl ⟨rfl, vs, SqL.of h1⟩, ha σ Hd H _ r.l fun u Hd0 H00 s0 iu => he σ Hd0 H00 _ (r.stp s0).l fun v Hd1 H1 s1 iv => ?_⟩
    cases iu
    have s01 := s0.trans s1
    have h2 := s01.h _ _ h1
    refine ⟨l, vs, j, v, rfl, rfl, h2, Evl.sz_lt (by rw [i1.len]; exact hz), hj.1, hj.2, ?_⟩
    exact h Hs H0 Hb tk σ Hd1 _ ((r.stp s01).chg hi es (show some (V.ref l) = some (.ref l) from rfl) ⟨l, _, rfl, s01.non hd h1, upd_same, (((i1.mono s01.d).take _).app (.one iv)).app ((i1.mono s01.d).drop _)⟩)))
/-- lo, lo + c, .. -/
def rngC (lo c : Int) (n : Nat) : List D := (List.range n).map fun i : Nat => .int (lo + (i : Int) * c)
theorem rngC_some {lo c : Int} {n i : Nat} {d : D} (h : (rngC lo c n)[i]? = some d) : i < n ∧ d = .int (lo + (i : Int) * c) := by
  unfold rngC at h
  rw [List.getElem?_map] at h
  by_cases hi : i < n
  · rw [List.getElem?_range hi] at h
    exact ⟨hi, (Option.some.inj h).symm⟩
  · rw [List.getElem?_eq_none (by simpa using hi)] at h; cases h
theorem rngC_none {lo c : Int} {n i : Nat} (h : (rngC lo c n)[i]? = none) : n ≤ i := by
  have := List.getElem?_eq_none_iff.mp h
  unfold rngC at this
  simpa using this
theorem rngC_len (lo c : Int) (n : Nat) : (rngC lo c n).length = n := by unfold rngC; simp
theorem di_r3 {tg b c : Expr} {i j m : Int} {n : Nat} (hg : Gl X "range") (hm : NoMg X "range") (ha : DE X Γ a (.int i)) (hb : DE X Γ b (.int j)) (hc : DE X Γ c (.int m)) (hr : RgC i j m n)
    (hs : starEach [a, b, c] X.env = (false, eval a X.env) :: starEach [b, c] X.env := by rfl) (hs2 : starEach [b, c] X.env = (false, eval b X.env) :: starEach [c] X.env := by rfl) (hs3 : starEach [c] X.env = (false, eval c X.env) :: starEach [] X.env := by rfl)
    (hpl : (backTo pos (starEach [b, c] X.env)).any (·.1) = false := by rfl) : DI X Γ tg (.Call (.Name "range" p) [a, b, c] [] pos) (rngC i m n) :=
  ⟨_, pi_range3 hg hm pa_w hs hpl, fun σ Hd H Q r k => da_cons (es := [b, c]) ha (da_cons (es := [c]) hb (da_cons (es := []) hc da_nil hs3) hs2) hs σ Hd H _ r fun vs Hd1 H1 s1 i1 => by
    obtain ⟨_, _, _, _, rfl, e, z⟩ : ∃ x y ds0 w, vs = x :: y ∧ ds0 = ([.int j, .int m] : List D) ∧ w = ([.int i] : List D) := by
      cases i1
      exact ⟨_, _, _, _, rfl, rfl, rfl⟩
    cases i1 with | cons i2 i3 =>
    cases i3 with | cons i4 i5 =>
    cases i5 with | cons i6 i7 =>
    cases i7
    cases i2; cases i4; cases i6
    exact ⟨i, j, m, n, rfl, hr, k _ Hd1 H1 s1 (itok fun q Hd2 H2 e1 e2 => ⟨fun d hd => by
      obtain ⟨h1, rfl⟩ := rngC_some hd
      refine ⟨h1, fun y H3 hy => ?_⟩
      obtain ⟨rfl, rfl⟩ := hy
      exact ⟨Hd2, Stp.refl e2, .int _⟩, fun hn => rngC_none hn⟩)⟩⟩
/-- the text of these signs -/
abbrev tS (cs : List Nat) : Str := ⟨⟨cs⟩⟩
theorem de_slS {lo hi : Option Expr} {o u : Option Int} {p2 : Pos} {cs : List Nat} (ha : DE X Γ a (.str (tS cs))) (hl : DO X Γ lo o) (hh : DO X Γ hi u) (hz : cs.length ≤ 100000) : DE X Γ (.Subscript a (.Slice lo hi none p2) pos) (.str (tS (cutD cs o u))) := by
  obtain ⟨tl, pl, kl⟩ := hl
  obtain ⟨th, ph, kh⟩ := hh
  exact fun σ Hd H Q r k => wE_of (pe_slice sl_str pe_w pl ph) (ha σ Hd H _ r fun v Hd1 H1 s1 i1 => kl σ Hd1 H1 _ (r.stp s1) fun Hd2 H2 s2 => kh σ Hd2 H2 _ (r.stp (s1.trans s2)) fun Hd3 H3 s3 => by
    have s23 := s2.trans s3
    cases i1
    exact ⟨_, rfl, Evl.sz_of (n := (tS cs).length) hz, k _ Hd3 H3 (s1.trans s23) (.str _)⟩)
theorem tS_app0 (a b : List Nat) : tS a ++ tS b = tS (a ++ b) := by
  show (⟨(⟨a⟩ : Array Nat) ++ ⟨b⟩⟩ : Str) = ⟨⟨a ++ b⟩⟩
  congr 1
  simp
theorem de_catS {b : Expr} {u v : List Nat} (ha : DE X Γ a (.str (tS u))) (hb : DE X Γ b (.str (tS v))) (hl : u.length + v.length ≤ 100000) : DE X Γ (.BinOp a .Add b pos) (.str (tS (u ++ v))) := (de_cat ha hb hl).of (by rw [tS_app0])
theorem dc_ltS {b : Expr} {w : Str} (ha : DE X Γ a (.str z)) (hb : DE X Γ b (.str w)) : DC X Γ .Lt a b (decide (z.cps.toList < w.cps.toList)) :=
  fun σ Hd H Q r k => wC_of op_lt_str (ha σ Hd H _ r fun v Hd1 H1 s1 i1 => hb σ Hd1 H1 _ (r.stp s1) fun u Hd2 H2 s2 i2 => by
    cases i1; cases i2
    exact ⟨z, w, rfl, rfl, k Hd2 H2 (s1.trans s2)⟩)
theorem de_any {bs : List Bool} (hc : X.calm = true) (hg : Gl X "any") (hm : NoMg X "any") (ha : DE X Γ a (.list (bs.map PyData.bool))) (hs : starEach [a] X.env = (false, eval a X.env) :: starEach [] X.env := by rfl) : DE X Γ (.Call (.Name "any" p) [a] [] pos) (.bool (bs.any id)) :=
  de_B (cr_any hc) hg hm (by decide +kernel) (da_cons ha da_nil hs) (hn := by decide) (hdb := by decide) (he := hs) (hpl := rfl) (hr := fun vs Hd H Q s h k => by
    obtain ⟨v, rfl, i⟩ := all1 h
    cases i with | lst t al =>
      rw [al.toBls] at t
      exact ⟨_, bs, rfl, Evl.ex_l s t, k _ Hd H (Stp.refl s) (.bl _)⟩)
theorem de_minL {ns : List Int} {M : Int} (hc : X.calm = true) (hg : Gl X "min") (hm : NoMg X "min") (ha : DE X Γ a (.list (ns.map PyData.int))) (hM : M ∈ ns ∧ ∀ y, y ∈ ns → M ≤ y) (hs : starEach [a] X.env = (false, eval a X.env) :: starEach [] X.env := by rfl) : DE X Γ (.Call (.Name "min" p) [a] [] pos) (.int M) :=
  de_B (cr_min hc) hg hm (by decide +kernel) (da_cons ha da_nil hs) (hn := by decide) (hdb := by decide) (he := hs) (hpl := rfl) (hr := fun vs Hd H Q s h k => by
    obtain ⟨v, rfl, i⟩ := all1 h
    cases i with | lst t al =>
      rw [al.toInts] at t
      refine ⟨_, ns, rfl, Evl.ex_l s t, List.length_pos_iff.mpr (fun z => by rw [z] at hM; cases hM.1), fun m h1 h2 => ?_⟩
      rw [show m = M from Int.le_antisymm (h2 M hM.1) (hM.2 m h1)]
      exact k _ Hd H (Stp.refl s) (.int _))
theorem de_maxL {ns : List Int} {M : Int} (hc : X.calm = true) (hg : Gl X "max") (hm : NoMg X "max") (ha : DE X Γ a (.list (ns.map PyData.int))) (hM : M ∈ ns ∧ ∀ y, y ∈ ns → y ≤ M) (hs : starEach [a] X.env = (false, eval a X.env) :: starEach [] X.env := by rfl) : DE X Γ (.Call (.Name "max" p) [a] [] pos) (.int M) :=
  de_B (cr_max hc) hg hm (by decide +kernel) (da_cons ha da_nil hs) (hn := by decide) (hdb := by decide) (he := hs) (hpl := rfl) (hr := fun vs Hd H Q s h k => by
    obtain ⟨v, rfl, i⟩ := all1 h
    cases i with | lst t al =>
      rw [al.toInts] at t
      refine ⟨_, ns, rfl, Evl.ex_l s t, List.length_pos_iff.mpr (fun z => by rw [z] at hM; cases hM.1), fun m h1 h2 => ?_⟩
      rw [show m = M from Int.le_antisymm (hM.2 m h1) (h2 M hM.1)]
      exact k _ Hd H (Stp.refl s) (.int _))
end
theorem tS_app (a b : List Nat) : tS a ++ tS b = tS (a ++ b) := by
  show (⟨(⟨a⟩ : Array Nat) ++ ⟨b⟩⟩ : Str) = ⟨⟨a ++ b⟩⟩
  congr 1
  simp
theorem cutD_le {α : Type} (ds : List α) (o u : Option Int) : (cutD ds o u).length ≤ ds.length := by
  unfold cutD
  rw [List.length_take, List.length_drop]
  omega
theorem cutD_mem {α : Type} {ds : List α} {o u : Option Int} {d : α} (h : d ∈ cutD ds o u) : d ∈ ds := List.mem_of_mem_drop (List.mem_of_mem_take h)
theorem cutD_to {α : Type} (ds : List α) (n : Nat) : (cutD ds none (some (n : Int))).length ≤ n := by
  unfold cutD
  rw [List.length_take]
  have : HT.sIx ds.length ds.length (some (n : Int)) ≤ n := by
    show (if (n : Int) < 0 then ((n : Int) + (ds.length : Int)).toNat else min (n : Int).toNat ds.length) ≤ n
    rw [if_neg (by omega)]
    omega
  omega
end Hf

namespace Hf
open PySem PySem.Spec PyProof.Rows L2
open Evl (Ex)
theorem foldl_rep (c : Nat) : ∀ (n : Nat) (acc : List Nat), (List.replicate n (#[c] : Array Nat)).foldl (· ++ ·) ⟨acc⟩ = ⟨acc ++ List.replicate n c⟩
  | 0, acc => by simp
  | n + 1, acc => by
    rw [List.replicate_succ, List.foldl_cons]
    rw [show ((⟨acc⟩ : Array Nat) ++ #[c]) = ⟨acc ++ [c]⟩ by simp]
    rw [foldl_rep c n, List.append_assoc, List.replicate_succ]
    rfl
theorem op_mulSg {X : Cx} : OpR X (binaryOp .Mult) (fun x y H Q => ∃ (c n : Nat), x = .str (tS [c]) ∧ y = .int (n : Int) ∧ n ≤ 1000 ∧ Q (.str (tS (List.replicate n c))) H) := by
  intro pins s σ H x y v u Q I rx ry h
  obtain ⟨c, n, rfl, rfl, hn, q⟩ := h
  obtain ⟨t, rfl⟩ := rx
  obtain ⟨t2, rfl⟩ := ry
  have hlen : (tS [c]).length = 1 := rfl
  refine PySem.P.mul_str ?_ ?_ ?_ ?_
  · have h1 : ¬ ((n : Int) < -(2 ^ 63 : Int)) := by omega
    have h2 : ¬ ((n : Int) ≥ 2 ^ 63) := by omega
    simp [h1, h2]
    omega
  · intro h1 _ h2
    rw [hlen] at h2
    have : (1 : Int) ≤ (2 ^ 63 - 1) / (n : Int) := Int.le_ediv_of_mul_le (by omega) (by omega)
    omega
  · intro h1 _
    rw [hlen]
    have : (1 * (n : Int).toNat) ≤ 1000 := by omega
    unfold Builtin.Str.tooLong
    simp
    have := sizeLine_eq
    omega
  · by_cases h1 : (n : Int) < 1
    · rw [if_pos h1]
      obtain rfl : n = 0 := by omega
      exact ⟨by decide, .str _, H, I.tok _, ⟨_, rfl⟩, q⟩
    · rw [if_neg h1]
      by_cases h2 : ((n : Int) == 1 || (tS [c]).length == 0) = true
      · rw [if_pos h2]
        obtain rfl : n = 1 := by
          rw [hlen] at h2
          simp at h2
          omega
        exact ⟨.str _, H, I, ⟨t, rfl⟩, q⟩
      · rw [if_neg h2]
        have e : (⟨(List.replicate (n : Int).toNat (tS [c]).cps).foldl (· ++ ·) #[]⟩ : Str) = tS (List.replicate n c) := by
          rw [Int.toNat_natCast]
          exact congrArg Str.mk (foldl_rep c n [])
        refine ⟨?_, .str _, H, I.tok _, ⟨_, rfl⟩, ?_⟩
        · rw [e]
          show (List.replicate n c).length ≤ sizeLine
          rw [List.length_replicate]
          exact Evl.sz_of (by omega)
        · rw [e]; exact q
section
variable {X : Cx} {Γ : List Cell} {A : AD} {rest : List Stmt} {pos p p2 tp ep px1 px2 q1 q2 : Pos} {x : Str} {a b e1 e2 : Expr} {d1 d2 : D} {ds : List D} {i m1 m2 kk ke : Nat} {k1 k2 j : Int}
theorem de_mulSg {c n : Nat} (ha : DE X Γ a (.str (tS [c]))) (hb : DE X Γ b (.int (n : Int))) (hn : n ≤ 1000) : DE X Γ (.BinOp a .Mult b pos) (.str (tS (List.replicate n c))) :=
  fun σ Hd H Q r k => wE_of (pe_op op_mulSg pe_w pe_w) (ha σ Hd H _ r fun v Hd1 H1 s1 i1 => hb σ Hd1 H1 _ (r.stp s1) fun u Hd2 H2 s2 i2 => by
    cases i1; cases i2
    exact ⟨c, n, rfl, rfl, hn, k _ Hd2 H2 (s1.trans s2) (.str _)⟩)
theorem rgV_all {K : PySem.W.Frag} {H : Hp} (n : Int) : IsAll K H (rgV 0 n) ((List.range n.toNat).map fun q : Nat => PyData.int (q : Int)) := by
  unfold rgV
  rw [show (n - 0).toNat = n.toNat by omega]
  induction n.toNat with
  | zero => exact .nil
  | succ m ih =>
    rw [List.range_succ, List.map_append, List.map_append]
    refine ih.app (.one ?_)
    show Is K H (.int (0 + (m : Int))) (.int (m : Int))
    rw [Int.zero_add]
    exact .int _
theorem de_tupRg (hc : X.calm = true) (hg : Gl X "tuple") (hm : NoMg X "tuple") (hg2 : Gl X "range") (hm2 : NoMg X "range") (ha : DE X Γ a (.int j)) (hb : 0 ≤ j ∧ j ≤ 1000000) (hs : starEach [a] X.env = (false, eval a X.env) :: starEach [] X.env := by rfl)
    (hs2 : starEach [.Call (.Name "range" p) [a] [] p2] X.env = (false, eval (.Call (.Name "range" p) [a] [] p2) X.env) :: starEach [] X.env := by rfl) : DE X Γ (.Call (.Name "tuple" tp) [.Call (.Name "range" p) [a] [] p2] [] pos) (.tuple ((List.range j.toNat).map fun q : Nat => PyData.int (q : Int))) :=
  fun σ Hd H Q r k => wE_of (pe_tupRg hc hg hm (prg_1 hg2 hm2 pe_w hs) hs2) (ha σ Hd H _ r fun v Hd1 H1 s1 i1 => by
    cases i1
    refine ⟨j, rfl, RgOk.of_le (Int.le_refl _) (by omega) (by omega) hb.1, fun q hq => ?_⟩
    exact k _ (upd Hd1 q (.tup (rgV 0 j))) _ (s1.trans (Stp.newD s1.s hq)) (.tup (.inl (.inl upd_same)) ((rgV_all j).mono (Ex.new (ex_none s1.s hq)))))
/-- x[a], x[b] = e1, e2 -/
theorem ds_swap (hi : Γ[i]? = some (.ml ds)) (hx1 : PE X (.Name x px1) (tVar i)) (hx2 : PE X (.Name x px2) (tVar i)) (he : DE X Γ (.Tuple [e1, e2] ke ep) (.tuple [d1, d2])) (ha : DE X Γ a (.int k1)) (hb : DE X (Γ.set i (.ml (ds.set m1 d1))) b (.int k2))
    (hm1 : ixN ds.length k1 = some m1) (hm2 : ixN ds.length k2 = some m2)
    (hp : PS X (.Assign [.Tuple [.Subscript (.Name x px1) a q1, .Subscript (.Name x px2) b q2] kk tp] (.Tuple [e1, e2] ke ep) pos) (tAsg (wE X (.Tuple [e1, e2] ke ep)) (gTup X.K 2 (gCons (gSub (wE X (.Name x px1)) (wE X a) rSetL) (gCons (gSub (wE X (.Name x px2)) (wE X b) rSetL) gNil)))))
    (h : DS X (Γ.set i (.ml ((ds.set m1 d1).set m2 d2))) rest A) : DS X Γ (.Assign [.Tuple [.Subscript (.Name x px1) a q1, .Subscript (.Name x px2) b q2] kk tp] (.Tuple [e1, e2] ke ep) pos :: rest) A := fun Hs H0 Hb tk σ Hd H r =>
  wSs_cons (wS_of hp (he σ Hd H _ r.l fun v Hd1 H1 s1 iv => by
    have r1 := r.stp s1
    cases iv with
    | tup t al =>
      obtain ⟨v1, v2, rfl, iv1, iv2⟩ := all2 al
      obtain ⟨l, vs, es, hd, h1, i1⟩ := own_list r1 hi
      refine ⟨_, _, rfl, Evl.ex_t s1.s t, rfl, v1, _, rfl, wE_of hx1 ⟨_, es, ha σ Hd1 H1 _ r1.l fun u Hd2 H2 s2 iu => ?_⟩⟩
      cases iu
      refine ⟨l, vs, k1, m1, rfl, rfl, s2.h _ _ h1, by rw [i1.len]; exact hm1, ?_⟩
      have r2 : R X.K Hs H0 Hb (Γ.set i (.ml (ds.set m1 d1))) σ Hd2 (upd H2 l (.lst (vs.set m1 v1))) := (r1.stp s2).chg hi es (show some (V.ref l) = some (.ref l) from rfl) ⟨l, _, rfl, s2.non hd h1, upd_same, (i1.mono s2.d).set m1 (iv1.mono s2.d)⟩
      have hil : i < Γ.length := (List.getElem?_eq_some_iff.mp hi).1
      have hi' : (Γ.set i (.ml (ds.set m1 d1)))[i]? = some (.ml (ds.set m1 d1)) := by rw [List.getElem?_set_self hil]
      obtain ⟨l', vs', es', hd', h1', i1'⟩ := own_list r2 hi'
      refine ⟨v2, _, rfl, wE_of hx2 ⟨_, es', hb σ Hd2 _ _ r2.l fun u2 Hd3 H3 s3 iu2 => ?_⟩⟩
      cases iu2
      refine ⟨l', vs', k2, m2, rfl, rfl, s3.h _ _ h1', by rw [i1'.len, List.length_set]; exact hm2, rfl, ?_⟩
      have r3 : R X.K Hs H0 Hb ((Γ.set i (.ml (ds.set m1 d1))).set i (.ml ((ds.set m1 d1).set m2 d2))) σ Hd3 (upd H3 l' (.lst (vs'.set m2 v2))) := (r2.stp s3).chg hi' es' (show some (V.ref l') = some (.ref l') from rfl) ⟨l', _, rfl, s3.non hd' h1', upd_same, (i1'.mono s3.d).set m2 ((iv2.mono s2.d).mono s3.d)⟩
      rw [List.set_set] at r3
      exact h Hs H0 Hb tk σ Hd3 _ r3))
end
end Hf

namespace Hf
open PySem PySem.Spec PyProof.Rows L2
open Evl (Ex)
section
variable {X : Cx} {Γ : List Cell} {A : AD} {rest body su : List Stmt} {b₀ : Stmt} {pos pos' np p p2 tp : Pos} {x : Str} {c : Value} {a : Expr} {j : Int}
theorem ds_tryU (HX : Addr → List (Str × D) → List Cell → Prop) (hs : X.stack = X.env :: X.outer) (hf : X.env.frame = some X.env.locals) (hc : Names X x c)
    (hb : ∀ (pn : List (Addr × Obj)) (xe : Value → Shared → Prop), DS (X.tr pn xe) Γ body { A with nx := fun Γ' => DS X Γ' rest A, ex := HX })
    (hsu : ∀ C fs Γ', HX C fs Γ' → PySem.W.exmOne X.K (.ref C) c = some true ∧ ∀ (a : Addr) (oe : Obj) (pn : List (Addr × Obj)), DS (X.suite a ((a, oe) :: pn)) Γ' (b₀ :: su) { nx := fun Γ2 => DS X Γ2 rest A, rt := A.rt, bk := A.bk, ct := A.ct }) :
    DS X Γ (.Try body [.ExceptHandler (some (.Name x np)) none (b₀ :: su) pos'] [] [] pos :: rest) A := fun Hs H0 Hb tk σ Hd H r => by
  refine wSs_cons (wS_of (L2N.ps_try_many (tb := fun W D σ H => ∀ (pn : List (Addr × Obj)) (xe : Value → Shared → Prop), L2N.Takes (X.tr pn xe) W → wSs (X.tr pn xe) body D σ H) hs hf tk (fun W pn xe tkW _ => ⟨fun pins s σ H D I h => (h pn xe tkW).run pins s I⟩)
    (.cons (ts := fun a cls d => tsD X (b₀ :: su) a cls d) hc (fun a oe cls d pn hz hd => ⟨fun pins s σ H D I h => (h oe pn hz hd).run pins s I⟩) .nil)) ?_)
  intro pn xe tkW
  refine wSs_of (X := X.tr pn xe) (sts := body) pss_w ?_
  have tk2 : L2N.Takes (X.tr pn xe) (AD.W (X.tr pn xe).K Hs H0 Hb HX) := tkW.imp fun cls d σ' H' ⟨C, fs, Γ', Hd', e1, e2, r', e4⟩ => by
    subst e1
    obtain ⟨hm, q⟩ := hsu C fs Γ' e2
    refine ⟨true, hm, fun _ a ha oe pn2 hz hd => ?_, fun z => nomatch z⟩
    have tkN : ∀ pn3, L2N.Takes (X.suite a pn3) (AD.W X.K Hs H0 Hb fun _ _ _ => False) := fun pn3 u s' ⟨_, _, _, _, _, _, _, _, _, _, _, _, _, _, _, _, C2, _, _, _, _, z, _⟩ => z.elim
    have fin := q a oe pn2 Hs H0 Hb (tkN _) σ' Hd' H' r'
    constructor
    intro pins s I
    refine thn (fin.run pins s I) fun f s2 z => ?_
    cases f with
    | next =>
      obtain ⟨σ2, H2, I2, Γ2, Hd2, r2, z2⟩ := z
      exact ⟨σ2, H2, I2, z2 Hs H0 Hb tk _ Hd2 H2 r2⟩
    | brk => exact z
    | cont => exact z
    | ret v => exact z
  constructor
  intro pins s I
  refine thn ((hb pn xe Hs H0 Hb tk2 σ Hd H r).run pins s I) fun f s2 z => ?_
  cases f with
  | next =>
    obtain ⟨σ2, H2, I2, Γ2, Hd2, r2, z2⟩ := z
    exact ⟨σ2, H2, I2, z2 Hs H0 Hb tk σ2 Hd2 H2 r2⟩
  | brk => exact z
  | cont => exact z
  | ret v => exact z
theorem dn_listRg (hc : X.calm = true) (hg : Gl X "list") (hm : NoMg X "list") (hg2 : Gl X "range") (hm2 : NoMg X "range") (ha : DE X Γ a (.int j)) (hb : 0 ≤ j ∧ j ≤ 1000000) (hs : starEach [a] X.env = (false, eval a X.env) :: starEach [] X.env := by rfl)
    (hs2 : starEach [.Call (.Name "range" p) [a] [] p2] X.env = (false, eval (.Call (.Name "range" p) [a] [] p2) X.env) :: starEach [] X.env := by rfl) : DN X Γ (.Call (.Name "list" tp) [.Call (.Name "range" p) [a] [] p2] [] pos) ((List.range j.toNat).map fun q : Nat => PyData.int (q : Int)) :=
  fun σ Hd H Q r k => wE_of (pe_listRg hc hg hm (prg_1 hg2 hm2 pe_w hs) hs2) (ha σ Hd H _ r fun v Hd1 H1 s1 i1 => by
    cases i1
    refine ⟨j, rfl, RgOk.of_le (Int.le_refl _) (by omega) (by omega) hb.1, fun q hq => ?_⟩
    exact k q _ Hd1 _ (s1.trans (Stp.new s1.s hq)) (ex_none s1.h hq) (ex_none s1.s hq) upd_same (rgV_all j))
end
end Hf

namespace Hf
open PySem PySem.Spec PyProof.Rows L2
open Evl (Ex)
/-- an object of the class at C -/
abbrev dOb (C : Addr) : D := .dict [(.none, .int (C : Nat))]
structure Mk0 (K : PySem.W.Frag) (C : Addr) : Prop where
  makes : PySem.W.makesIn K C = true
  init : PySem.W.findIn K (.ref C) "__init__" = some (some (.builtin "object.__init__"))
  kp : PySem.W.keepIn K (.ref C) = true
section
variable {X : Cx} {Γ : List Cell} {C : Addr} {x m : Str} {p pos apos : Pos} {e o : Expr} {es : List Expr} {ds rs : List D} {d : D} {k : Nat} {S : List D → Res → Prop}
theorem run_make0 {pins : List (Addr × Obj)} {σ : St} {H : Hp} {s : Shared} {Q : VK} (M : Mk0 X.K C) (I : Inv X pins σ H s)
    (h : ∀ x dx, H x = none → H dx = none → dx ≠ x → Q (.ref x) (upd (upd H dx (.own x)) x (.ins C dx []))) :
    wpAny (model X.prog X.w) X.A (call (.ref C) []) (EP X pins σ Q) X.xe s := by
  have hq := h (s.heap.objs.size + 1) s.heap.objs.size (I.hok.fresh (Nat.le_succ _)) (I.hok.fresh (Nat.le_refl _)) (Nat.ne_of_lt (Nat.lt_succ_self _))
  have I2 := Inv.made (C := C) I
  have X1 := I.kIn
  have Y := PySem.W.makes_of (M := model X.prog X.w) I.kIn M.makes
  refine wpAny_call (make_map0 I.kIn M.makes M.init (fun self => PySem.W.Looks.of_pure (PySem.W.oi_bind self)) ?_)
  have e2 : ((s.heap.push PySem.W.emptyDict).push (PySem.W.instObj C s.heap.objs.size)).get? (s.heap.objs.size + 1) = some (PySem.W.instObj C s.heap.objs.size) := by
    have := Heap.get?_push_size (s.heap.push PySem.W.emptyDict) (o := PySem.W.instObj C s.heap.objs.size) rfl
    rwa [Heap.size_push] at this
  have t1 : PySem.W.Looks (model X.prog X.w) ((s.heap.push PySem.W.emptyDict).push (PySem.W.instObj C s.heap.objs.size)) (typeOf (.ref (s.heap.objs.size + 1))) (.ref C) := (PySem.W.Looks.ld e2).andThen .now
  have t2 : PySem.W.Looks (model X.prog X.w) ((s.heap.push PySem.W.emptyDict).push (PySem.W.instObj C s.heap.objs.size)) (isInstance (.ref (s.heap.objs.size + 1)) (.type "object")) true := t1.andThen (Y.top.keeps fun b o e => Heap.get?_push_of_some _ (Heap.get?_push_of_some _ e))
  refine codeAny_call_builtin PySem.W.oi_plain PySem.W.entry_oi (@PySem.W.check_slot (model X.prog X.w) _ _ _ "object.__init__" "object" "__init__" (.ref (s.heap.objs.size + 1)) [] [] _ PySem.W.oi_kind PySem.W.oi_split t2 (PySem.W.oi_args (.ref (s.heap.objs.size + 1))) ?_)
  rw [PySem.W.oi_run]
  exact wpAny_pure (And.intro rfl ⟨V.ref (s.heap.objs.size + 1), _, I2, rfl, hq⟩)
theorem de_make0 (M : Mk0 X.K C) (hg : Gl X x) (hm : X.mg x = some (.ref C)) (hdb : (x == ("__debug__" : Str)) = false := by decide) : DE X Γ (.Call (.Name x p) [] [] pos) (dOb C) := fun σ Hd H Q r k => ⟨fun pins s I => by
  refine wpAny_Call_Name_kw (ld_glob I hg hm ?_ hdb)
  refine PySem.W.callWith_K0 I.kIn M.kp (run_make0 M I fun y dx n1 n2 ne => ?_)
  have s1 : Stp Hd H (upd Hd dx (.own y)) (upd H dx (.own y)) := Stp.newD r.sub n2
  have n1' : upd H dx (.own y) y = none := by rw [upd_ne (Ne.symm ne)]; exact n1
  have s2 := Stp.newD (o := .ins C dx []) s1.s n1'
  exact k _ _ _ (s1.trans s2) (.obj (by rw [upd_same]))⟩
structure HasM (P : Program) (w : World) (K : PySem.W.Frag) (mg : Str → Option Value) (base : Heap) (C : Addr) (m : Str) (k : Nat) (S : List D → Res → Prop) : Prop where
  ok : ∃ f fd ps, FnOk P w K mg base (L2N.CX P w) k f fd ps (spF K S) ∧ Cls K C ∧ Meth K C m f ∧ Binds K fd ps []
theorem HasM.mono {P : Program} {w : World} {K : PySem.W.Frag} {mg : Str → Option Value} {base : Heap} {j k : Nat} (h : HasM P w K mg base C m j S) (le : j ≤ k) : HasM P w K mg base C m k S := by
  obtain ⟨f, fd, ps, F, a, b, c⟩ := h.ok
  exact ⟨f, fd, ps, F.mono le, a, b, c⟩
theorem Is.ob0 {K : PySem.W.Frag} {H : Hp} {v : V} {d : D} (i : Is K H v d) (h : d = dOb C) : ∃ a dx, v = .ref a ∧ H a = some (.ins C dx []) := by
  cases i with
  | non => cases h
  | bl b => cases h
  | int b => cases h
  | str b => cases h
  | lst s a => cases h
  | tup s a => cases h
  | @dic a kvs es s q =>
    cases q with
    | nil => cases h
    | @cons kk v kvs d es h1 h2 =>
      have e : kD kk = .none := by
        injection h with h; injection h with h h'; injection h with h h'
      cases kk <;> cases e
  | @obj a C' dx s =>
    have e : C' = C := by
      injection h with h; injection h with h h'; injection h with h h'; injection h' with h'; exact Int.ofNat.inj h'
    subst e
    exact ⟨_, _, rfl, s⟩
  | ptr a => injection h with h; injection h with h h'; injection h with h h'; cases h
  | exc s q => injection h with h; injection h with h h'; cases h'
theorem Is.ob {K : PySem.W.Frag} {H : Hp} {v : V} (i : Is K H v (dOb C)) : ∃ a dx, v = .ref a ∧ H a = some (.ins C dx []) := i.ob0 rfl
theorem meth_core (h : HasM X.prog X.w X.K X.mg X.base C m k S) (hr : Room k X.A) (ho : DE X Γ o (dOb C)) (ha : DA X Γ (e :: es) ds) {out : Out} (hs : S (dOb C :: ds) (.ok out)) (hst : starEach (e :: es) X.env = (false, eval e X.env) :: starEach es X.env)
    (hpl : (backTo pos (starEach es X.env)).any (·.1) = false) {pl : Sem Bool} (ht : eval (.Call (.Attribute o m apos) (e :: es) [] pos) X.env = (do
      let ov ← eval o X.env
      standAt apos.atName
      let (f, first) ← holding [ov] (getMethod ov m pl)
      callWith pos f first (backTo pos (starEach (e :: es) X.env)) (backToKw pos (keywordEach [] X.env)))) {σ : St} {Hd H : Hp} {Q : VK} (r : Rl X.K Γ σ Hd H)
    (q : ∀ v Hd1 H1 H2, Stp Hd H Hd1 H1 → OutIs X.K Hd1 H1 out v H2 → Q v H2) : wE X (.Call (.Attribute o m apos) (e :: es) [] pos) σ H Q := by
  obtain ⟨f, fd, ps, F, c, hm, hb⟩ := h.ok
  refine wE_of (pe_meth pe_w c hm F hr hb .nil passN pa_w hst hpl ht) (ho σ Hd H _ r fun v Hd1 H1 s1 i1 => ?_)
  obtain ⟨a, dx, rfl, e1⟩ := i1.ob
  refine ⟨a, dx, [], rfl, s1.s _ _ e1, rfl, ha σ Hd1 H1 _ (r.stp s1) fun vs Hd2 H2 s2 i2 => ?_⟩
  rw [List.append_nil]
  exact ⟨Hd2, _, .ok out, s2.s, .cons (i1.mono s2.d) i2, hs, fun w H3 z => q w Hd2 H2 H3 (s1.trans s2) z⟩
theorem meth_core0 (h : HasM X.prog X.w X.K X.mg X.base C m k S) (hr : Room k X.A) (ho : DE X Γ o (dOb C)) {out : Out} (hs : S [dOb C] (.ok out)) {pl : Sem Bool} (ht : eval (.Call (.Attribute o m apos) [] [] pos) X.env = (do
      let ov ← eval o X.env
      standAt apos.atName
      let (f, first) ← holding [ov] (getMethod ov m pl)
      callWith pos f first (backTo pos (starEach [] X.env)) (backToKw pos (keywordEach [] X.env)))) {σ : St} {Hd H : Hp} {Q : VK} (r : Rl X.K Γ σ Hd H)
    (q : ∀ v Hd1 H1 H2, Stp Hd H Hd1 H1 → OutIs X.K Hd1 H1 out v H2 → Q v H2) : wE X (.Call (.Attribute o m apos) [] [] pos) σ H Q := by
  obtain ⟨f, fd, ps, F, c, hm, hb⟩ := h.ok
  refine wE_of (pe_meth0 pe_w c hm F hr hb .nil passN ht) (ho σ Hd H _ r fun v Hd1 H1 s1 i1 => ?_)
  obtain ⟨a, dx, rfl, e1⟩ := i1.ob
  refine ⟨a, dx, [], rfl, s1.s _ _ e1, rfl, ?_⟩
  show spF X.K S [V.ref a] H1 Q E0
  exact ⟨Hd1, _, .ok out, s1.s, .cons i1 .nil, hs, fun w H3 z => q w Hd1 H1 H3 s1 z⟩
theorem de_meth (h : HasM X.prog X.w X.K X.mg X.base C m k S) (hr : Room k X.A) (ho : DE X Γ o (dOb C)) (ha : DA X Γ (e :: es) ds) (hs : S (dOb C :: ds) (.ok (.val d))) (hst : starEach (e :: es) X.env = (false, eval e X.env) :: starEach es X.env := by rfl)
    (hpl : (backTo pos (starEach es X.env)).any (·.1) = false := by rfl) {pl : Sem Bool} (ht : eval (.Call (.Attribute o m apos) (e :: es) [] pos) X.env = (do
      let ov ← eval o X.env
      standAt apos.atName
      let (f, first) ← holding [ov] (getMethod ov m pl)
      callWith pos f first (backTo pos (starEach (e :: es) X.env)) (backToKw pos (keywordEach [] X.env))) := by rfl) : DE X Γ (.Call (.Attribute o m apos) (e :: es) [] pos) d := fun σ Hd H Q r k =>
  meth_core h hr ho ha hs hst hpl ht r fun v Hd1 H1 H2 s1 ⟨Hd2, s2, i2⟩ => k v Hd2 H2 (s1.trans s2) i2
theorem de_meth0 (h : HasM X.prog X.w X.K X.mg X.base C m k S) (hr : Room k X.A) (ho : DE X Γ o (dOb C)) (hs : S [dOb C] (.ok (.val d))) {pl : Sem Bool} (ht : eval (.Call (.Attribute o m apos) [] [] pos) X.env = (do
      let ov ← eval o X.env
      standAt apos.atName
      let (f, first) ← holding [ov] (getMethod ov m pl)
      callWith pos f first (backTo pos (starEach [] X.env)) (backToKw pos (keywordEach [] X.env))) := by rfl) : DE X Γ (.Call (.Attribute o m apos) [] [] pos) d := fun σ Hd H Q r k =>
  meth_core0 h hr ho hs ht r fun v Hd1 H1 H2 s1 ⟨Hd2, s2, i2⟩ => k v Hd2 H2 (s1.trans s2) i2
theorem dn_meth (h : HasM X.prog X.w X.K X.mg X.base C m k S) (hr : Room k X.A) (ho : DE X Γ o (dOb C)) (ha : DA X Γ (e :: es) ds) (hs : S (dOb C :: ds) (.ok (.newL rs))) (hst : starEach (e :: es) X.env = (false, eval e X.env) :: starEach es X.env := by rfl)
    (hpl : (backTo pos (starEach es X.env)).any (·.1) = false := by rfl) {pl : Sem Bool} (ht : eval (.Call (.Attribute o m apos) (e :: es) [] pos) X.env = (do
      let ov ← eval o X.env
      standAt apos.atName
      let (f, first) ← holding [ov] (getMethod ov m pl)
      callWith pos f first (backTo pos (starEach (e :: es) X.env)) (backToKw pos (keywordEach [] X.env))) := by rfl) : DN X Γ (.Call (.Attribute o m apos) (e :: es) [] pos) rs := fun σ Hd H Q r k =>
  meth_core h hr ho ha hs hst hpl ht r fun v Hd1 H1 H2 s1 ⟨Hd2, l, vs, e1, s2, h0, hd, h1, i2⟩ => by
    subst e1
    exact k l vs Hd2 H2 (s1.trans s2) (ex_none s1.h h0) hd h1 i2
theorem dn_meth0 (h : HasM X.prog X.w X.K X.mg X.base C m k S) (hr : Room k X.A) (ho : DE X Γ o (dOb C)) (hs : S [dOb C] (.ok (.newL rs))) {pl : Sem Bool} (ht : eval (.Call (.Attribute o m apos) [] [] pos) X.env = (do
      let ov ← eval o X.env
      standAt apos.atName
      let (f, first) ← holding [ov] (getMethod ov m pl)
      callWith pos f first (backTo pos (starEach [] X.env)) (backToKw pos (keywordEach [] X.env))) := by rfl) : DN X Γ (.Call (.Attribute o m apos) [] [] pos) rs := fun σ Hd H Q r k =>
  meth_core0 h hr ho hs ht r fun v Hd1 H1 H2 s1 ⟨Hd2, l, vs, e1, s2, h0, hd, h1, i2⟩ => by
    subst e1
    exact k l vs Hd2 H2 (s1.trans s2) (ex_none s1.h h0) hd h1 i2
end
section
variable {X : Cx} {Γ : List Cell} {C C2 : Addr} {x m : Str} {p pos apos : Pos} {e o : Expr} {es : List Expr} {ds rs : List D} {d : D} {k : Nat} {S : List D → Res → Prop} {fs : List (Str × D)}
theorem pe_methE {CX : CXT} {f : Addr} {fd : FuncData} {ps : List Str} {sp : Sp} {E : St → XK} {ta : TE} {t : TA} {pl : Sem Bool} (he : PE X o ta) (c : Cls X.K C) (hm : Meth X.K C m f) (F : FnOk X.prog X.w X.K X.mg X.base CX k f fd ps sp) (hr : Room k X.A) (hb : Binds X.K fd ps []) (hx : ∀ σ, PassesAt CX X σ (E σ)) (ha : PA X (e :: es) t)
    (hst : starEach (e :: es) X.env = (false, eval e X.env) :: starEach es X.env) (hpl : (backTo pos (starEach es X.env)).any (·.1) = false)
    (ht : eval (.Call (.Attribute o m apos) (e :: es) [] pos) X.env = (do
      let ov ← eval o X.env
      standAt apos.atName
      let (f, first) ← holding [ov] (getMethod ov m pl)
      callWith pos f first (backTo pos (starEach (e :: es) X.env)) (backToKw pos (keywordEach [] X.env)))) :
    PE X (.Call (.Attribute o m apos) (e :: es) [] pos) (fun σ H Q => ta σ H fun x H1 => ∃ a dx fs, x = .ref a ∧ H1 a = some (.ins C dx fs) ∧ fs.lookup m = none ∧ t σ H1 fun vs H2 => sp (x :: vs) H2 Q (E σ)) := by
  refine ⟨fun pins s σ H Q I h => ?_⟩
  refine PySem.W.methodCall_KW (pl := pl) (thn (he.run pins s σ H _ I h) fun u s1 ⟨x, H1, I1, rx, a, dx, fs, ex, ea, l, q⟩ => ?_) ht
  subst ex
  obtain rfl : u = Value.ref a := rx
  refine getmeth_ok I1 ea c hm l ?_
  refine PySem.W.callWith_K (first := [.ref a]) (h₀ := X.base) I.ok.mod.kin hm.kp (thn (ha.run pos pins s1 σ H1 _ I1 q) fun us s2 ⟨vs, H2, I2, r, q2⟩ => ⟨I2.kIn, ?_⟩) hst hpl
  exact run_fnS (us := .ref a :: us) (vs := .ref a :: vs) F hr hb (hx σ) I2 (.cons rfl r) q2
theorem dx_meth (h : HasM X.prog X.w X.K X.mg X.base C m k S) (hr : Room k X.A) (ho : DE X Γ o (dOb C)) (ha : DA X Γ (e :: es) ds) (hs : S (dOb C :: ds) (.exc C2 fs)) (hst : starEach (e :: es) X.env = (false, eval e X.env) :: starEach es X.env := by rfl)
    (hpl : (backTo pos (starEach es X.env)).any (·.1) = false := by rfl) {pl : Sem Bool} (ht : eval (.Call (.Attribute o m apos) (e :: es) [] pos) X.env = (do
      let ov ← eval o X.env
      standAt apos.atName
      let (f, first) ← holding [ov] (getMethod ov m pl)
      callWith pos f first (backTo pos (starEach (e :: es) X.env)) (backToKw pos (keywordEach [] X.env))) := by rfl) : DX X Γ (.Call (.Attribute o m apos) (e :: es) [] pos) C2 fs := fun Hs H0 Hb tk σ Hd H Q r => by
  obtain ⟨f, fd, ps, F, c, hm, hb⟩ := h.ok
  refine wE_of (pe_methE pe_w c hm F hr hb (fun σ => L2N.passAt tk σ) pa_w hst hpl ht) (ho σ Hd H _ r.l fun v Hd1 H1 s1 i1 => ?_)
  obtain ⟨a, dx, rfl, e1⟩ := i1.ob
  refine ⟨a, dx, [], rfl, s1.s _ _ e1, rfl, ha σ Hd1 H1 _ (r.l.stp s1) fun vs Hd2 H2 s2 i2 => ?_⟩
  refine ⟨Hd2, _, .exc C2 fs, s2.s, .cons (i1.mono s2.d) i2, hs, fun d H2 w => ?_⟩
  obtain ⟨Hd3, r2, q⟩ := w.fld r (s1.trans s2)
  exact ⟨C2, fs, Γ, Hd3, rfl, ⟨rfl, rfl, rfl⟩, r2, q⟩
end
structure IsC (K : PySem.W.Frag) (C : Addr) : Prop where
  cl : Cls K C
  ha : PySem.W.findIn K (.ref C) "__class__" = some (some (.builtin "object.__class__"))
  hn : PySem.W.specialIn K (.builtin "object.__class__") "__get__" = some (some (.builtin "getset_descriptor.__get__"))
  ht : PySem.W.takesIn K (.builtin "object.__class__") = some true
  hm : PySem.W.mroIn K C (.type "object") = some true
theorem de_isO {X : Cx} {Γ : List Cell} {C D : Addr} {m : Bool} {x : Str} {a : Expr} {p2 p3 pos : Pos} (T : IsC X.K C) (hg : Gl X "isinstance") (hm : NoMg X "isinstance") (ha : DE X Γ a (dOb C)) (hgD : Gl X x) (gD : X.mg x = some (.ref D)) (hk : PySem.W.kitOne X.K (.ref C) (.ref D) = some m) (hdb : (x == ("__debug__" : Str)) = false := by decide)
    (hs : starEach [a, .Name x p2] X.env = (false, eval a X.env) :: starEach [.Name x p2] X.env := by rfl) (hs2 : starEach [.Name x p2] X.env = (false, eval (.Name x p2) X.env) :: starEach [] X.env := by rfl) (hpl : (backTo pos (starEach [.Name x p2] X.env)).any (·.1) = false := by rfl) :
    DE X Γ (.Call (.Name "isinstance" p3) [a, .Name x p2] [] pos) (.bool m) := fun σ Hd H Q r q =>
  wE_of (pe_callB call_isi hg hm (by decide +kernel) (pa_cons pe_w (pa_cons (pe_glob (v := .ref D) hgD gD rfl hdb) pa_nil hs2) hs) (by decide) (by decide) hs hpl) (ha σ Hd H _ r fun v Hd1 H1 s1 i1 => by
    obtain ⟨b, dx, rfl, e1⟩ := i1.ob
    exact ⟨.ref b, .ref D, .ref C, .ref D, m, rfl, .own D, .base (.ins (s1.s _ _ e1) T.cl T.ha T.hn T.ht T.hm), hk, q _ Hd1 H1 s1 (.bl _)⟩)
end Hf

namespace Hf
open PySem
mutual
def ndic : D → Bool
  | .dict _ => false
  | .list xs => ndicA xs
  | .tuple xs => ndicA xs
  | _ => true
def ndicA : List D → Bool
  | [] => true
  | x :: xs => ndic x && ndicA xs
end
mutual
theorem eqv_nd : ∀ (d : D), ndic d = true → PyData.eqv d d = true
  | .none, _ => by simp [PyData.eqv]
  | .bool b, _ => by cases b <;> simp [PyData.eqv]
  | .int _, _ => by simp [PyData.eqv]
  | .str _, _ => by simp [PyData.eqv]
  | .dict _, h => by simp [ndic] at h
  | .list xs, h => by
    have := eqvAll_nd xs (by simpa [ndic] using h)
    simpa [PyData.eqv] using this
  | .tuple xs, h => by
    have := eqvAll_nd xs (by simpa [ndic] using h)
    simpa [PyData.eqv] using this
theorem eqvAll_nd : ∀ (ds : List D), ndicA ds = true → PyData.eqvAll ds ds = true
  | [], _ => by simp [PyData.eqvAll]
  | x :: xs, h => by
    simp only [ndicA, Bool.and_eq_true] at h
    simp [PyData.eqvAll, eqv_nd x h.1, eqvAll_nd xs h.2]
end
theorem tup_eqv {a b c : D} (h : PyData.eqv a b = true) (hc : ndic c = true) : PyData.eqv (.tuple [a, c]) (.tuple [b, c]) = true := by
  simp [PyData.eqv, PyData.eqvAll, h, eqv_nd c hc]
theorem ndicA_map {α : Type} {f : α → D} (h : ∀ x, ndic (f x) = true) : ∀ xs : List α, ndicA (xs.map f) = true
  | [] => rfl
  | x :: xs => by rw [List.map_cons]; simp [ndicA, h x, ndicA_map h xs]
theorem eqv_two (a b c d : Int) : PyData.eqv (.tuple [.int a, .int b]) (.tuple [.int c, .int d]) = (decide (a = c) && decide (b = d)) := by
  simp [PyData.eqv, PyData.eqvAll]
  by_cases x : a = c <;> by_cases y : b = d <;> simp [x, y]
end Hf
namespace Mf
open PySem Hf
theorem atS {cs : List Nat} {i : Int} {n c : Nat} (hi : i = (n : Int)) (h : cs[n]? = some c) : L2.atI cs i = some c := by
  rw [hi]
  exact L2.atI_nat h
def hA (f : Int) (cs : List Nat) : Nat → Int
  | 0 => f
  | n + 1 => hA f cs n + (match cs[n]? with | some c => riseN c | none => 0)
theorem hA_succ {f : Int} {cs : List Nat} {n c : Nat} (h : cs[n]? = some c) : hA f cs (n + 1) = hA f cs n + riseN c := by
  show hA f cs n + _ = _
  rw [h]
def hL (f : Int) (cs : List Nat) (n : Nat) : List Int := (List.range (n + 1)).map (hA f cs)
theorem hL_len (f : Int) (cs : List Nat) (n : Nat) : (hL f cs n).length = n + 1 := by simp [hL]
theorem hL_zero (f : Int) (cs : List Nat) : hL f cs 0 = [f] := rfl
theorem hL_succ (f : Int) (cs : List Nat) (n : Nat) : hL f cs (n + 1) = hL f cs n ++ [hA f cs (n + 1)] := by
  unfold hL
  rw [List.range_succ (n := n + 1), List.map_append]
  rfl
theorem hL_last (f : Int) (cs : List Nat) (n : Nat) : L2.atI ((hL f cs n).map PyData.int) (-1) = some (.int (hA f cs n)) := by
  unfold hL
  rw [List.range_succ, List.map_append, List.map_append]
  exact L2.atI_last _ _
/-- the sign at n can be walked -/
def okAt (f : Int) (cs : List Nat) (n : Nat) : Prop := ∃ c, cs[n]? = some c ∧ c ∈ [100, 108, 117] ∧ 0 ≤ hA f cs (n + 1)
def wOk (f : Int) (cs : List Nat) : Prop := ∀ n, n < cs.length → okAt f cs n
def wNo (f : Int) (cs : List Nat) (n : Nat) : Prop := n < cs.length ∧ (∀ m, m < n → okAt f cs m) ∧ ¬ okAt f cs n
theorem wNo.eq {f : Int} {cs : List Nat} {n i : Nat} (h : wNo f cs n) (hi : ∀ m, m < i → okAt f cs m) (hn : ¬ okAt f cs i) : i = n := by
  rcases Nat.lt_trichotomy i n with a | a | a
  · exact absurd (h.2.1 i a) hn
  · exact a
  · exact absurd (hi n a) h.2.2
theorem ok_step {f : Int} {cs : List Nat} {i : Nat} (hi : ∀ m, m < i → okAt f cs m) (h : okAt f cs i) : ∀ m, m < i + 1 → okAt f cs m := fun m hm => by
  rcases Nat.lt_or_ge m i with a | a
  · exact hi m a
  · rw [show m = i by omega]; exact h
theorem walk_cases (f : Int) (cs : List Nat) : wOk f cs ∨ ∃ n, wNo f cs n := by
  have key : ∀ n, (∀ m, m < n → okAt f cs m) ∨ ∃ k, k < n ∧ (∀ m, m < k → okAt f cs m) ∧ ¬ okAt f cs k := by
    intro n
    induction n with
    | zero => exact .inl fun m h => absurd h (by omega)
    | succ n ih =>
      rcases ih with h | ⟨k, h1, h2, h3⟩
      · by_cases q : okAt f cs n
        · exact .inl (ok_step h q)
        · exact .inr ⟨n, by omega, h, q⟩
      · exact .inr ⟨k, by omega, h2, h3⟩
  rcases key cs.length with h | ⟨k, h1, h2, h3⟩
  · exact .inl h
  · exact .inr ⟨k, h1, h2, h3⟩
/-- the place that the way from f to l fails at -/
def badW (f : Int) (cs : List Nat) (l : Int) (p : Nat) : Prop := wNo f cs p ∨ (wOk f cs ∧ hA f cs cs.length ≠ l ∧ p = cs.length)
def fineW (f : Int) (cs : List Nat) (l : Int) : Prop := wOk f cs ∧ hA f cs cs.length = l
theorem way_cases (f : Int) (cs : List Nat) (l : Int) : fineW f cs l ∨ ∃ p, badW f cs l p := by
  rcases walk_cases f cs with h | ⟨n, h⟩
  · by_cases e : hA f cs cs.length = l
    · exact .inl ⟨h, e⟩
    · exact .inr ⟨_, .inr ⟨h, e, rfl⟩⟩
  · exact .inr ⟨n, .inl h⟩
theorem signs_tS {cs : List Nat} {i : Nat} {d : D} (h : (signs (tS cs))[i]? = some d) : ∃ c, cs[i]? = some c ∧ d = .str ⟨#[c]⟩ := by
  unfold signs at h
  rw [List.getElem?_map] at h
  obtain ⟨c, hc, rfl⟩ := Option.map_eq_some_iff.mp h
  exact ⟨c, hc, rfl⟩
theorem in_uld (c : Nat) : inD (.str ⟨#[c]⟩) [.str "u", .str "l", .str "d"] = decide (c ∈ [100, 108, 117]) := by
  have e : ∀ k : Nat, PyData.eqv (.str ⟨#[k]⟩) (.str ⟨#[c]⟩) = decide (k = c) := fun k => by
    simp only [PyData.eqv]
    by_cases z : k = c
    · subst z; simp
    · simp only [z, decide_false]
      refine beq_eq_false_iff_ne.mpr fun w => z ?_
      have := congrArg (fun s : Str => s.cps.toList) w
      simpa using this
  show (PyData.eqv (.str ⟨#[117]⟩) (.str ⟨#[c]⟩) || (PyData.eqv (.str ⟨#[108]⟩) (.str ⟨#[c]⟩) || (PyData.eqv (.str ⟨#[100]⟩) (.str ⟨#[c]⟩) || false))) = _
  rw [e, e, e]
  simp only [List.mem_cons, List.not_mem_nil, or_false, Bool.or_false]
  by_cases a : c = 100 <;> by_cases b : c = 108 <;> by_cases d : c = 117 <;> simp [a, b, d] <;> omega
theorem sg_no {c : Nat} (h : (!decide (c ∈ [100, 108, 117])) = true) : ¬ c ∈ [100, 108, 117] := by
  intro z
  rw [decide_eq_true z] at h
  cases h
theorem sg_yes {c : Nat} (h : (!decide (c ∈ [100, 108, 117])) = false) : c ∈ [100, 108, 117] := by
  by_cases z : c ∈ [100, 108, 117]
  · exact z
  · rw [decide_eq_false z] at h
    cases h
theorem bad_sg {f : Int} {cs : List Nat} {i c : Nat} (hc : cs[i]? = some c) (h : ¬ c ∈ [100, 108, 117]) : ¬ okAt f cs i := by
  rintro ⟨c', h1, h2, _⟩
  rw [hc] at h1
  cases h1
  exact h h2
theorem bad_lo {f : Int} {cs : List Nat} {i c : Nat} (hc : cs[i]? = some c) (h : hA f cs i + riseN c < 0) : ¬ okAt f cs i := by
  rintro ⟨c', h1, _, h3⟩
  rw [hc] at h1
  cases h1
  rw [hA_succ hc] at h3
  omega
theorem ok_by {f : Int} {cs : List Nat} {i c : Nat} (hc : cs[i]? = some c) (h : c ∈ [100, 108, 117]) (h2 : ¬ hA f cs i + riseN c < 0) : okAt f cs i := ⟨c, hc, h, by rw [hA_succ hc]; omega⟩
theorem en_len (cs : List Nat) (g : Nat → D → D) : ((Hf.signs (tS cs)).mapIdx g).length = cs.length := by simp [Hf.signs]
theorem in_dlu (c : Nat) : decide (c ∈ (("dlu" : Str)).cps.toList) = decide (c ∈ [100, 108, 117]) := rfl
def uC (j : Int) : Nat := ([117, 108, 100, 117, 108] : List Nat).getD j.toNat 117
theorem uC_at (x : Int) : L2.atI (("uldul" : Str)).cps.toList (x % 5) = some (uC (x % 5)) := by
  have a := Int.emod_nonneg x (show (5 : Int) ≠ 0 by decide)
  have b := Int.emod_lt_of_pos x (show (0 : Int) < 5 by decide)
  obtain ⟨n, hn⟩ : ∃ n : Nat, x % 5 = (n : Int) := ⟨(x % 5).toNat, by omega⟩
  rw [hn]
  have : n < 5 := by omega
  match n, this with
  | 0, _ => rfl
  | 1, _ => rfl
  | 2, _ => rfl
  | 3, _ => rfl
  | 4, _ => rfl
theorem uC_in (j : Int) : uC j ∈ [100, 108, 117] := by
  unfold uC
  rcases h : j.toNat with _ | _ | _ | _ | _ | n <;> simp
def xC (j : Int) : Nat := ([120, 85, 68, 32, 48, 45, 126, 76, 78, 117, 108] : List Nat).getD j.toNat 120
theorem xC_at (x : Int) : L2.atI (("xUD 0-~LNul" : Str)).cps.toList (x % 11) = some (xC (x % 11)) := by
  have a := Int.emod_nonneg x (show (11 : Int) ≠ 0 by decide)
  have b := Int.emod_lt_of_pos x (show (0 : Int) < 11 by decide)
  obtain ⟨n, hn⟩ : ∃ n : Nat, x % 11 = (n : Int) := ⟨(x % 11).toNat, by omega⟩
  rw [hn]
  have : n < 11 := by omega
  match n, this with
  | 0, _ => rfl
  | 1, _ => rfl
  | 2, _ => rfl
  | 3, _ => rfl
  | 4, _ => rfl
  | 5, _ => rfl
  | 6, _ => rfl
  | 7, _ => rfl
  | 8, _ => rfl
  | 9, _ => rfl
  | 10, _ => rfl
theorem cut_some {ns : List Int} {o u : Option Int} {i : Nat} {d : D} (h : (cutD (ns.map PyData.int) o u)[i]? = some d) : ∃ x : Int, d = .int x := by
  obtain ⟨x, _, rfl⟩ := List.mem_map.mp (cutD_mem (List.mem_of_getElem? h))
  exact ⟨x, rfl⟩
theorem cut_len2 {ds : List D} {m : Int} (hm : 0 ≤ m) : (cutD ds (some 2) (some (2 + m))).length ≤ m.toNat := by
  unfold cutD
  rw [List.length_take, List.length_drop]
  have a : HT.sIx ds.length 0 (some 2) = min 2 ds.length := rfl
  have b : HT.sIx ds.length ds.length (some (2 + m)) = min (2 + m).toNat ds.length := by
    show (if (2 + m : Int) < 0 then ((2 + m : Int) + (ds.length : Int)).toNat else min (2 + m : Int).toNat ds.length) = _
    rw [if_neg (by omega)]
  rw [a, b]
  omega
section
variable {cs : List Nat} {o u o2 u2 : Option Int} {c : Nat} (h : cs.length ≤ 15)
include h
theorem txl0 : cs.length ≤ 100000 := by omega
theorem txl1 : (cutD cs o u).length + [c].length ≤ 100000 := by
  have := cutD_le cs o u
  simp
  omega
theorem txl2 : (cutD cs o u ++ [c]).length + (cutD cs o2 u2).length ≤ 100000 := by
  have := cutD_le cs o u
  have := cutD_le cs o2 u2
  simp
  omega
theorem txl3 : (cutD cs o u ++ ([c] ++ cutD cs o2 u2)).length ≤ 100000 := by
  have := cutD_le cs o u
  have := cutD_le cs o2 u2
  simp
  omega
theorem txl4 : (cutD cs o u ++ [c] ++ cutD cs o2 u2).length ≤ 100000 := by
  have := txl3 (o := o) (u := u) (o2 := o2) (u2 := u2) (c := c) h
  rwa [List.append_assoc]
end
theorem sh_pl (bs : List Bool) (p : Int) : SeqAt.shaped (.tuple [.list (bs.map PyData.bool), .int p]) = true := shaped_of (n := 3) (dl_tup (n := 2) (by
  intro d hd
  simp only [List.mem_cons, List.not_mem_nil, or_false] at hd
  rcases hd with rfl | rfl
  · exact dl_lst (dl_map (fun b => dl_bool b (by decide)) bs)
  · exact dl_int p (by decide))) (by decide)
theorem sh_ints (xs : List Int) : SeqAt.shaped (.tuple (xs.map PyData.int)) = true := shaped_of (n := 2) (dl_tup (n := 1) (dl_map (fun b => dl_int b (by decide)) xs)) (by decide)
theorem sh_two (a b : Int) : SeqAt.shaped (.tuple [.int a, .int b]) = true := sh_ints [a, b]
end Mf

namespace Hf
open PySem PySem.Spec PyProof.Rows L2 RT PySem.W HsX
open Evl (Ex)
/-- the signs of a whole number -/
def iL (z : Int) : List Nat := if z < 0 then 45 :: TL.numL z.natAbs else TL.numL z.natAbs
theorem tS_eta (z : Str) : z = tS z.cps.toList := by cases z; rfl
theorem tS_inj {a b : List Nat} (h : tS a = tS b) : a = b := congrArg (fun z : Str => z.cps.toList) h
theorem str_iL (z : Int) : Str.ofString (toString z) = tS (iL z) := by
  unfold iL
  by_cases h : z < 0
  · rw [if_pos h, PyProof.Rows.toString_neg h]
    have e := TL.tl_num z.natAbs
    rw [show (0 : Int) - z = ((z.natAbs : Nat) : Int) by omega]
    rw [Str.ofString_eq_toList] at e ⊢
    have e2 : ((toString ((z.natAbs : Nat) : Int)).toList.map Char.toNat) = TL.numL z.natAbs := e
    rw [String.toList_append, List.map_append, e2]
    rfl
  · rw [if_neg h]
    have e := TL.tl_num z.natAbs
    rw [show ((z.natAbs : Nat) : Int) = z by omega] at e
    rw [tS_eta (Str.ofString (toString z))]
    exact congrArg tS e
section
variable {X : Cx} {Γ : List Cell} {a b e : Expr} {es : List Expr} {ds : List D} {d : D} {p pos apos : Pos}
theorem de_strI {i : Int} (hg : Gl X "str") (hm : NoMg X "str") (ha : DE X Γ a (.int i)) (hi : i.natAbs.log2 < 1920) (hs : starEach [a] X.env = (false, eval a X.env) :: starEach [] X.env := by rfl) : DE X Γ (.Call (.Name "str" p) [a] [] pos) (.str (tS (iL i))) :=
  de_Ty call_str_int hg hm (by decide +kernel) (da_cons ha da_nil hs) (hdb := by decide) (hn := by decide) (he := hs) (hpl := rfl) (hr := fun vs Hd H Q s h k => by
    obtain ⟨v, rfl, q⟩ := all1 h
    cases q
    refine ⟨i, rfl, hi, ?_⟩
    have e : (V.str (toString i) : V) = .str (tS (iL i)) := congrArg V.str (str_iL i)
    rw [e]
    exact k _ Hd H (Stp.refl s) (.str _))
theorem de_intS {l : List Nat} {n : Int} (hg : Gl X "int") (hm : NoMg X "int") (ha : DE X Γ a (.str (tS l))) (hi : PySem.intText? (tS l) = some n) (hl : l.length ≤ 640) (hs : starEach [a] X.env = (false, eval a X.env) :: starEach [] X.env := by rfl) : DE X Γ (.Call (.Name "int" p) [a] [] pos) (.int n) :=
  de_Ty call_int_str hg hm (by decide +kernel) (da_cons ha da_nil hs) (hdb := by decide) (hn := by decide) (he := hs) (hpl := rfl) (hr := fun vs Hd H Q s h k => by
    obtain ⟨v, rfl, q⟩ := all1 h
    cases q
    exact ⟨_, n, rfl, hi, hl, k _ Hd H (Stp.refl s) (.int _)⟩)
theorem all_strs {K : PySem.W.Frag} {H : Hp} : ∀ (ws : List (List Nat)), IsAll K H ((ws.map tS).map V.str) (ws.map fun w => PyData.str (tS w))
  | [] => .nil
  | w :: ws => .cons (.str _) (all_strs ws)
theorem IsAll.toStrs {K : PySem.W.Frag} {H : Hp} : ∀ {vs : List V} {ws : List (List Nat)}, IsAll K H vs (ws.map fun w => PyData.str (tS w)) → vs = (ws.map tS).map V.str
  | _, [], .nil => rfl
  | _, w :: ws, .cons a b => by cases a; rw [IsAll.toStrs b]; rfl
abbrev wsD (ws : List (List Nat)) : List D := ws.map fun w => PyData.str (tS w)
/-- a.split(b) -/
theorem dn_split {l s : List Nat} (ha : DE X Γ a (.str (tS l))) (hb : DE X Γ b (.str (tS s))) (hs : s ≠ []) (hk : s.all (· < 256) = true) (hl : l.length ≤ 100000)
    (hp : PE X (.Call (.Attribute a "split" apos) [b] [] pos) (tM1 (fun x xs H Q => ∃ a b, x = .str a ∧ xs = [.str b] ∧ (b.length == 0) = false ∧ a.length + 2 ≤ sizeLine ∧ rNewStrs (Txt.split a b) H Q) (wE X a) (wE X b))) : DN X Γ (.Call (.Attribute a "split" apos) [b] [] pos) (wsD (TL.spl s 0 [] l)) := fun σ Hd H Q r k =>
  wE_of hp (ha σ Hd H _ r fun v Hd1 H1 s1 i1 => by
    cases i1
    refine ⟨⟨_, rfl⟩, hb σ Hd1 H1 _ (r.stp s1) fun u Hd2 H2 s2 i2 => ?_⟩
    cases i2
    have sl : (tS s).length = s.length := by simp [Str.length]
    have ll : (tS l).length = l.length := by simp [Str.length]
    refine ⟨_, _, rfl, rfl, ?_, ?_, ?_⟩
    · rw [sl]
      cases s with
      | nil => exact absurd rfl hs
      | cons c s => rfl
    · rw [ll, sizeLine_eq]; omega
    · have q : Txt.split (tS l) (tS s) = (TL.spl s 0 [] l).map tS := SX.split_S (a := l) (b := s) hs hk
      rw [q]
      exact fun q hq => k q _ Hd2 _ ((s1.trans s2).trans (Stp.new s2.s hq)) (ex_none (s1.trans s2).h hq) (ex_none s2.s hq) upd_same (all_strs _))
/-- a.join(b) -/
theorem de_join {s : List Nat} {ws : List (List Nat)} (ha : DE X Γ a (.str (tS s))) (hb : DQ X Γ b (wsD ws)) (hz : (ws.map List.length).sum + ws.length * s.length ≤ 100000)
    (hp : PE X (.Call (.Attribute a "join" apos) [b] [] pos) (tM1 (fun x xs H Q => ∃ a p, ∃ ys : List Str, x = .str a ∧ xs = [.ref p] ∧ (SqL X.K H p (ys.map V.str) ∨ SqT X.K H p (ys.map V.str)) ∧ (ys.map (·.length)).sum + ys.length * a.length ≤ 16777216 ∧ Q (.str (Txt.join a ys)) H) (wE X a) (wE X b))) : DE X Γ (.Call (.Attribute a "join" apos) [b] [] pos) (.str (tS (TL.joinL s ws))) := fun σ Hd H Q r k =>
  wE_of hp (ha σ Hd H _ r fun v Hd1 H1 s1 i1 => by
    cases i1
    refine ⟨⟨_, rfl⟩, hb σ Hd1 H1 _ (r.stp s1) fun l vs Hd2 H2 s2 h2 i2 => ?_⟩
    rw [i2.toStrs] at h2
    have e : Txt.join (tS s) (ws.map tS) = tS (TL.joinL s ws) := SX.join_S s ws
    have sl : (tS s).length = s.length := by simp [Str.length]
    refine ⟨_, l, ws.map tS, rfl, rfl, .inl h2, ?_, ?_⟩
    · rw [sl, List.length_map, List.map_map, show (ws.map ((fun x : Str => x.length) ∘ tS)) = ws.map List.length from List.map_congr_left fun w _ => by simp [Str.length]]
      omega
    · rw [e]
      exact k _ Hd2 H2 (s1.trans s2) (.str _))
def isoD : D → Bool
  | .dict [] => true
  | .dict _ => false
  | _ => true
theorem Is.tyE {K : PySem.W.Frag} {H : Hp} {v : V} {d : D} (h : Is K H v d) (nd : isoD d = true) : TyX K H v (.type (tyS d)) := by
  cases h with
  | dic rd kv =>
    cases kv with
    | nil =>
      rcases rd with s | ⟨o, s⟩
      · exact .base (.dK s)
      · exact .fDict s
    | cons _ _ => cases nd
  | obj _ => cases nd
  | ptr _ => cases nd
  | exc _ _ => cases nd
  | non => exact Is.tyx .non rfl
  | bl b => exact Is.tyx (.bl b) rfl
  | int i => exact Is.tyx (.int i) rfl
  | str x => exact Is.tyx (.str x) rfl
  | lst s al => exact Is.tyx (.lst s al) rfl
  | tup s al => exact Is.tyx (.tup s al) rfl
theorem de_isE {T : Str} {S : String} {m : Bool} (hg : Gl X "isinstance") (hm : NoMg X "isinstance") (hgT : Gl X T) (hmT : X.mg T = none) (hvT : bootBuiltins T = some (.type S)) (ha : DE X Γ a d) (hk : kitB (tyS d) S = some m ∧ isoD d = true) (hnT : T ≠ "__name__" := by decide) (hdT : (T == ("__debug__" : Str)) = false := by decide)
    (hs : starEach [a, .Name T p] X.env = (false, eval a X.env) :: starEach [.Name T p] X.env := by rfl) (hs2 : starEach [.Name T p] X.env = (false, eval (.Name T p) X.env) :: starEach [] X.env := by rfl) (hpl : (backTo pos (starEach [.Name T p] X.env)).any (·.1) = false := by rfl) {p2 : Pos} :
    DE X Γ (.Call (.Name "isinstance" p2) [a, .Name T p] [] pos) (.bool m) := fun σ Hd H Q r k =>
  wE_of (pe_callB call_isi hg hm (by decide +kernel) (pa_cons pe_w (pa_cons (pe_bltn (v := .ty S) hgT hmT hvT rfl hnT hdT) pa_nil hs2) hs) (by decide) (by decide) hs hpl) (ha σ Hd H _ r fun v Hd1 H1 s1 i1 =>
    ⟨v, .ty S, .type (tyS d), .type S, m, rfl, .ty S, (i1.mono s1.s).tyE hk.2, kit_ty hk.1, k _ Hd1 H1 s1 (.bl _)⟩)
/-- what is no text -/
def OddT (d : D) : Prop := kitB (tyS d) "str" = some false ∧ isoD d = true
def oddB : D → Bool
  | .none => true
  | .int _ => true
  | .tuple _ => true
  | .list _ => true
  | .dict [] => true
  | _ => false
theorem oddB_ok {d : D} (h : oddB d = true) : OddT d := by
  match d, h with
  | .none, _ => exact ⟨by decide +kernel, rfl⟩
  | .int _, _ => exact ⟨(by decide +kernel : kitB "int" "str" = some false), rfl⟩
  | .tuple _, _ => exact ⟨(by decide +kernel : kitB "tuple" "str" = some false), rfl⟩
  | .list _, _ => exact ⟨(by decide +kernel : kitB "list" "str" = some false), rfl⟩
  | .dict [], _ => exact ⟨(by decide +kernel : kitB "dict" "str" = some false), rfl⟩
end
end Hf

namespace Mf
open PySem PySem.Spec PyProof.Rows L2 RT PySem.W HsX Hf
/-- a figure -/
def isF (c : Nat) : Bool := decide (48 ≤ c ∧ c ≤ 57)
def wh0 (l : List Nat) : Bool := decide (l.length < 1) || (decide (30 < l.length) || (decide (l.headD 0 = 48) && decide (1 < l.length)))
/-- whole_read -/
def whR (l : List Nat) : Option Nat := if wh0 l = true then none else if l.all isF = true then some (NumText.digitsVal l) else none
/-- a minus ahead -/
def dsB (l : List Nat) : Bool := decide (l.take 1 = [45])
/-- top_read -/
def tpR (l : List Nat) : Option Int := if dsB l = true then (match whR (l.drop 1) with | some n => if n = 0 then none else some (-(n : Int)) | none => none) else (match whR l with | some n => some (n : Int) | none => none)
/-- the parts at the strokes -/
def pts (l : List Nat) : List (List Nat) := TL.spl [47] 0 [] l
/-- the fraction of a top and a bottom, where in lowest terms -/
def frQ (t : Int) (n : Nat) : Option Rat := if h : 2 ≤ n ∧ Int.gcd t n = 1 then some ⟨t, n, by omega, by simpa [Int.gcd, Nat.Coprime] using h.2⟩ else none
/-- fraction_read -/
def frR (l : List Nat) : Option Rat :=
  match pts l with
  | [a] => match tpR a with | some t => some (t : Rat) | none => none
  | [a, c] => match tpR a, whR c with | some t, some n => frQ t n | _, _ => none
  | _ => none
/-- the law's own reading -/
def drM (l : List Nat) : List Nat := if dsB l = true then l.drop 1 else l
def sgT (l : List Nat) (t : Nat) : Int := if dsB l = true then 0 - (t : Int) else (t : Int)
def rbR (l : List Nat) : Option Rat :=
  match pts (drM l) with
  | [a] => match whR a with | some t => if (dsB l && decide ((t : Int) = 0)) = true then none else some ((sgT l t : Int) : Rat) | none => none
  | [a, c] => match whR a, whR c with | some t, some n => if (dsB l && decide ((t : Int) = 0)) = true then none else frQ (sgT l t) n | _, _ => none
  | _ => none
theorem pre47 (c : Nat) (r : List Nat) : TL.pre [47] (c :: r) = decide (c = 47) := by
  show (([c] : List Nat) == [47]) = _
  by_cases h : c = 47
  · subst h; rfl
  · rw [decide_eq_false h]
    simpa using h
theorem pts_acc (x : Nat) : ∀ (l acc : List Nat), TL.spl [47] 0 (x :: acc) l = match TL.spl [47] 0 acc l with | [] => [] | p :: ps => (x :: p) :: ps
  | [], acc => rfl
  | c :: r, acc => by
    by_cases h : TL.pre [47] (c :: r) = true
    · rw [TL.spl_hit h, TL.spl_hit h]
    · have h := Bool.eq_false_iff.mpr h
      rw [TL.spl_miss h, TL.spl_miss h]
      exact pts_acc x r (acc ++ [c])
theorem pts_ne (l : List Nat) : ∃ p ps, pts l = p :: ps := by
  suffices h : ∀ (l acc : List Nat), ∃ p ps, TL.spl [47] 0 acc l = p :: ps from h l []
  intro l
  induction l with
  | nil => exact fun acc => ⟨acc, [], rfl⟩
  | cons c r ih =>
    intro acc
    by_cases h : TL.pre [47] (c :: r) = true
    · exact ⟨_, _, TL.spl_hit h⟩
    · rw [TL.spl_miss (Bool.eq_false_iff.mpr h)]
      exact ih _
theorem pts_cons {x : Nat} (hx : x ≠ 47) (l : List Nat) {p : List Nat} {ps : List (List Nat)} (h : pts l = p :: ps) : pts (x :: l) = (x :: p) :: ps := by
  unfold pts at h ⊢
  rw [TL.spl_miss (by rw [pre47]; exact decide_eq_false hx)]
  show TL.spl [47] 0 (x :: []) l = _
  rw [pts_acc, h]
theorem pts_hit (l : List Nat) : pts (47 :: l) = [] :: pts l := by
  unfold pts
  rw [TL.spl_hit (by rw [pre47]; rfl)]
  rfl
theorem dsB_cons (l : List Nat) : dsB (45 :: l) = true := by unfold dsB; exact decide_eq_true rfl
theorem dsB_true {l : List Nat} (h : dsB l = true) : ∃ r, l = 45 :: r := by
  unfold dsB at h
  have h := of_decide_eq_true h
  match l, h with
  | c :: r, h => exact ⟨r, by rw [show c = 45 from (List.cons.inj h).1]⟩
theorem dsB_head {l p : List Nat} {ps : List (List Nat)} (h : dsB l = false) (hp : pts l = p :: ps) : dsB p = false := by
  match l with
  | [] => cases hp; exact h
  | c :: r =>
    by_cases hc : c = 47
    · subst hc
      rw [pts_hit] at hp
      cases hp; rfl
    · obtain ⟨q, qs, hq⟩ := pts_ne r
      rw [pts_cons hc r hq] at hp
      cases hp
      exact h
theorem gcd_neg0 (t n : Nat) : Int.gcd (0 - (t : Int)) n = Int.gcd (t : Int) n := by rw [Int.zero_sub, Int.neg_gcd]
theorem rb_fr (l : List Nat) : rbR l = frR l := by
  unfold rbR frR
  cases hb : dsB l with
  | true =>
    obtain ⟨r, rfl⟩ := dsB_true hb
    have e : drM (45 :: r) = r := by unfold drM; rw [hb]; rfl
    rw [e]
    obtain ⟨p, ps, hp⟩ := pts_ne r
    rw [hp, pts_cons (by decide) r hp]
    have tp : tpR (45 :: p) = match whR p with | some n => if n = 0 then none else some (-(n : Int)) | none => none := by unfold tpR; rw [dsB_cons]; rfl
    have sg : ∀ t, sgT (45 :: r) t = -(t : Int) := fun t => by unfold sgT; rw [hb]; exact Int.zero_sub _
    match ps with
    | [] =>
      show _ = (match tpR (45 :: p) with | some t => some (t : Rat) | none => none)
      rw [tp]
      cases hw : whR p with
      | none => simp [hw]
      | some t =>
        simp only [hw, sg, Bool.true_and]
        by_cases h : t = 0
        · simp [h]
        · simp [h]
    | [c] =>
      simp only [tp]
      cases hw : whR p with
      | none => simp
      | some t =>
        simp only [sg, Bool.true_and]
        by_cases h : t = 0
        · subst h; cases whR c <;> rfl
        · cases hc : whR c with
          | none => simp [h]
          | some n => simp [h]
    | _ :: _ :: _ => rfl
  | false =>
    have e : drM l = l := by unfold drM; rw [hb]; rfl
    rw [e]
    obtain ⟨p, ps, hp⟩ := pts_ne l
    rw [hp]
    have tp : tpR p = match whR p with | some n => some (n : Int) | none => none := by unfold tpR; rw [dsB_head hb hp]; rfl
    have sg : ∀ t, sgT l t = (t : Int) := fun t => by unfold sgT; rw [hb]; rfl
    match ps with
    | [] =>
      simp only [tp]
      cases hw : whR p with
      | none => rfl
      | some t => simp [sg]
    | [c] =>
      simp only [tp]
      cases hw : whR p with
      | none => rfl
      | some t =>
        cases hc : whR c with
        | none => rfl
        | some n => simp [sg]
    | _ :: _ :: _ => rfl
def wrL (q : Rat) : List Nat := iL q.num ++ if q.den = 1 then [] else 47 :: TL.numL q.den
theorem num_head (n : Nat) (h : 10 ≤ n) : (TL.numL n).headD 0 ≠ 48 := by
  induction n using Nat.strongRecOn with
  | _ n ih =>
    rw [TL.numL_step h]
    by_cases h2 : n / 10 < 10
    · rw [TL.numL_lt h2]
      show 48 + n / 10 ≠ 48
      omega
    · have := ih (n / 10) (by omega) (by omega)
      cases e : TL.numL (n / 10) with
      | nil => exact absurd e (TL.numL_ne _)
      | cons c r => rw [e] at this; exact this
theorem all_num (n : Nat) : (TL.numL n).all isF = true := by
  rw [List.all_eq_true]
  exact fun c hc => by unfold isF; exact decide_eq_true (TL.numL_digits n c hc)
theorem wh_num {n : Nat} (h : n < 10 ^ 30) : whR (TL.numL n) = some n := by
  unfold whR
  have hl := TL.numL_len (k := 30) (by decide) h
  have hn : (TL.numL n).length ≥ 1 := by
    cases e : TL.numL n with
    | nil => exact absurd e (TL.numL_ne _)
    | cons c r => simp
  have h0 : wh0 (TL.numL n) = false := by
    unfold wh0
    rw [decide_eq_false (by omega), decide_eq_false (by omega)]
    by_cases h2 : n < 10
    · rw [TL.numL_lt h2]
      simp
    · rw [decide_eq_false (num_head n (by omega))]
      rfl
  rw [h0, if_neg (by decide), all_num, if_pos rfl, TL.numL_val]
theorem ds_num (n : Nat) : dsB (TL.numL n) = false := by
  unfold dsB
  refine decide_eq_false fun h => ?_
  have := TL.numL_free (n := n) (s := 45) (.inl (by decide))
  cases e : TL.numL n with
  | nil => exact absurd e (TL.numL_ne _)
  | cons c r =>
    rw [e] at h this
    have : c = 45 := (List.cons.inj h).1
    simp_all
theorem tp_iL {t : Int} (h : t.natAbs < 10 ^ 30) : tpR (iL t) = some t := by
  unfold iL
  by_cases h0 : t < 0
  · rw [if_pos h0]
    unfold tpR
    rw [dsB_cons, if_pos rfl]
    show (match whR (TL.numL t.natAbs) with | some n => if n = 0 then none else some (-(n : Int)) | none => none) = _
    rw [wh_num h]
    show (if t.natAbs = 0 then none else some (-((t.natAbs : Nat) : Int))) = _
    rw [if_neg (by omega)]
    congr 1
    omega
  · rw [if_neg h0]
    unfold tpR
    rw [ds_num, if_neg (by decide), wh_num h]
    show some ((t.natAbs : Nat) : Int) = _
    congr 1
    omega
theorem iL_free (t : Int) : 47 ∉ iL t := by
  unfold iL
  have := TL.numL_free (n := t.natAbs) (s := 47) (.inl (by decide))
  split
  · simp [this]
  · exact this
theorem fr_wr {q : Rat} (hn : q.num.natAbs < 10 ^ 30) (hd : q.den < 10 ^ 30) : frR (wrL q) = some q := by
  unfold frR wrL
  by_cases h : q.den = 1
  · rw [if_pos h, List.append_nil, show pts (iL q.num) = [iL q.num] from TL.spl_last1 (iL_free _)]
    show (match tpR (iL q.num) with | some t => some (t : Rat) | none => none) = _
    rw [tp_iL hn]
    show some ((q.num : Int) : Rat) = some q
    congr 1
    exact Rat.ext rfl (by rw [h]; rfl)
  · rw [if_neg h]
    have hf : 47 ∉ TL.numL q.den := TL.numL_free (.inl (by decide))
    rw [show pts (iL q.num ++ 47 :: TL.numL q.den) = [iL q.num, TL.numL q.den] from by
      have e := TL.spl_part1 (S := []) (rest := TL.numL q.den) (acc := []) (iL_free q.num)
      have e2 := TL.spl_last1 (S := []) (acc := []) hf
      rw [List.nil_append] at e e2
      rw [e2] at e
      exact e]
    simp only [tp_iL hn, wh_num hd]
    unfold frQ
    rw [dif_pos ⟨by have := q.den_pos; omega, gcd_fr q⟩]
theorem iL_len {t : Int} (h : t.natAbs < 10 ^ 30) : (iL t).length ≤ 31 := by
  have := TL.numL_len (k := 30) (by decide) h
  unfold iL
  split
  · simp; omega
  · omega
theorem wr_len {q : Rat} (hn : q.num.natAbs < 10 ^ 30) (hd : q.den < 10 ^ 30) : (wrL q).length ≤ 62 := by
  have h1 := iL_len hn
  have h2 := TL.numL_len (k := 30) (by decide) hd
  unfold wrL
  rw [List.length_append]
  split
  · simp; omega
  · simp; omega
theorem log_sz {n : Nat} (hn : n < 10 ^ 30) : n.log2 < 1920 := by
  by_cases h : n = 0
  · subst h; decide
  · exact (Nat.log2_lt h).mpr (Nat.lt_trans hn (Nat.lt_trans (show 10 ^ 30 < 2 ^ 100 by decide) (Nat.pow_lt_pow_right (by decide) (by decide))))
theorem wh0_eq (l : List Nat) : (decide ((l.length : Int) < 1) || (decide ((30 : Int) < (l.length : Int)) || (decide ((⟨#[l.headD 0]⟩ : Str) = tS [48]) && decide ((1 : Int) < (l.length : Int))))) = wh0 l := by
  unfold wh0
  congr 1
  · exact decide_eq_decide.mpr (by omega)
  · congr 1
    · exact decide_eq_decide.mpr (by omega)
    · congr 1
      · exact decide_eq_decide.mpr ⟨fun h => (List.cons.inj (tS_inj (a := [l.headD 0]) h)).1, fun h => by rw [h]⟩
      · exact decide_eq_decide.mpr (by omega)
theorem at_head {l : List Nat} (h : ¬ ((l.length : Int) < 1)) : atI l 0 = some (l.headD 0) := by
  match l, h with
  | c :: r, _ => exact L2.atI_nat (j := 0) rfl
  | [], h => exact absurd (by simp) h
theorem in_fig (c : Nat) : decide (c ∈ [48, 49, 50, 51, 52, 53, 54, 55, 56, 57]) = isF c := by
  unfold isF
  refine decide_eq_decide.mpr ?_
  simp only [List.mem_cons, List.not_mem_nil, or_false]
  omega
theorem whN {l : List Nat} {n : Nat} (h : whR l = some n) : wh0 l = false ∧ l.all isF = true ∧ n = NumText.digitsVal l ∧ 1 ≤ l.length ∧ l.length ≤ 30 := by
  unfold whR at h
  by_cases h0 : wh0 l = true
  · rw [if_pos h0] at h; cases h
  · rw [if_neg h0] at h
    have h0 := Bool.eq_false_iff.mpr h0
    by_cases h1 : l.all isF = true
    · rw [if_pos h1] at h
      refine ⟨h0, h1, (Option.some.inj h).symm, ?_⟩
      unfold wh0 at h0
      simp only [Bool.or_eq_false_iff, decide_eq_false_iff_not] at h0
      omega
    · rw [if_neg h1] at h; cases h
theorem wh_int {l : List Nat} {n : Nat} (h : whR l = some n) : PySem.intText? (tS l) = some (n : Int) := by
  obtain ⟨_, h1, rfl, h2, h3⟩ := whN h
  refine PySem.intText_digits (x := tS l) (fun c hc => ?_) (fun e => ?_) ?_
  · have := List.all_eq_true.mp h1 c hc
    unfold isF at this
    exact of_decide_eq_true this
  · rw [show l = [] from e] at h2
    exact absurd h2 (by decide)
  · show (l.toArray).size ≤ 4300
    simp; omega
theorem wh_bad {l : List Nat} (h : whR l = none) (h0 : wh0 l = false) (ha : ∀ m, m < l.length → isF (l.getD m 0) = true) : False := by
  unfold whR at h
  rw [h0, if_neg (by decide), if_pos ?_] at h
  · cases h
  · rw [List.all_eq_true]
    intro c hc
    obtain ⟨m, hm, rfl⟩ := List.mem_iff_getElem.mp hc
    have := ha m hm
    rwa [List.getD_eq_getElem?_getD, List.getElem?_eq_getElem hm] at this
theorem tp_cases {l : List Nat} {t : Int} (h : tpR l = some t) : (dsB l = false ∧ ∃ n : Nat, whR l = some n ∧ t = (n : Int)) ∨ (dsB l = true ∧ ∃ n : Nat, whR (l.drop 1) = some n ∧ n ≠ 0 ∧ t = -(n : Int)) := by
  unfold tpR at h
  cases hb : dsB l with
  | true =>
    rw [hb, if_pos rfl] at h
    cases hw : whR (l.drop 1) with
    | none => rw [hw] at h; cases h
    | some n =>
      rw [hw] at h
      by_cases h0 : n = 0
      · simp [h0] at h
      · simp [h0] at h
        exact .inr ⟨rfl, n, rfl, h0, h.symm⟩
  | false =>
    rw [hb, if_neg (by decide)] at h
    cases hw : whR l with
    | none => rw [hw] at h; cases h
    | some n => rw [hw] at h; cases h; exact .inl ⟨rfl, n, rfl, rfl⟩
theorem tp_none {l : List Nat} (h : tpR l = none) : (dsB l = false ∧ whR l = none) ∨ (dsB l = true ∧ whR (l.drop 1) = none) ∨ (dsB l = true ∧ whR (l.drop 1) = some 0) := by
  unfold tpR at h
  cases hb : dsB l with
  | true =>
    rw [hb, if_pos rfl] at h
    cases hw : whR (l.drop 1) with
    | none => exact .inr (.inl ⟨rfl, rfl⟩)
    | some n =>
      rw [hw] at h
      by_cases h0 : n = 0
      · exact .inr (.inr ⟨rfl, by rw [h0]⟩)
      · simp [h0] at h
  | false =>
    rw [hb, if_neg (by decide)] at h
    cases hw : whR l with
    | none => exact .inl ⟨rfl, rfl⟩
    | some n => rw [hw] at h; cases h
theorem frQ_some {t : Int} {n : Nat} {q : Rat} (h : frQ t n = some q) : 2 ≤ n ∧ Int.gcd t n = 1 ∧ q.num = t ∧ q.den = n := by
  unfold frQ at h
  by_cases h0 : 2 ≤ n ∧ Int.gcd t n = 1
  · rw [dif_pos h0] at h
    cases h
    exact ⟨h0.1, h0.2, rfl, rfl⟩
  · rw [dif_neg h0] at h; cases h
theorem frQ_none {t : Int} {n : Nat} (h : frQ t n = none) : ¬ (2 ≤ n ∧ Int.gcd t n = 1) := fun h0 => by
  unfold frQ at h
  rw [dif_pos h0] at h; cases h
theorem fr_cases {l : List Nat} {q : Rat} (h : frR l = some q) : (∃ a t, pts l = [a] ∧ tpR a = some t ∧ q = (t : Rat)) ∨ (∃ a c t n, pts l = [a, c] ∧ tpR a = some t ∧ whR c = some n ∧ 2 ≤ n ∧ Int.gcd t n = 1 ∧ q.num = t ∧ q.den = n) := by
  unfold frR at h
  obtain ⟨p, ps, hp⟩ := pts_ne l
  rw [hp] at h
  match ps with
  | [] =>
    cases ht : tpR p with
    | none => simp [ht] at h
    | some t => simp [ht] at h; exact .inl ⟨p, t, hp, ht, h.symm⟩
  | [c] =>
    cases ht : tpR p with
    | none => simp [ht] at h
    | some t =>
      cases hc : whR c with
      | none => simp [ht, hc] at h
      | some n =>
        simp only [ht, hc] at h
        obtain ⟨h1, h2, h3, h4⟩ := frQ_some h
        exact .inr ⟨p, c, t, n, hp, ht, hc, h1, h2, h3, h4⟩
  | _ :: _ :: _ => cases h
theorem fr_none {l : List Nat} (h : frR l = none) : (∃ a b c r, pts l = a :: b :: c :: r) ∨ (∃ a, pts l = [a] ∧ tpR a = none) ∨ (∃ a c, pts l = [a, c] ∧ tpR a = none) ∨ (∃ a c t, pts l = [a, c] ∧ tpR a = some t ∧ whR c = none) ∨ (∃ a c t n, pts l = [a, c] ∧ tpR a = some t ∧ whR c = some n ∧ ¬ (2 ≤ n ∧ Int.gcd t n = 1)) := by
  unfold frR at h
  obtain ⟨p, ps, hp⟩ := pts_ne l
  rw [hp] at h
  match ps with
  | [] =>
    cases ht : tpR p with
    | none => exact .inr (.inl ⟨p, hp, ht⟩)
    | some t => simp [ht] at h
  | [c] =>
    cases ht : tpR p with
    | none => exact .inr (.inr (.inl ⟨p, c, hp, ht⟩))
    | some t =>
      cases hc : whR c with
      | none => exact .inr (.inr (.inr (.inl ⟨p, c, t, hp, ht, hc⟩)))
      | some n =>
        simp only [ht, hc] at h
        exact .inr (.inr (.inr (.inr ⟨p, c, t, n, hp, ht, hc, frQ_none h⟩)))
  | a :: b :: r => exact .inl ⟨p, a, b, r, hp⟩
theorem pts_len (l : List Nat) : ∀ p ∈ pts l, p.length ≤ l.length := by
  suffices h : ∀ (l acc : List Nat), ∀ p ∈ TL.spl [47] 0 acc l, p.length ≤ acc.length + l.length from fun p hp => by simpa using h l [] p hp
  intro l
  induction l with
  | nil => intro acc p hp; rw [TL.spl_nil] at hp; simp at hp; subst hp; simp
  | cons c r ih =>
    intro acc p hp
    by_cases h : TL.pre [47] (c :: r) = true
    · rw [TL.spl_hit h] at hp
      rcases List.mem_cons.mp hp with rfl | hp
      · omega
      · have := ih [] p hp
        simp at this ⊢; omega
    · rw [TL.spl_miss (Bool.eq_false_iff.mpr h)] at hp
      have := ih _ p hp
      simp at this ⊢; omega
@[simp] def oN : Option Nat → D | some n => .int (n : Int) | none => .none
@[simp] def oFr : Option Rat → D | some q => dFr q | none => .none
theorem rb_long {l : List Nat} {a b c : List Nat} {r : List (List Nat)} (h : pts (drM l) = a :: b :: c :: r) : frR l = none := by
  rw [← rb_fr]; unfold rbR; rw [h]
theorem rb_a0 {l a : List Nat} (h : pts (drM l) = [a]) (ha : whR a = none) : frR l = none := by
  rw [← rb_fr]; unfold rbR; simp only [h, ha]
theorem rb_an {l a : List Nat} {t : Nat} (h : pts (drM l) = [a]) (ha : whR a = some t) (h0 : (dsB l && decide ((t : Int) = 0)) = true) : frR l = none := by
  rw [← rb_fr]; unfold rbR; simp only [h, ha]; rw [if_pos h0]
theorem rb_ap {l a : List Nat} {t : Nat} (h : pts (drM l) = [a]) (ha : whR a = some t) (h0 : (dsB l && decide ((t : Int) = 0)) = false) : frR l = some ((sgT l t : Int) : Rat) := by
  rw [← rb_fr]; unfold rbR; simp only [h, ha]; rw [if_neg (by rw [h0]; decide)]
theorem rb_c0 {l a c : List Nat} (h : pts (drM l) = [a, c]) (ha : whR a = none ∨ whR c = none) : frR l = none := by
  rw [← rb_fr]; unfold rbR; simp only [h]
  rcases ha with ha | ha
  · rw [ha]
  · rw [ha]; cases whR a <;> rfl
theorem rb_cn {l a c : List Nat} {t n : Nat} (h : pts (drM l) = [a, c]) (ha : whR a = some t) (hc : whR c = some n) (h0 : (dsB l && decide ((t : Int) = 0)) = true) : frR l = none := by
  rw [← rb_fr]; unfold rbR; simp only [h, ha, hc]; rw [if_pos h0]
theorem gcd_sgT (l : List Nat) (t n : Nat) : Int.gcd (sgT l t) n = Int.gcd (t : Int) n := by
  unfold sgT
  split
  · exact gcd_neg0 t n
  · rfl
theorem rb_cb {l a c : List Nat} {t n : Nat} (h : pts (drM l) = [a, c]) (ha : whR a = some t) (hc : whR c = some n) (h0 : (dsB l && decide ((t : Int) = 0)) = false) (h1 : ¬ (2 ≤ n ∧ Int.gcd (t : Int) n = 1)) : frR l = none := by
  rw [← rb_fr]; unfold rbR; simp only [h, ha, hc]; rw [if_neg (by rw [h0]; decide)]
  unfold frQ
  rw [dif_neg (by rw [gcd_sgT]; exact h1)]
theorem rb_cp {l a c : List Nat} {t n : Nat} (h : pts (drM l) = [a, c]) (ha : whR a = some t) (hc : whR c = some n) (h0 : (dsB l && decide ((t : Int) = 0)) = false) (h1 : 2 ≤ n ∧ Int.gcd (t : Int) n = 1) : oFr (frR l) = .tuple [.int (sgT l t), .int (n : Int)] := by
  rw [← rb_fr]; unfold rbR; simp only [h, ha, hc]; rw [if_neg (by rw [h0]; decide)]
  unfold frQ
  rw [dif_pos (by rw [gcd_sgT]; exact h1)]
  rfl
theorem drM_cut (l : List Nat) : cutD l (some (if decide (tS (cutD l none (some 1)) = tS [45]) then 1 else 0)) none = drM l := by
  have e1 : cutD l none (some 1) = l.take 1 := by
    match l with
    | [] => rfl
    | c :: r => exact cut_take (c :: r) 1 (by simp)
  have e : decide (tS (cutD l none (some 1)) = tS [45]) = dsB l := by
    rw [e1]
    exact decide_eq_decide.mpr ⟨fun h => tS_inj h, fun h => by rw [h]⟩
  rw [e]
  unfold drM
  cases hb : dsB l with
  | true =>
    obtain ⟨r, rfl⟩ := dsB_true hb
    exact cut_drop (45 :: r) 1 (by simp)
  | false => exact cut_drop l 0 (by omega)
theorem dsB_cut (l : List Nat) : decide (tS (cutD l none (some 1)) = tS [45]) = dsB l := by
  have e1 : cutD l none (some 1) = l.take 1 := by
    match l with
    | [] => rfl
    | c :: r => exact cut_take (c :: r) 1 (by simp)
  rw [e1]
  exact decide_eq_decide.mpr ⟨fun h => tS_inj h, fun h => by rw [h]⟩
theorem cut_one45 {l : List Nat} (h : dsB l = true) : cutD l (some 1) none = l.drop 1 := by
  obtain ⟨r, rfl⟩ := dsB_true h
  exact cut_drop (45 :: r) 1 (by simp)
end Mf

namespace Mf
open PySem PySem.Spec PyProof.Rows L2 RT PySem.W HsX Hf
theorem iL_nat (n : Nat) : iL (n : Int) = TL.numL n := by
  unfold iL
  rw [if_neg (by omega)]
  rfl
theorem log_big {n : Nat} (hn : n < 2 ^ 1900) : n.log2 < 1920 := by
  by_cases h : n = 0
  · subst h; decide
  · exact (Nat.log2_lt h).mpr (Nat.lt_trans hn (Nat.pow_lt_pow_right (by decide) (by decide)))
theorem len_big {t : Int} (h : t.natAbs < 2 ^ 1900) : (iL t).length ≤ 601 := by
  have := TL.numL_len (n := t.natAbs) (k := 600) (by decide) (Nat.lt_trans h (by decide +kernel))
  unfold iL
  split
  · simp; omega
  · omega
theorem wr_len2 {q : Rat} (h : Sz 1900 q) : (iL q.num ++ [47]).length + (iL (q.den : Int)).length ≤ 100000 := by
  have h1 := len_big h.nu
  have h2 := len_big (t := (q.den : Int)) h.de
  simp; omega
theorem wr_len1 {q : Rat} (h : Sz 1900 q) : (iL q.num).length + ([47] : List Nat).length ≤ 100000 := by
  have h1 := len_big h.nu
  simp; omega
theorem wr_one {q : Rat} (h : (q.den : Int) = 1) : wrL q = iL q.num := by
  unfold wrL
  rw [if_pos (by omega), List.append_nil]
theorem wr_two {q : Rat} (h : ¬ (q.den : Int) = 1) : wrL q = iL q.num ++ [47] ++ iL (q.den : Int) := by
  unfold wrL
  rw [if_neg (by omega), iL_nat]
  simp
theorem wr_eq {q : Rat} (h : Sz 1900 q) : (wrL q).length ≤ 1300 := by
  have h1 := len_big h.nu
  have h2 := len_big (t := (q.den : Int)) h.de
  by_cases e : (q.den : Int) = 1
  · rw [wr_one e]; omega
  · rw [wr_two e]; simp; omega
theorem sz_fr {q : Rat} (h : Sz 97 q) : frR (wrL q) = some q := fr_wr (Nat.lt_trans h.nu (by decide +kernel)) (Nat.lt_trans h.de (by decide +kernel))
theorem cut_le {l : List Nat} {n : Nat} (h : l.length ≤ n) (o u : Option Int) : (cutD l o u).length ≤ n := by
  unfold Hf.cutD
  simp only [List.length_take, List.length_drop]
  omega
/-- the law's reading, its tests -/
theorem wh0_eqL (l : List Nat) : (decide ((l.length : Int) = 0) || (decide ((30 : Int) < (l.length : Int)) || (decide ((⟨#[l.headD 0]⟩ : Str) = tS [48]) && decide ((1 : Int) < (l.length : Int))))) = wh0 l := by
  rw [← wh0_eq]
  congr 1
  exact decide_eq_decide.mpr (by omega)
theorem wh_n0 {l : List Nat} (h : wh0 l = true) : whR l = none := by unfold whR; rw [if_pos h]
theorem wh_n1 {l : List Nat} {c i : Nat} (hc : l[i]? = some c) (h : isF c = false) : whR l = none := by
  unfold whR
  by_cases h0 : wh0 l = true
  · rw [if_pos h0]
  · rw [if_neg h0, if_neg]
    intro ha
    have := List.all_eq_true.mp ha c (List.mem_of_getElem? hc)
    rw [h] at this; cases this
theorem wh_s {l : List Nat} (h0 : wh0 l = false) (ha : ∀ m, m < l.length → isF (l.getD m 0) = true) : whR l = some (NumText.digitsVal l) := by
  cases h : whR l with
  | none => exact (wh_bad h h0 ha).elim
  | some n => rw [(whN h).2.2.1]
theorem dv_snoc {l : List Nat} {i c : Nat} (hc : l[i]? = some c) : NumText.digitsVal (l.take (i + 1)) = NumText.digitsVal (l.take i) * 10 + (c - 48) := by
  rw [List.take_add_one, hc]
  unfold NumText.digitsVal
  rw [Option.toList_some, List.foldl_append]
  rfl
theorem sidx10 {c : Nat} (h : isF c = true) : Builtin.Str.occurrences (tS [48, 49, 50, 51, 52, 53, 54, 55, 56, 57]) ⟨#[c]⟩ 0 (Str.length (tS [48, 49, 50, 51, 52, 53, 54, 55, 56, 57])) 1 = (c - 48) :: [] := by
  rw [← in_fig, decide_eq_true_eq] at h
  simp only [List.mem_cons, List.not_mem_nil, or_false] at h
  rcases h with rfl | rfl | rfl | rfl | rfl | rfl | rfl | rfl | rfl | rfl <;> decide +kernel
/-- any place of a list by a number modulo its length -/
theorem at_mod {α : Type} {l : List α} (h : l ≠ []) (x : Int) (z : α) : L2.atI l (x % (l.length : Int)) = some (l.getD (x % (l.length : Int)).toNat z) := by
  have hl : 0 < l.length := List.length_pos_iff.mpr h
  have h0 := Int.emod_nonneg x (show (l.length : Int) ≠ 0 by omega)
  have h1 := Int.emod_lt_of_pos x (show (0 : Int) < (l.length : Int) by omega)
  have e : x % (l.length : Int) = ((x % (l.length : Int)).toNat : Int) := by omega
  rw [e, Int.toNat_natCast]
  refine L2.atI_nat ?_
  rw [List.getD_eq_getElem?_getD, List.getElem?_eq_getElem (by omega)]
  rfl
/-- what the law hands over: a text, or what is none -/
def ThOk (d : D) : Prop := (∃ l : List Nat, d = .str (tS l) ∧ l.length ≤ 200) ∨ OddT d
def thB : D → Bool
  | .str z => decide (z.cps.size ≤ 200)
  | d => oddB d
theorem thB_ok {d : D} (h : thB d = true) : ThOk d := by
  match d, h with
  | .str z, h => exact .inl ⟨z.cps.toList, congrArg PyData.str (tS_eta z), by simpa [thB] using h⟩
  | .none, h => exact .inr (oddB_ok rfl)
  | .int _, h => exact .inr (oddB_ok rfl)
  | .tuple _, h => exact .inr (oddB_ok rfl)
  | .list _, h => exact .inr (oddB_ok rfl)
  | .dict [], h => exact .inr (oddB_ok rfl)
theorem th_all {ds : List D} (h : ds.all thB = true) (i : Nat) : ThOk (ds.getD i .none) := by
  rw [List.getD_eq_getElem?_getD]
  cases e : ds[i]? with
  | none => exact .inr (oddB_ok rfl)
  | some d => exact thB_ok (List.all_eq_true.mp h d (List.mem_of_getElem? e))
def chA : List Nat := [32, 33, 34, 35, 36, 38, 39, 40, 41, 42, 43, 44, 45, 46, 47, 48, 49, 50, 51, 52, 53, 54, 55, 56, 57, 58, 59, 60, 61, 62, 63, 64, 65, 66, 67, 68, 69, 70, 71, 72, 73, 74, 75, 76, 77, 78, 79, 80, 81, 82, 83, 84, 85, 86, 87, 88, 89, 90, 91, 92, 93, 94, 95, 96]
def chB : List Nat := [97, 98, 99, 100, 101, 102, 103, 104, 105, 106, 107, 108, 109, 110, 111, 112, 113, 114, 115, 116, 117, 118, 119, 120, 121, 122, 123, 124, 125, 126]
theorem ch_len {l : List Nat} (h : l.length ≤ 62) {o u o2 u2 : Option Int} {n : Nat} : (cutD l o u ++ [n] ++ cutD l o2 u2).length ≤ 200 ∧ (cutD l o u ++ cutD l o2 u2).length ≤ 200 := by
  have h1 := cut_le h o u
  have h2 := cut_le h o2 u2
  simp only [List.length_append, List.length_cons, List.length_nil]
  omega
theorem wr_62 {q : Rat} (h : Sz 97 q) : (wrL q).length ≤ 62 := wr_len (Nat.lt_trans h.nu (by decide +kernel)) (Nat.lt_trans h.de (by decide +kernel))
end Mf
namespace Mf
open PySem PySem.Spec PyProof.Rows L2 RT PySem.W HsX Hf
theorem signs_len (l : List Nat) : (Hf.signs (tS l)).length = l.length := by
  unfold Hf.signs
  rw [List.length_map]
theorem al_step {l : List Nat} {i c : Nat} (hm : ∀ m, m < i → isF (l.getD m 0) = true) (hc : l[i]? = some c) (h : isF c = true) : ∀ m, m < i + 1 → isF (l.getD m 0) = true := fun m h1 => by
  by_cases e : m = i
  · subst e
    rw [List.getD_eq_getElem?_getD, hc]; exact h
  · exact hm m (by omega)
theorem tp_no {l : List Nat} {t : Int} (hb : dsB l = false) (h : tpR l = some t) : ∃ n : Nat, whR l = some n ∧ t = (n : Int) := by
  rcases tp_cases h with ⟨_, h⟩ | ⟨h, _⟩
  · exact h
  · rw [hb] at h; cases h
theorem tp_yes {l : List Nat} {t : Int} (hb : dsB l = true) (h : tpR l = some t) : ∃ n : Nat, whR (l.drop 1) = some n ∧ n ≠ 0 ∧ t = -(n : Int) := by
  rcases tp_cases h with ⟨h, _⟩ | ⟨_, h⟩
  · rw [hb] at h; cases h
  · exact h
/-- what fraction_read refuses -/
def BadT (d : D) : Prop := (∃ l : List Nat, d = .str (tS l) ∧ l.length ≤ 90000 ∧ frR l = none) ∨ OddT d
theorem fr_t {t : Int} {n : Nat} (h : (decide ((n : Int) < 2) || !decide (((Int.gcd t n : Nat) : Int) = 1)) = true) (h2 : 2 ≤ n) (hg : Int.gcd t n = 1) : False := by
  rw [hg, decide_eq_false (by omega)] at h
  exact absurd h (by decide)
theorem fr_f {t : Int} {n : Nat} (h : (decide ((n : Int) < 2) || !decide (((Int.gcd t n : Nat) : Int) = 1)) = false) : 2 ≤ n ∧ Int.gcd t n = 1 := by
  simp only [Bool.or_eq_false_iff, decide_eq_false_iff_not, Bool.not_eq_false', decide_eq_true_eq] at h
  omega
end Mf
namespace Mf
open PySem PySem.Spec PyProof.Rows L2 RT PySem.W HsX Hf
theorem drM_len (l : List Nat) : (drM l).length ≤ l.length := by
  unfold drM
  split
  · simp
  · exact Nat.le_refl _
end Mf
namespace Mf
open PySem PySem.Spec PyProof.Rows L2 RT PySem.W HsX Hf
theorem gd_y {b : Bool} {t n : Nat} (h : (b && (decide ((n : Int) < 2) || !decide (((Int.gcd (t : Int) n : Nat) : Int) = 1))) = true) : ¬ (2 ≤ n ∧ Int.gcd (t : Int) n = 1) := fun ⟨h2, hg⟩ => by
  rw [hg, decide_eq_false (show ¬ (n : Int) < 2 by omega)] at h
  cases b <;> exact absurd h (by decide)
theorem gd_n {t n : Nat} (h : (true && (decide ((n : Int) < 2) || !decide (((Int.gcd (t : Int) n : Nat) : Int) = 1))) = false) : 2 ≤ n ∧ Int.gcd (t : Int) n = 1 := fr_f h
end Mf
namespace Mf
open PySem PySem.Spec PyProof.Rows L2 RT PySem.W HsX Hf
theorem at_head0 {l : List Nat} (h : ¬ ((l.length : Int) = 0)) : atI l 0 = some (l.headD 0) := at_head (by omega)
section
variable {l : List Nat} {n : Nat} {o u o2 u2 : Option Int} (h : l.length ≤ 62)
include h
theorem sl0 : l.length ≤ 100000 := by omega
theorem sl1 : (Hf.cutD l o u).length + ([n] : List Nat).length ≤ 100000 := by have := cut_le h o u; simp; omega
theorem sl2 : (Hf.cutD l o u ++ [n]).length + (Hf.cutD l o2 u2).length ≤ 100000 := by have := cut_le h o u; have := cut_le h o2 u2; simp; omega
theorem sl3 : (Hf.cutD l o u).length + (Hf.cutD l o2 u2).length ≤ 100000 := by have := cut_le h o u; have := cut_le h o2 u2; omega
end
end Mf

namespace Mf
open PySem PySem.Spec PyProof.Rows L2 RT PySem.W HsX Hf
/-- small_read -/
def smR (l : List Nat) : Option Rat := match frR l with | some q => if 1000000 ≤ q.num.natAbs ∨ 12 < q.den then none else some q | none => none
def whM0 (m : Nat) (l : List Nat) : Bool := decide (l.length < 1) || (decide (m < l.length) || (decide (l.headD 0 = 48) && decide (1 < l.length)))
/-- the law's figures, at most m -/
def whM (m : Nat) (l : List Nat) : Option Nat := if whM0 m l = true then none else if l.all isF = true then some (NumText.digitsVal l) else none
def fd (a : Nat) (l : List Nat) : Nat := l.foldl (fun acc c => acc * 10 + (c - 48)) a
theorem fd_ge : ∀ (l : List Nat) (a : Nat), a * 10 ^ l.length ≤ fd a l
  | [], a => by simp [fd]
  | c :: r, a => by
    have := fd_ge r (a * 10 + (c - 48))
    show _ ≤ fd (a * 10 + (c - 48)) r
    refine Nat.le_trans ?_ this
    rw [List.length_cons, Nat.pow_succ]
    calc a * (10 ^ r.length * 10) = a * 10 * 10 ^ r.length := by rw [Nat.mul_comm (10 ^ r.length), Nat.mul_assoc]
      _ ≤ (a * 10 + (c - 48)) * 10 ^ r.length := Nat.mul_le_mul_right _ (by omega)
theorem fd_lt : ∀ (l : List Nat) (a : Nat), l.all isF = true → fd a l < (a + 1) * 10 ^ l.length
  | [], a, _ => by simp [fd]
  | c :: r, a, h => by
    rw [List.all_cons, Bool.and_eq_true] at h
    have hc : 48 ≤ c ∧ c ≤ 57 := by have := h.1; unfold isF at this; exact of_decide_eq_true this
    have := fd_lt r (a * 10 + (c - 48)) h.2
    show fd (a * 10 + (c - 48)) r < _
    refine Nat.lt_of_lt_of_le this ?_
    rw [List.length_cons, Nat.pow_succ]
    calc (a * 10 + (c - 48) + 1) * 10 ^ r.length ≤ ((a + 1) * 10) * 10 ^ r.length := Nat.mul_le_mul_right _ (by omega)
      _ = (a + 1) * (10 ^ r.length * 10) := by rw [Nat.mul_comm (10 ^ r.length), Nat.mul_assoc]
theorem whM30 (l : List Nat) : whM 30 l = whR l := rfl
theorem whM_le {m : Nat} (h0 : 1 ≤ m) (hm : m ≤ 30) (l : List Nat) : whM m l = match whR l with | some n => if 10 ^ m ≤ n then none else some n | none => none := by
  unfold whM whR whM0 wh0
  by_cases ha : l.all isF = true
  · simp only [ha, if_true]
    by_cases h1 : l.length < 1
    · simp [h1]
    · by_cases h2 : (decide (l.headD 0 = 48) && decide (1 < l.length)) = true
      · rw [h2]; simp
      · have h2 := Bool.eq_false_iff.mpr h2
        rw [h2]
        by_cases h3 : 30 < l.length
        · rw [decide_eq_true h3, decide_eq_true (show m < l.length by omega)]
          simp
        · rw [decide_eq_false h3, decide_eq_false h1]
          by_cases h4 : m < l.length
          · rw [decide_eq_true h4]
            show none = if 10 ^ m ≤ NumText.digitsVal l then none else some _
            rw [if_pos]
            match l with
            | [] => exact absurd h4 (by simp)
            | c :: r =>
              have hc : 48 ≤ c ∧ c ≤ 57 := by have := (Bool.and_eq_true _ _ ▸ (List.all_cons .. ▸ ha : (isF c && r.all isF) = true)).1; unfold isF at this; exact of_decide_eq_true this
              by_cases h5 : r = []
              · subst h5
                simp at h4; omega
              · have hr : 1 ≤ r.length := List.length_pos_iff.mpr h5
                have h6 : c ≠ 48 := by
                  intro h7
                  rw [Bool.and_eq_false_iff] at h2
                  rcases h2 with h2 | h2
                  · exact (of_decide_eq_false h2) h7
                  · exact (of_decide_eq_false h2) (by simp; omega)
                have := fd_ge r (0 * 10 + (c - 48))
                show _ ≤ fd (0 * 10 + (c - 48)) r
                refine Nat.le_trans ?_ this
                calc 10 ^ m ≤ 10 ^ r.length := Nat.pow_le_pow_right (by decide) (by simp at h4; omega)
                  _ = 1 * 10 ^ r.length := (Nat.one_mul _).symm
                  _ ≤ _ := Nat.mul_le_mul_right _ (by omega)
          · rw [decide_eq_false h4]
            show some _ = if 10 ^ m ≤ NumText.digitsVal l then none else some _
            rw [if_neg]
            have := fd_lt l 0 ha
            have h5 : 10 ^ l.length ≤ 10 ^ m := Nat.pow_le_pow_right (by decide) (by omega)
            show ¬ 10 ^ m ≤ fd 0 l
            omega
  · simp only [ha]
    split <;> split <;> simp_all
end Mf
namespace Mf
open PySem PySem.Spec PyProof.Rows L2 RT PySem.W HsX Hf
/-- the law's own reading of a small fraction -/
def rbS (l : List Nat) : Option Rat :=
  match pts (drM l) with
  | [a] => match whM 6 a with | some t => if (dsB l && decide ((t : Int) = 0)) = true then none else some ((sgT l t : Int) : Rat) | none => none
  | [a, c] => match whM 6 a, whM 30 c with | some t, some n => if (dsB l && decide ((t : Int) = 0)) = true then none else if 12 < n then none else frQ (sgT l t) n | _, _ => none
  | _ => none
theorem sg_abs (l : List Nat) (t : Nat) : (sgT l t).natAbs = t := by unfold sgT; split <;> omega
theorem rbS_eq (l : List Nat) : rbS l = smR l := by
  unfold smR
  rw [← rb_fr]
  unfold rbS rbR
  obtain ⟨p, ps, hp⟩ := pts_ne (drM l)
  rw [hp]
  match ps with
  | [] =>
    simp only [whM_le (m := 6) (by decide) (by decide)]
    cases hw : whR p with
    | none => rfl
    | some t =>
      by_cases h6 : 10 ^ 6 ≤ t
      · simp only [h6, if_true]
        by_cases h0 : (dsB l && decide ((t : Int) = 0)) = true
        · rw [if_pos h0]
        · rw [if_neg h0]
          exact (if_pos (.inl (by show 1000000 ≤ (sgT l t).natAbs; rw [sg_abs]; exact h6))).symm
      · simp only [h6, if_false]
        by_cases h0 : (dsB l && decide ((t : Int) = 0)) = true
        · rw [if_pos h0]
        · rw [if_neg h0]
          exact (if_neg (by show ¬ (1000000 ≤ (sgT l t).natAbs ∨ 12 < 1); rw [sg_abs]; omega)).symm
  | [c] =>
    simp only [whM_le (m := 6) (by decide) (by decide), whM30]
    cases hw : whR p with
    | none => rfl
    | some t =>
      cases hc : whR c with
      | none => by_cases h6 : 10 ^ 6 ≤ t <;> simp [h6]
      | some n =>
        by_cases h0 : (dsB l && decide ((t : Int) = 0)) = true
        · by_cases h6 : 10 ^ 6 ≤ t <;> simp only [h6, h0, if_true, if_false]
        · simp only [h0]
          by_cases h6 : 10 ^ 6 ≤ t
          · simp only [h6, if_true]
            cases hq : frQ (sgT l t) n with
            | none => simp
            | some q =>
              obtain ⟨_, _, h3, h4⟩ := frQ_some hq
              show none = if 1000000 ≤ q.num.natAbs ∨ 12 < q.den then none else some q
              rw [if_pos (.inl (by rw [h3, sg_abs]; exact h6))]
          · simp only [h6, if_false]
            cases hq : frQ (sgT l t) n with
            | none => simp
            | some q =>
              obtain ⟨_, _, h3, h4⟩ := frQ_some hq
              rw [if_neg h0]
              show (if 12 < n then none else some q) = if 1000000 ≤ q.num.natAbs ∨ 12 < q.den then none else some q
              have h5 : q.num.natAbs = t := by rw [h3, sg_abs]
              by_cases h12 : 12 < n
              · rw [if_pos h12, if_pos (.inr (by omega))]
              · rw [if_neg h12, if_neg (by omega)]
  | _ :: _ :: _ => rfl
/-- the words of a row -/
def wds (l : List Nat) : List (List Nat) := TL.spl [32] 0 [] l
def rowO (l : List Nat) : List (Option Rat) := (wds l).map smR
def rowD (l : List Nat) : D := .list ((rowO l).map oFr)
/-- the parts of weights -/
def wpt (l : List Nat) : List (List Nat) := TL.spl [59, 32] 0 [] l
def rowsOk (l : List Nat) (lv dn : List Rat) : Prop := ∃ ps, wpt l = ps ∧ ((∃ a, ps = [a] ∧ rowO a = lv.map some ∧ dn = []) ∨ (∃ a b, ps = [a, b] ∧ rowO a = lv.map some ∧ rowO b = dn.map some))
def WtOk (l : List Nat) (lv dn : List Rat) : Prop := rowsOk l lv dn ∧ lv.length = dn.length + 1 ∧ dn.length ≤ 7
def WtNw (l : List Nat) (lv dn : List Rat) : Prop := rowsOk l lv dn ∧ ¬ (lv.length = dn.length + 1 ∧ dn.length ≤ 7)
def WtNo (l : List Nat) (p : Nat) : Prop := (2 < (wpt l).length ∧ p = 2) ∨ ((wpt l).length ≤ 2 ∧ p < (wpt l).length ∧ none ∈ rowO ((wpt l).getD p []) ∧ ∀ m, m < p → none ∉ rowO ((wpt l).getD m []))
theorem spl_ne (S l : List Nat) : ∃ p ps, TL.spl S 0 [] l = p :: ps := by
  suffices h : ∀ (l : List Nat) (k : Nat) (acc : List Nat), ∃ p ps, TL.spl S k acc l = p :: ps from h l 0 []
  intro l
  induction l with
  | nil => exact fun k acc => ⟨acc, [], TL.spl_nil S k acc⟩
  | cons c r ih =>
    intro k acc
    cases k with
    | zero =>
      by_cases h : TL.pre S (c :: r) = true
      · exact ⟨_, _, TL.spl_hit h⟩
      · rw [TL.spl_miss (Bool.eq_false_iff.mpr h)]
        exact ih _ _
    | succ k => exact ih k acc
theorem spl_len (S l : List Nat) : ∀ p ∈ TL.spl S 0 [] l, p.length ≤ l.length := by
  suffices h : ∀ (l : List Nat) (k : Nat) (acc : List Nat), ∀ p ∈ TL.spl S k acc l, p.length ≤ acc.length + l.length from fun p hp => by simpa using h l 0 [] p hp
  intro l
  induction l with
  | nil => intro k acc p hp; rw [TL.spl_nil] at hp; simp at hp; subst hp; simp
  | cons c r ih =>
    intro k acc p hp
    cases k with
    | zero =>
      by_cases h : TL.pre S (c :: r) = true
      · rw [TL.spl_hit h] at hp
        rcases List.mem_cons.mp hp with rfl | hp
        · omega
        · have := ih _ [] p hp
          simp at this ⊢; omega
      · rw [TL.spl_miss (Bool.eq_false_iff.mpr h)] at hp
        have := ih _ _ p hp
        simp at this ⊢; omega
    | succ k =>
      have := ih k acc p hp
      simp at this ⊢; omega
theorem spl_count (S l : List Nat) : (TL.spl S 0 [] l).length ≤ l.length + 1 := by
  suffices h : ∀ (l : List Nat) (k : Nat) (acc : List Nat), (TL.spl S k acc l).length ≤ l.length + 1 from h l 0 []
  intro l
  induction l with
  | nil => intro k acc; rw [TL.spl_nil]; simp
  | cons c r ih =>
    intro k acc
    cases k with
    | zero =>
      by_cases h : TL.pre S (c :: r) = true
      · rw [TL.spl_hit h]
        have := ih (S.length - 1) []
        simp; omega
      · rw [TL.spl_miss (Bool.eq_false_iff.mpr h)]
        have := ih 0 (acc ++ [c])
        simp at this ⊢; omega
    | succ k =>
      have := ih k acc
      simp at this ⊢; exact Nat.le_trans this (by omega)
theorem no_none {r : List (Option Rat)} (h : none ∉ r) : ∃ lv : List Rat, r = lv.map some := by
  induction r with
  | nil => exact ⟨[], rfl⟩
  | cons o r ih =>
    obtain ⟨lv, rfl⟩ := ih fun h2 => h (.tail _ h2)
    cases o with
    | none => exact absurd (.head _) h
    | some q => exact ⟨q :: lv, rfl⟩
theorem some_no {lv : List Rat} : (none : Option Rat) ∉ lv.map some := fun h => by
  obtain ⟨q, _, e⟩ := List.mem_map.mp h
  cases e
theorem wt_cases (l : List Nat) : (∃ p, WtNo l p) ∨ (∃ lv dn, WtOk l lv dn) ∨ (∃ lv dn, WtNw l lv dn) := by
  obtain ⟨a, ps, hp⟩ := spl_ne [59, 32] l
  have hw : wpt l = a :: ps := hp
  have fin : ∀ lv dn, rowsOk l lv dn → (∃ lv dn, WtOk l lv dn) ∨ (∃ lv dn, WtNw l lv dn) := fun lv dn h => by
    by_cases h2 : lv.length = dn.length + 1 ∧ dn.length ≤ 7
    · exact .inl ⟨lv, dn, h, h2.1, h2.2⟩
    · exact .inr ⟨lv, dn, h, h2⟩
  by_cases h2 : 2 < (wpt l).length
  · exact .inl ⟨2, .inl ⟨h2, rfl⟩⟩
  · by_cases ha : none ∈ rowO a
    · exact .inl ⟨0, .inr ⟨by omega, by rw [hw]; simp, by rw [hw]; exact ha, fun m h => absurd h (by omega)⟩⟩
    · obtain ⟨lv, hlv⟩ := no_none ha
      match ps with
      | [] => exact .inr (fin lv [] ⟨_, hw, .inl ⟨a, rfl, hlv, rfl⟩⟩)
      | [b] =>
        by_cases hb : none ∈ rowO b
        · exact .inl ⟨1, .inr ⟨by omega, by rw [hw]; simp, by rw [hw]; exact hb, fun m h => by
            have : m = 0 := by omega
            subst this
            rw [hw]; exact ha⟩⟩
        · obtain ⟨dn, hdn⟩ := no_none hb
          exact .inr (fin lv dn ⟨_, hw, .inr ⟨a, b, rfl, hlv, hdn⟩⟩)
      | _ :: _ :: _ => exact absurd (by rw [hw]; simp) h2
def rwL (f : List Rat) : List Nat := TL.joinL [32] (f.map wrL)
def wtL (lv dn : List Rat) : List Nat := if dn.length = 0 then rwL lv else rwL lv ++ [59, 32] ++ rwL dn
def plL (f : List Rat) : List Nat := if f = [] then [48] else rwL f
theorem join_len {n : Nat} {s : List Nat} (hs : s.length ≤ 1) : ∀ (ws : List (List Nat)), (∀ w ∈ ws, w.length ≤ n) → (TL.joinL s ws).length ≤ ws.length * (n + 1) ∧ (ws.map List.length).sum ≤ ws.length * n
  | [], _ => ⟨by simp [TL.joinL], by simp⟩
  | [w], h => by
    have := h w (.head _)
    refine ⟨?_, ?_⟩
    · show w.length ≤ _
      simp; omega
    · simp; omega
  | w :: v :: r, h => by
    have h1 := h w (.head _)
    have ⟨i1, i2⟩ := join_len hs (v :: r) fun x hx => h x (.tail _ hx)
    refine ⟨?_, ?_⟩
    · show (w ++ (s ++ TL.joinL s (v :: r))).length ≤ _
      simp only [List.length_append, List.length_cons] at i1 ⊢
      have : (r.length + 1 + 1) * (n + 1) = (r.length + 1) * (n + 1) + (n + 1) := by rw [Nat.succ_mul]
      omega
    · simp only [List.map_cons, List.sum_cons, List.length_cons] at i2 ⊢
      have : (r.length + 1 + 1) * n = (r.length + 1) * n + n := by rw [Nat.succ_mul]
      omega
theorem rw_len {f : List Rat} (h : SzA 1900 f) (hf : f.length ≤ 30) : (rwL f).length ≤ 39030 ∧ ((f.map wrL).map List.length).sum + (f.map wrL).length * ([32] : List Nat).length ≤ 100000 := by
  have hw : ∀ w ∈ f.map wrL, w.length ≤ 1300 := fun w hw => by
    obtain ⟨q, hq, rfl⟩ := List.mem_map.mp hw
    exact wr_eq (h q hq)
  have ⟨i1, i2⟩ := join_len (s := [32]) (by decide) _ hw
  rw [List.length_map] at i1 i2
  refine ⟨?_, ?_⟩
  · unfold rwL
    have : f.length * (1300 + 1) ≤ 30 * 1301 := Nat.mul_le_mul_right _ hf
    omega
  · rw [List.length_map, List.length_singleton]
    have : f.length * 1300 ≤ 30 * 1300 := Nat.mul_le_mul_right _ hf
    omega
end Mf

namespace Mf
open PySem PySem.Spec PyProof.Rows L2 RT PySem.W HsX Hf
def vCelN (ns : List Int) (k : Int) : Int := ns.getD (k % (ns.length : Int)).toNat 0
def vDrN (ns : List Int) (k : Int) : Int :=
  if vCelN ns 0 % 2 = 1 ∧ 10000000000000000000000000000000000000000 ≤ vCelN ns 1 ∧ 0 < gdiv (vCelN ns 1) k.toNat then gdiv (vCelN ns 1) k.toNat % 1000000000000000000000000000000000000000000000000000000000000 else vStir (vCelN ns k) k
theorem vDrN_bd (ns : List Int) (k : Int) : 0 ≤ vDrN ns k ∧ vDrN ns k < 10 ^ 60 := by
  unfold vDrN
  split
  · omega
  · exact vStir_bd _ _
/-- a small fraction -/
def vSm (c : Int) : Rat := if c % 3 = 0 then ((c / 3 % 9 - 4 : Int) : Rat) else Rat.divInt (c / 3 % 1999999 - 999999) (1 + c / 7 % 12)
theorem vSm_sz (c : Int) : Sz 97 (vSm c) := by
  unfold vSm
  split
  · exact sz_small ⟨by omega, by omega⟩
  · exact sz_low ⟨by omega, by omega⟩ ⟨by omega, by omega⟩
theorem wh0_eqM (m : Nat) (l : List Nat) : (decide ((l.length : Int) = 0) || (decide ((m : Int) < (l.length : Int)) || (decide ((⟨#[l.headD 0]⟩ : Str) = tS [48]) && decide ((1 : Int) < (l.length : Int))))) = whM0 m l := by
  unfold whM0
  congr 1
  · exact decide_eq_decide.mpr (by omega)
  · congr 1
    · exact decide_eq_decide.mpr (by omega)
    · congr 1
      · exact decide_eq_decide.mpr ⟨fun h => (List.cons.inj (tS_inj (a := [l.headD 0]) h)).1, fun h => by rw [h]⟩
      · exact decide_eq_decide.mpr (by omega)
theorem wm_n0 {m : Nat} {l : List Nat} (h : whM0 m l = true) : whM m l = none := by unfold whM; rw [if_pos h]
theorem wm_n1 {m : Nat} {l : List Nat} {c i : Nat} (hc : l[i]? = some c) (h : isF c = false) : whM m l = none := by
  unfold whM
  by_cases h0 : whM0 m l = true
  · rw [if_pos h0]
  · rw [if_neg h0, if_neg]
    intro ha
    have := List.all_eq_true.mp ha c (List.mem_of_getElem? hc)
    rw [h] at this; cases this
theorem wm_s {m : Nat} {l : List Nat} (h0 : whM0 m l = false) (ha : ∀ m, m < l.length → isF (l.getD m 0) = true) : whM m l = some (NumText.digitsVal l) := by
  unfold whM
  rw [h0, if_neg (by decide), if_pos]
  rw [List.all_eq_true]
  intro c hc
  obtain ⟨m, hm, rfl⟩ := List.mem_iff_getElem.mp hc
  have := ha m hm
  rwa [List.getD_eq_getElem?_getD, List.getElem?_eq_getElem hm] at this
theorem rs_long {l : List Nat} {a b c : List Nat} {r : List (List Nat)} (h : pts (drM l) = a :: b :: c :: r) : smR l = none := by
  rw [← rbS_eq]; unfold rbS; rw [h]
theorem rs_a0 {l a : List Nat} (h : pts (drM l) = [a]) (ha : whM 6 a = none) : smR l = none := by
  rw [← rbS_eq]; unfold rbS; simp only [h, ha]
theorem rs_an {l a : List Nat} {t : Nat} (h : pts (drM l) = [a]) (ha : whM 6 a = some t) (h0 : (dsB l && decide ((t : Int) = 0)) = true) : smR l = none := by
  rw [← rbS_eq]; unfold rbS; simp only [h, ha]; rw [if_pos h0]
theorem rs_ap {l a : List Nat} {t : Nat} (h : pts (drM l) = [a]) (ha : whM 6 a = some t) (h0 : (dsB l && decide ((t : Int) = 0)) = false) : smR l = some ((sgT l t : Int) : Rat) := by
  rw [← rbS_eq]; unfold rbS; simp only [h, ha]; rw [if_neg (by rw [h0]; decide)]
theorem rs_c0 {l a c : List Nat} (h : pts (drM l) = [a, c]) (ha : whM 6 a = none ∨ whM 30 c = none) : smR l = none := by
  rw [← rbS_eq]; unfold rbS; simp only [h]
  rcases ha with ha | ha
  · rw [ha]
  · rw [ha]; cases whM 6 a <;> rfl
theorem rs_cn {l a c : List Nat} {t n : Nat} (h : pts (drM l) = [a, c]) (ha : whM 6 a = some t) (hc : whM 30 c = some n) (h0 : (dsB l && decide ((t : Int) = 0)) = true) : smR l = none := by
  rw [← rbS_eq]; unfold rbS; simp only [h, ha, hc]; rw [if_pos h0]
theorem rs_cb {l a c : List Nat} {t n : Nat} (h : pts (drM l) = [a, c]) (ha : whM 6 a = some t) (hc : whM 30 c = some n) (h0 : (dsB l && decide ((t : Int) = 0)) = false) (h1 : ¬ (2 ≤ n ∧ n ≤ 12 ∧ Int.gcd (t : Int) n = 1)) : smR l = none := by
  rw [← rbS_eq]; unfold rbS; simp only [h, ha, hc]; rw [if_neg (by rw [h0]; decide)]
  by_cases h12 : 12 < n
  · rw [if_pos h12]
  · rw [if_neg h12]
    unfold frQ
    rw [dif_neg (by rw [gcd_sgT]; omega)]
theorem rs_cp {l a c : List Nat} {t n : Nat} (h : pts (drM l) = [a, c]) (ha : whM 6 a = some t) (hc : whM 30 c = some n) (h0 : (dsB l && decide ((t : Int) = 0)) = false) (h1 : 2 ≤ n ∧ n ≤ 12 ∧ Int.gcd (t : Int) n = 1) : oFr (smR l) = .tuple [.int (sgT l t), .int (n : Int)] := by
  rw [← rbS_eq]; unfold rbS; simp only [h, ha, hc]; rw [if_neg (by rw [h0]; decide), if_neg (by omega)]
  unfold frQ
  rw [dif_pos (by rw [gcd_sgT]; omega)]
  rfl
theorem gs_y {b : Bool} {t n : Nat} (h : (b && (decide ((n : Int) < 2) || (decide ((12 : Int) < (n : Int)) || !decide (((Int.gcd (t : Int) n : Nat) : Int) = 1)))) = true) : ¬ (2 ≤ n ∧ n ≤ 12 ∧ Int.gcd (t : Int) n = 1) := fun ⟨h2, h3, hg⟩ => by
  rw [hg, decide_eq_false (show ¬ (n : Int) < 2 by omega), decide_eq_false (show ¬ (12 : Int) < (n : Int) by omega)] at h
  cases b <;> exact absurd h (by decide)
theorem gs_n {t n : Nat} (h : (true && (decide ((n : Int) < 2) || (decide ((12 : Int) < (n : Int)) || !decide (((Int.gcd (t : Int) n : Nat) : Int) = 1)))) = false) : 2 ≤ n ∧ n ≤ 12 ∧ Int.gcd (t : Int) n = 1 := by
  simp only [Bool.true_and, Bool.or_eq_false_iff, decide_eq_false_iff_not, Bool.not_eq_false', decide_eq_true_eq] at h
  omega
theorem sm_y {l : List Nat} {q : Rat} (h : frR l = some q) (t : 1000000 ≤ q.num.natAbs ∨ 12 < q.den) : smR l = none := by unfold smR; simp only [h]; rw [if_pos t]
theorem sm_n {l : List Nat} {q : Rat} (h : frR l = some q) (t : ¬ (1000000 ≤ q.num.natAbs ∨ 12 < q.den)) : smR l = some q := by unfold smR; simp only [h]; rw [if_neg t]
theorem sm_0 {l : List Nat} (h : frR l = none) : smR l = none := by unfold smR; simp only [h]
theorem ws_some {ws : List (List Nat)} {i : Nat} {d : D} (h : (wsD ws)[i]? = some d) : ∃ w, ws[i]? = some w ∧ d = .str (tS w) := by
  rw [List.getElem?_map] at h
  obtain ⟨w, hw, rfl⟩ := Option.map_eq_some_iff.mp h
  exact ⟨w, hw, rfl⟩
theorem row_at {l : List Nat} {i : Nat} {w : List Nat} {y : D} (h : (wds l)[i]? = some w) (hy : ((rowO l).map oFr)[i]? = some y) : y = oFr (smR w) := by
  unfold rowO at hy
  rw [List.getElem?_map, List.getElem?_map, h] at hy
  cases hy; rfl
theorem row_len (l : List Nat) : ((rowO l).map oFr).length = (wds l).length := by unfold rowO; rw [List.length_map, List.length_map]
theorem inDD_none : ∀ (r : List (Option Rat)), inDD .none (r.map oFr) = decide (none ∈ r)
  | [] => rfl
  | none :: r => by
    rw [decide_eq_true (.head _)]
    rfl
  | some q :: r => by
    have := inDD_none r
    show (PyData.eqv .none (dFr q) || inDD .none (r.map oFr)) = _
    rw [this]
    show decide _ = decide _
    exact decide_eq_decide.mpr ⟨fun h => .tail _ h, fun h => by cases h with | tail _ h => exact h⟩
def rwsD (ps : List (List Nat)) (i : Nat) : List D := (ps.take i).map rowD
theorem rws_s {ps : List (List Nat)} {i : Nat} {w : List Nat} (h : ps[i]? = some w) : rwsD ps i ++ [.list ((rowO w).map oFr)] = rwsD ps (i + 1) := by
  unfold rwsD
  rw [List.take_add_one, h, List.map_append]
  rfl
theorem row_fr {w : List Nat} {lv : List Rat} (h : rowO w = lv.map some) : rowD w = .list (dFrs lv) := by
  unfold rowD
  rw [h, List.map_map]
  rfl
def rwtD (ps : List (List Nat)) (i : Nat) : List D := (ps.take i).map fun w => .tuple ((rowO w).map oFr)
theorem rwt_s {ps : List (List Nat)} {i : Nat} {w : List Nat} (h : ps[i]? = some w) : rwtD ps i ++ [.tuple ((rowO w).map oFr)] = rwtD ps (i + 1) := by
  unfold rwtD
  rw [List.take_add_one, h, List.map_append]
  rfl
theorem row_frT {w : List Nat} {lv : List Rat} (h : rowO w = lv.map some) : PyData.tuple ((rowO w).map oFr) = .tuple (dFrs lv) := by
  rw [h, List.map_map]
  rfl
theorem wtno_at {l : List Nat} {p i : Nat} {w : List Nat} (h : WtNo l p) (h2 : ¬ 2 < (wpt l).length) (hw : (wpt l)[i]? = some w) (hm : ∀ m, m < i → none ∉ rowO ((wpt l).getD m [])) (hb : none ∈ rowO w) : p = i := by
  rcases h with ⟨h, _⟩ | ⟨_, h3, h4, h5⟩
  · exact absurd h h2
  · have hw2 : (wpt l).getD i [] = w := by rw [List.getD_eq_getElem?_getD, hw]; rfl
    rcases Nat.lt_trichotomy p i with h6 | h6 | h6
    · exact absurd h4 (hm p h6)
    · exact h6
    · exact absurd hb (by rw [← hw2]; exact h5 i h6)
theorem wtno_end {l : List Nat} {p : Nat} (h : WtNo l p) (h2 : ¬ 2 < (wpt l).length) (hm : ∀ m, m < (wpt l).length → none ∉ rowO ((wpt l).getD m [])) : False := by
  rcases h with ⟨h, _⟩ | ⟨_, h3, h4, h5⟩
  · exact h2 h
  · exact hm p h3 h4
theorem no_step {ps : List (List Nat)} {i : Nat} {w : List Nat} (hm : ∀ m, m < i → none ∉ rowO (ps.getD m [])) (hw : ps[i]? = some w) (h : none ∉ rowO w) : ∀ m, m < i + 1 → none ∉ rowO (ps.getD m []) := fun m h1 => by
  by_cases e : m = i
  · subst e
    rw [List.getD_eq_getElem?_getD, hw]; exact h
  · exact hm m (by omega)
theorem ok_no {l : List Nat} {lv dn : List Rat} (h : rowsOk l lv dn) {i : Nat} {w : List Nat} (hw : (wpt l)[i]? = some w) : none ∉ rowO w := by
  obtain ⟨ps, hp, h⟩ := h
  rw [hp] at hw
  rcases h with ⟨a, rfl, ha, _⟩ | ⟨a, b, rfl, ha, hb⟩
  · match i, hw with
    | 0, hw => cases hw; rw [ha]; exact some_no
  · match i, hw with
    | 0, hw => cases hw; rw [ha]; exact some_no
    | 1, hw => cases hw; rw [hb]; exact some_no
theorem ok_2 {l : List Nat} {lv dn : List Rat} (h : rowsOk l lv dn) : ¬ 2 < (wpt l).length := by
  obtain ⟨ps, hp, h⟩ := h
  rw [hp]
  rcases h with ⟨a, rfl, _⟩ | ⟨a, b, rfl, _⟩ <;> simp
theorem dl_opt (o : Option Rat) : SeqAt.shaped (oFr o) = true := by
  cases o with
  | none => rfl
  | some q => exact sh_fr q
theorem at_txt {ls : List (List Nat)} (n : Nat) (h : ls ≠ []) (hn : ls.all (fun l => decide (l.length ≤ n)) = true) (x : Int) : ∃ o, L2.atI (wsD ls) (x % (ls.length : Int)) = some (.str (tS o)) ∧ o.length ≤ n := by
  have e := at_mod h x []
  refine ⟨ls.getD (x % (ls.length : Int)).toNat [], ?_, ?_⟩
  · have e2 := at_mod (l := wsD ls) (by simpa using h) x (PyData.str (tS []))
    rw [List.length_map] at e2
    rw [e2]
    congr 1
    rw [List.getD_eq_getElem?_getD, List.getD_eq_getElem?_getD, List.getElem?_map]
    cases ls[(x % (ls.length : Int)).toNat]? <;> rfl
  · rw [List.getD_eq_getElem?_getD]
    cases e3 : ls[(x % (ls.length : Int)).toNat]? with
    | none => exact Nat.zero_le _
    | some l => exact of_decide_eq_true (List.all_eq_true.mp hn l (List.mem_of_getElem? e3))
theorem at_int4 {a b : Int} (x : Int) (ha : 0 ≤ a ∧ a ≤ 9) (hb : 0 ≤ b ∧ b ≤ 9) : ∃ m : Int, L2.atI [PyData.int a, .int a, .int a, .int b] (x % 4) = some (.int m) ∧ 0 ≤ m ∧ m ≤ 9 := by
  have h0 := Int.emod_nonneg x (show (4 : Int) ≠ 0 by decide)
  have h1 := Int.emod_lt_of_pos x (show (0 : Int) < 4 by decide)
  have h : x % 4 = 0 ∨ x % 4 = 1 ∨ x % 4 = 2 ∨ x % 4 = 3 := by omega
  rcases h with h | h | h | h <;> rw [h]
  · exact ⟨a, rfl, ha⟩
  · exact ⟨a, rfl, ha⟩
  · exact ⟨a, rfl, ha⟩
  · exact ⟨b, rfl, hb⟩
theorem set_ws (ws : List (List Nat)) (j : Nat) (o : List Nat) : (wsD ws).set j (.str (tS o)) = wsD (ws.set j o) := by
  show (ws.map fun w => PyData.str (tS w)).set j (PyData.str (tS o)) = (ws.set j o).map fun w => PyData.str (tS w)
  rw [List.map_set]
theorem tri_some {a b : List Nat} {i : Nat} {d : D} (h : [PyData.str (tS a), .str (tS b), .str (tS a)][i]? = some d) : ∃ w, d = .str (tS w) ∧ (w = a ∨ w = b) := by
  match i, h with
  | 0, h => cases h; exact ⟨a, rfl, .inl rfl⟩
  | 1, h => cases h; exact ⟨b, rfl, .inr rfl⟩
  | 2, h => cases h; exact ⟨a, rfl, .inl rfl⟩
def lvN (ns : List Int) (a : Int) (n : Nat) : List Rat := (List.range n).map fun k : Nat => vSm (vDrN ns (a + (k : Int)))
def nbN (ns : List Int) (n : Nat) : List Rat := (List.range n).map fun k : Nat => vNum (vDrN ns (21 + (k : Int)) / 5)
theorem lvN_sz (ns : List Int) (a : Int) (n : Nat) : SzA 97 (lvN ns a n) := fun q hq => by
  obtain ⟨k, _, rfl⟩ := List.mem_map.mp hq
  exact vSm_sz _
theorem nbN_sz (ns : List Int) (n : Nat) : SzA 97 (nbN ns n) := fun q hq => by
  obtain ⟨k, _, rfl⟩ := List.mem_map.mp hq
  exact vNum_sz _
end Mf
namespace Mf
open PySem PySem.Spec PyProof.Rows L2 RT PySem.W HsX Hf
theorem wt_len1 {f : List Rat} (h : SzA 1900 f) (l : f.length ≤ 30) : (rwL f).length + ([59, 32] : List Nat).length ≤ 100000 := by
  have := (rw_len h l).1
  simp; omega
theorem wt_len2 {f g : List Rat} (h : SzA 1900 f) (l : f.length ≤ 30) (h2 : SzA 1900 g) (l2 : g.length ≤ 30) : (rwL f ++ [59, 32]).length + (rwL g).length ≤ 100000 := by
  have := (rw_len h l).1
  have := (rw_len h2 l2).1
  simp; omega
theorem wt_0 {lv dn : List Rat} (t : ((dFrs dn).length : Int) = 0) : wtL lv dn = rwL lv := by
  unfold wtL
  rw [if_pos (by rw [List.length_map] at t; omega)]
theorem wt_1 {lv dn : List Rat} (t : ¬ ((dFrs dn).length : Int) = 0) : wtL lv dn = rwL lv ++ [59, 32] ++ rwL dn := by
  unfold wtL
  rw [if_neg (by rw [List.length_map] at t; omega)]
theorem pl_0 {f : List Rat} (t : PyData.eqv (.tuple (dFrs f)) (dPo []) = true) : plL f = [48] := by
  rw [eqv_frsT f []] at t
  unfold plL
  rw [if_pos (of_decide_eq_true t)]
theorem pl_1 {f : List Rat} (t : PyData.eqv (.tuple (dFrs f)) (dPo []) = false) : plL f = rwL f := by
  rw [eqv_frsT f []] at t
  unfold plL
  rw [if_neg (of_decide_eq_false t)]
theorem rc_len {w : List Nat} (h : w.length ≤ 90000) : (wds w).length < 100000 := by
  have := spl_count [32] w
  unfold wds
  omega
theorem sh_row (w : List Nat) : SeqAt.shaped (.list ((rowO w).map oFr)) = true := by
  refine shaped_of (n := 3) (dl_lst (dl_map (n := 2) (fun o => ?_) _)) (by decide)
  cases o with
  | none => exact dl_none (by decide)
  | some q => exact dl_fr q (by decide)
end Mf
namespace Mf
open PySem PySem.Spec PyProof.Rows L2 RT PySem.W HsX Hf
theorem sm_t {q : Rat} (h : Hf.isNon (dFr q) = true ∨ ((1000000 : Int) ≤ (if q.num < 0 then -q.num else q.num)) ∨ (12 : Int) < (q.den : Int)) : 1000000 ≤ q.num.natAbs ∨ 12 < q.den := by
  rcases h with h | h
  · cases h
  · split at h <;> omega
theorem sm_f {q : Rat} (h : Hf.isNon (dFr q) = false ∧ ¬ ((1000000 : Int) ≤ (if q.num < 0 then -q.num else q.num)) ∧ ¬ (12 : Int) < (q.den : Int)) : ¬ (1000000 ≤ q.num.natAbs ∨ 12 < q.den) := by
  have h := h.2
  split at h <;> omega
end Mf
namespace Mf
open PySem PySem.Spec PyProof.Rows L2 RT PySem.W HsX Hf
theorem rws_len {l : List Nat} (h : l.length ≤ 90000) (i : Nat) : (rwsD (wpt l) i).length < 100000 := by
  have := spl_count [59, 32] l
  unfold rwsD wpt
  rw [List.length_map, List.length_take]
  omega
theorem rwt_len {l : List Nat} (h : l.length ≤ 90000) (i : Nat) : (rwtD (wpt l) i).length < 100000 := by
  have := spl_count [59, 32] l
  unfold rwtD wpt
  rw [List.length_map, List.length_take]
  omega
end Mf
namespace Mf
open PySem PySem.Spec PyProof.Rows L2 RT PySem.W HsX Hf
section
variable {l : List Nat} {n : Nat} {o u o2 u2 : Option Int} (h : l.length ≤ 40000)
include h
theorem bl0 : l.length ≤ 100000 := by omega
theorem bl1 : (Hf.cutD l o u).length + ([n] : List Nat).length ≤ 100000 := by have := cut_le h o u; simp; omega
theorem bl2 : (Hf.cutD l o u ++ [n]).length + (Hf.cutD l o2 u2).length ≤ 100000 := by have := cut_le h o u; have := cut_le h o2 u2; simp; omega
theorem bl3 : (Hf.cutD l o u).length + (Hf.cutD l o2 u2).length ≤ 100000 := by have := cut_le h o u; have := cut_le h o2 u2; omega
theorem bl_len : (Hf.cutD l o u ++ [n] ++ Hf.cutD l o2 u2).length ≤ 90000 ∧ (Hf.cutD l o u ++ Hf.cutD l o2 u2).length ≤ 90000 := by
  have h1 := cut_le h o u
  have h2 := cut_le h o2 u2
  simp only [List.length_append, List.length_cons, List.length_nil]
  omega
end
theorem ws_at {ws : List (List Nat)} {i : Nat} {w : List Nat} (h : ws[i]? = some w) : L2.atI (wsD ws) (i : Int) = some (.str (tS w)) := L2.atI_nat (by rw [List.getElem?_map, h]; rfl)
theorem wp_rng {l : List Nat} (h : l.length ≤ 90000) : -(10 ^ 6 : Int) ≤ (((wsD (wpt l)).length : Nat) : Int) ∧ (((wsD (wpt l)).length : Nat) : Int) ≤ 10 ^ 6 := by
  have := spl_count [59, 32] l
  rw [List.length_map]
  unfold wpt
  omega
end Mf
namespace Mf
open PySem PySem.Spec PyProof.Rows L2 RT PySem.W HsX Hf
def od11 : List (List Nat) := [[49, 48, 48, 48, 48, 48, 48], [45, 49, 48, 48, 48, 48, 48, 48], [49, 47, 49, 51], [50, 47, 52], [48, 49], [45, 48], [120], [], [49, 47, 49], [57, 57, 57, 57, 57, 57, 47, 49, 49], [43, 49]]
def od4 : List (List Nat) := [[59, 32, 49], [59, 32], [32], [59, 32, 49, 59, 32, 50]]
theorem ixN_mod {n : Nat} (h : 0 < n) (x : Int) : L2.ixN n (x % (n : Int)) = some (x % (n : Int)).toNat := by
  have h0 := Int.emod_nonneg x (show (n : Int) ≠ 0 by omega)
  have h1 := Int.emod_lt_of_pos x (show (0 : Int) < (n : Int) by omega)
  exact ixN_at (m := (x % (n : Int)).toNat) (by omega) (by omega)
theorem rw_len9 {f : List Rat} (h : SzA 97 f) (hf : f.length ≤ 9) : (rwL f).length ≤ 11709 := by
  have hw : ∀ w ∈ f.map wrL, w.length ≤ 1300 := fun w hw => by
    obtain ⟨q, hq, rfl⟩ := List.mem_map.mp hw
    exact wr_eq ((h q hq).mono (by decide))
  have i1 := (join_len (s := [32]) (by decide) _ hw).1
  rw [List.length_map] at i1
  unfold rwL
  have : f.length * (1300 + 1) ≤ 9 * 1301 := Nat.mul_le_mul_right _ hf
  omega
theorem wt_len9 {f g : List Rat} (h : SzA 97 f) (hf : f.length ≤ 9) (h2 : SzA 97 g) (hg : g.length ≤ 9) : (wtL f g).length ≤ 40000 := by
  have := rw_len9 h hf
  have := rw_len9 h2 hg
  unfold wtL
  split
  · omega
  · simp only [List.length_append, List.length_cons, List.length_nil]; omega
theorem jn_mem {f : List Rat} {o : List Nat} {j : Nat} (h : SzA 97 f) (ho : o.length ≤ 9) : ∀ w ∈ (f.map wrL).set j o, w.length ≤ 1300 := fun w hw => by
  rcases List.mem_or_eq_of_mem_set hw with hw | rfl
  · obtain ⟨q, hq, rfl⟩ := List.mem_map.mp hw
    exact wr_eq ((h q hq).mono (by decide))
  · omega
theorem jn_len9 {f : List Rat} {o : List Nat} {j : Nat} (h : SzA 97 f) (hf : f.length ≤ 9) (ho : o.length ≤ 9) : (TL.joinL [32] ((f.map wrL).set j o)).length ≤ 11709 := by
  have i1 := (join_len (s := [32]) (by decide) _ (jn_mem (j := j) h ho)).1
  rw [List.length_set, List.length_map] at i1
  have : f.length * (1300 + 1) ≤ 9 * 1301 := Nat.mul_le_mul_right _ hf
  omega
theorem jn_ok {f : List Rat} {o : List Nat} {j : Nat} (h : SzA 97 f) (hf : f.length ≤ 9) (ho : o.length ≤ 9) : (((f.map wrL).set j o).map List.length).sum + ((f.map wrL).set j o).length * ([32] : List Nat).length ≤ 100000 := by
  have i1 := (join_len (s := [32]) (by decide) _ (jn_mem (j := j) h ho)).2
  rw [List.length_set, List.length_map] at i1 ⊢
  have : f.length * 1300 ≤ 9 * 1300 := Nat.mul_le_mul_right _ hf
  rw [List.length_singleton]
  omega
end Mf
namespace Mf
open PySem PySem.Spec PyProof.Rows L2 RT PySem.W HsX Hf
theorem eqv_wtE (a b : List Rat) : PyData.eqv (.tuple [dPo a, dPo b]) (.tuple [dPo a, dPo b]) = true := by
  have h : PyData.eqv (.tuple [dPo a, dPo b]) (.tuple [dPo a, dPo b]) = (PyData.eqv (dPo a) (dPo a) && (PyData.eqv (dPo b) (dPo b) && true)) := by simp only [PyData.eqv, PyData.eqvAll]
  rw [h, eqv_frsT a a, eqv_frsT b b]
  simp
end Mf

namespace Hf
open PySem PySem.Spec PyProof.Rows L2 RT PySem.W HsX
theorem ds_retAA {X : Cx} {Γ : List Cell} {A : AD} {e : Expr} {P P2 : D → Prop} {rest : List Stmt} {pos : Pos} (he : DEA X Γ e P) (hP : ∀ d, P d → P2 d) (h : A.rt (.any P2)) : DS X Γ (.Return (some e) pos :: rest) A := fun Hs H0 Hb tk σ Hd H r =>
  wSs_cons (wS_of (ps_ret pe_w) (he σ Hd H _ r.l fun v d Hd1 H1 hd s1 i1 => ⟨_, h, Hd1, d, hP d hd, r.e.trans s1, i1⟩))
end Hf

namespace Hf
open PySem PySem.Spec PyProof.Rows L2
inductive HdsN (X : Cx) : List ExceptHandler → List (Value × Stmt × List Stmt) → Prop
  | nil : HdsN X [] []
  | cons {x : Str} {c : Value} {b₀ : Stmt} {suite : List Stmt} {np pos' : Pos} {hds : List ExceptHandler} {l : List (Value × Stmt × List Stmt)} (hc : Names X x c) (r : HdsN X hds l) :
      HdsN X (.ExceptHandler (some (.Name x np)) none (b₀ :: suite) pos' :: hds) ((c, b₀, suite) :: l)
def tsM (X : Cx) (l : List (Value × Stmt × List Stmt)) : List (Value × (Addr → Value → Option Addr → TS)) := l.map fun q => (q.1, tsD X (q.2.1 :: q.2.2))
theorem HdsN.ok {X : Cx} {hds : List ExceptHandler} {l : List (Value × Stmt × List Stmt)} (h : HdsN X hds l) : L2N.HdsOk X hds (tsM X l) := by
  induction h with
  | nil => exact .nil
  | cons hc r ih => exact .cons hc (fun a oe cls d pn hz hd => ⟨fun pins s σ H D I h => (h oe pn hz hd).run pins s I⟩) ih
def CaughtN (X : Cx) (Γ' : List Cell) (A : AD) (rest : List Stmt) (C : Addr) (fs : List (Str × D)) : List (Value × Stmt × List Stmt) → Prop
  | [] => A.ex C fs Γ'
  | (c, b₀, su) :: l => ∃ b, PySem.W.exmOne X.K (.ref C) c = some b ∧ (b = true → ∀ (a : Addr) (oe : Obj) (pn : List (Addr × Obj)), DS (X.suite a ((a, oe) :: pn)) Γ' (b₀ :: su) { nx := fun Γ2 => DS X Γ2 rest A, rt := A.rt, bk := A.bk, ct := A.ct }) ∧ (b = false → CaughtN X Γ' A rest C fs l)
theorem CaughtN.yes {X : Cx} {Γ' : List Cell} {A : AD} {rest : List Stmt} {C : Addr} {fs : List (Str × D)} {c : Value} {b₀ : Stmt} {su : List Stmt} {l : List (Value × Stmt × List Stmt)} (h : PySem.W.exmOne X.K (.ref C) c = some true) (s : ∀ (a : Addr) (oe : Obj) (pn : List (Addr × Obj)), DS (X.suite a ((a, oe) :: pn)) Γ' (b₀ :: su) { nx := fun Γ2 => DS X Γ2 rest A, rt := A.rt, bk := A.bk, ct := A.ct }) : CaughtN X Γ' A rest C fs ((c, b₀, su) :: l) :=
  ⟨true, h, fun _ => s, fun z => nomatch z⟩
theorem CaughtN.no {X : Cx} {Γ' : List Cell} {A : AD} {rest : List Stmt} {C : Addr} {fs : List (Str × D)} {c : Value} {b₀ : Stmt} {su : List Stmt} {l : List (Value × Stmt × List Stmt)} (h : PySem.W.exmOne X.K (.ref C) c = some false) (s : CaughtN X Γ' A rest C fs l) : CaughtN X Γ' A rest C fs ((c, b₀, su) :: l) :=
  ⟨false, h, fun z => (nomatch z), fun _ => s⟩
section
variable {X : Cx} {Γ : List Cell} {A : AD} {rest body : List Stmt} {pos : Pos}
theorem ds_tryN (HX : Addr → List (Str × D) → List Cell → Prop) (hs : X.stack = X.env :: X.outer) (hf : X.env.frame = some X.env.locals) {h₀ : ExceptHandler} {hds : List ExceptHandler} {l : List (Value × Stmt × List Stmt)} (hh : HdsN X (h₀ :: hds) l)
    (hb : ∀ (pn : List (Addr × Obj)) (xe : Value → Shared → Prop), DS (X.tr pn xe) Γ body { A with nx := fun Γ' => DS X Γ' rest A, ex := HX })
    (hsu : ∀ C fs Γ', HX C fs Γ' → CaughtN X Γ' A rest C fs l) :
    DS X Γ (.Try body (h₀ :: hds) [] [] pos :: rest) A := fun Hs H0 Hb tk σ Hd H r => by
  refine wSs_cons (wS_of (L2N.ps_try_many (tb := fun W D σ H => ∀ (pn : List (Addr × Obj)) (xe : Value → Shared → Prop), L2N.Takes (X.tr pn xe) W → wSs (X.tr pn xe) body D σ H) hs hf tk (fun W pn xe tkW _ => ⟨fun pins s σ H D I h => (h pn xe tkW).run pins s I⟩) hh.ok) ?_)
  intro pn xe tkW
  refine wSs_of (X := X.tr pn xe) (sts := body) pss_w ?_
  have tk2 : L2N.Takes (X.tr pn xe) (AD.W (X.tr pn xe).K Hs H0 Hb HX) := tkW.imp fun cls d σ' H' ⟨C, fs, Γ', Hd', e1, e2, r', e4⟩ => by
    subst e1
    have hca := hsu C fs Γ' e2
    clear tkW hsu hb hh
    induction l with
    | nil => exact ⟨C, fs, Γ', Hd', rfl, hca, r', e4⟩
    | cons cs l ih =>
      obtain ⟨c, b₀, su⟩ := cs
      obtain ⟨b, hm, hy, hno⟩ := hca
      refine ⟨b, hm, fun eb a ha oe pn2 hz hd => ?_, fun eb => ih (hno eb)⟩
      have tkN : L2N.Takes (X.suite a ((a, oe) :: pn2)) (AD.W X.K Hs H0 Hb fun _ _ _ => False) := fun u s' ⟨_, _, _, _, _, _, _, _, _, _, _, _, _, _, _, _, C2, _, _, _, _, z, _⟩ => z.elim
      have h := hy eb a oe pn2 Hs H0 Hb tkN σ' Hd' H' r'
      constructor
      intro pins s I
      refine thn (h.run pins s I) fun f s2 z => ?_
      cases f with
      | next =>
        obtain ⟨σ2, H2, I2, Γ2, Hd2, r2, z2⟩ := z
        exact ⟨σ2, H2, I2, z2 Hs H0 Hb tk _ Hd2 H2 r2⟩
      | brk =>
        obtain ⟨σ2, H2, I2, Γ2, Hd2, r2, z2⟩ := z
        exact ⟨σ2, H2, I2, _, Hd2, r2, z2⟩
      | cont =>
        obtain ⟨σ2, H2, I2, Γ2, Hd2, r2, z2⟩ := z
        exact ⟨σ2, H2, I2, _, Hd2, r2, z2⟩
      | ret v => exact z
  constructor
  intro pins s I
  refine thn ((hb pn xe Hs H0 Hb tk2 σ Hd H r).run pins s I) fun f s2 z => ?_
  cases f with
  | next =>
    obtain ⟨σ2, H2, I2, Γ2, Hd2, r2, z2⟩ := z
    exact ⟨σ2, H2, I2, z2 Hs H0 Hb tk σ2 Hd2 H2 r2⟩
  | brk => exact z
  | cont => exact z
  | ret v => exact z
end
end Hf

namespace Hn
open PySem PySem.Spec PyProof.Rows L2 Hf
abbrev Ck : Type := PySem.W.Frag → Bool
abbrev Al : Type := Bool × List He.FnV × List He.FnW
def obsK (cs : List (List Ck)) (fn : List He.FnD) (fw : List He.DefD) (K : PySem.W.Frag) : Al :=
  ((cs.all fun l => l.all fun c => c K) && ((fn.all fun d => (He.Fa.code d.at_ d.qual).ok K) && fw.all fun d => d.ok K), fn.map (fun d => He.fnObs K d.at_), fw.map fun d => He.fnW K d.at_)
def valK (fn : List He.FnD) (fw : List He.DefD) : Al := (true, fn.map He.FnD.val, fw.map He.DefD.val)
def SaysK (cs : List (List Ck)) (fn : List He.FnD) (fw : List He.DefD) (K : PySem.W.Frag) : Prop := obsK cs fn fw K = valK fn fw
/-- what an object names: values of a dict, items, a function's code and defaults, a class's dict -/
def refK (o : Obj) : List Addr := match o.data with
  | .seq its _ => its.toList.flatMap He.refV
  | .dict es _ => es.toList.flatMap fun e => He.refV e.val
  | .func fd => He.refV fd.code ++ He.refV fd.defaults
  | .cls cd => [cd.ns]
  | _ => []
def nxK (g : Addr → Option Obj) (as : List Addr) : List Addr := as.flatMap fun a => match g a with
  | some o => refK o
  | none => []
/-- the levels below these, one behind another -/
def lvK (g : Addr → Option Obj) : Nat → List Addr → List Addr
  | 0, as => as
  | n + 1, as => as ++ lvK g n (nxK g as)
def asK (g : Addr → Option Obj) (n : Nat) : List Addr := cStatics :: lvK g n [mainGlobals]
def obsKG (n : Nat) (cs : List (List Ck)) (fn : List He.FnD) (fw : List He.DefD) (g : Addr → Option Obj) : Al := obsK cs fn fw (He.frG g (asK g n))
def hookK (n : Nat) (cs : List (List Ck)) (fn : List He.FnD) (fw : List He.DefD) : PySem.W.Hook where
  α := Al
  obs := fun s => obsKG n cs fn fw s.heap.get?
  val := fun _ => valK fn fw
  says := fun _ h => ∃ K : PySem.W.Frag, K.In h ∧ SaysK cs fn fw K
  of := fun _ _ e => ⟨_, He.frG_in, e⟩
  keeps := fun _ _ _ ⟨K, hK, c⟩ k => ⟨K, PySem.W.Frag.In.keeps hK k, c⟩
theorem obsKG_eq {n : Nat} {cs : List (List Ck)} {fn : List He.FnD} {fw : List He.DefD} {g : Addr → Option Obj} {s : Shared} (h : ∀ a, g a = s.heap.get? a) : obsKG n cs fn fw g = (hookK n cs fn fw).obs s := by
  have e : g = s.heap.get? := funext h
  rw [e] <;> rfl
section
variable {cs : List (List Ck)} {fn : List He.FnD} {fw : List He.DefD} {K : PySem.W.Frag}
theorem SaysK.b1 (c : SaysK cs fn fw K) : ((cs.all fun l => l.all fun c => c K) && ((fn.all fun d => (He.Fa.code d.at_ d.qual).ok K) && fw.all fun d => d.ok K)) = true := congrArg (fun z : Al => z.1) c
theorem SaysK.fact (c : SaysK cs fn fw K) (i j : Nat) {l : List Ck} {f : Ck} (h : cs[i]? = some l := by rfl) (h2 : l[j]? = some f := by rfl) : f K = true :=
  List.all_eq_true.mp (List.all_eq_true.mp (He.ba c.b1).1 l (List.mem_of_getElem? h)) f (List.mem_of_getElem? h2)
theorem SaysK.fn_ (c : SaysK cs fn fw K) (i : Nat) {d : He.FnD} (h : fn[i]? = some d := by rfl) :
    ∃ oc od osl kV doc pm an cdv ct, K.lookup (He.fAd K d.at_) = some ⟨oc, od, .func (PySem.W.fnOf d.name d.qual d.params d.body d.scope .none kV doc pm an cdv ct), osl⟩ ∧ PySem.W.codeIn K cdv d.qual = true := by
  have e : fn.map (fun d => He.fnObs K d.at_) = fn.map He.FnD.val := congrArg (fun z : Al => z.2.1) c
  have e2 : (fn.map fun d => He.fnObs K d.at_)[i]? = (fn.map He.FnD.val)[i]? := by rw [e]
  rw [List.getElem?_map, List.getElem?_map, h] at e2
  exact He.fn_ok (Option.some.inj e2) (List.all_eq_true.mp (He.ba (He.ba c.b1).2).1 d (List.mem_of_getElem? h))
theorem SaysK.fw_ (c : SaysK cs fn fw K) (i : Nat) {d : He.DefD} (h : fw[i]? = some d := by rfl) : ∃ fd, FunD K d.name d.qual d.params d.body d.scope (d.dvs K) (d.kws K) (He.fAd K d.at_) fd := by
  have e : fw.map (fun d => He.fnW K d.at_) = fw.map He.DefD.val := congrArg (fun z : Al => z.2.2) c
  have e2 : (fw.map fun d => He.fnW K d.at_)[i]? = (fw.map He.DefD.val)[i]? := by rw [e]
  rw [List.getElem?_map, List.getElem?_map, h] at e2
  exact He.DefD.funD (Option.some.inj e2) (List.all_eq_true.mp (He.ba (He.ba c.b1).2).2 d (List.mem_of_getElem? h))
end
def clsB (K : PySem.W.Frag) (C : Addr) : Bool := PySem.W.plainGet K C Str.empty && (PySem.W.hasDictIn K C && (PySem.W.plainOver K C && He.eqO (PySem.W.findIn K (.ref C) "__setattr__") (some (some (.builtin "object.__setattr__")))))
theorem clsB_ok {K : PySem.W.Frag} {C : Addr} (h : clsB K C = true) : Cls K C := by
  obtain ⟨h1, h⟩ := He.ba h
  obtain ⟨h2, h⟩ := He.ba h
  obtain ⟨h3, h4⟩ := He.ba h
  exact ⟨h1, h2, h3, He.eqO_ok h4⟩
def mk0B (K : PySem.W.Frag) (C : Addr) : Bool := PySem.W.makesIn K C && (He.eqO (PySem.W.findIn K (.ref C) "__init__") (some (some (.builtin "object.__init__"))) && PySem.W.keepIn K (.ref C))
theorem mk0B_ok {K : PySem.W.Frag} {C : Addr} (h : mk0B K C = true) : Mk0 K C := by
  obtain ⟨h1, h⟩ := He.ba h
  obtain ⟨h2, h3⟩ := He.ba h
  exact ⟨h1, He.eqO_ok h2, h3⟩
def csB (K : PySem.W.Frag) (C : Addr) : Bool := He.eqO (PySem.W.findIn K (.ref C) "__class__") (some (some (.builtin "object.__class__"))) && (He.eqO (PySem.W.specialIn K (.builtin "object.__class__") "__get__") (some (some (.builtin "getset_descriptor.__get__"))) &&
  (decide (PySem.W.takesIn K (.builtin "object.__class__") = some true) && decide (PySem.W.mroIn K C (.type "object") = some true)))
def iscB (K : PySem.W.Frag) (C : Addr) : Bool := clsB K C && csB K C
theorem iscB_ok {K : PySem.W.Frag} {C : Addr} (h : iscB K C = true) : IsC K C := by
  obtain ⟨h0, h⟩ := He.ba h
  obtain ⟨h1, h⟩ := He.ba h
  obtain ⟨h2, h⟩ := He.ba h
  obtain ⟨h3, h4⟩ := He.ba h
  exact ⟨clsB_ok h0, He.eqO_ok h1, He.eqO_ok h2, of_decide_eq_true h3, of_decide_eq_true h4⟩
def excB (K : PySem.W.Frag) (C : Addr) : Bool := PySem.W.findIn K (.ref C) "__getattribute__" == some (some (.builtin "BaseException.__getattribute__")) && (He.eqO (PySem.W.findIn K (.ref C) "__getattr__") (some none) &&
  (decide (PySem.W.subIn K (.ref C) (.type "BaseException") = some true) && (PySem.W.hasDictIn K C && csB K C)))
theorem excB_ok {K : PySem.W.Frag} {C : Addr} (h : excB K C = true) : ExcC K C := by
  obtain ⟨h1, h⟩ := He.ba h
  obtain ⟨h2, h⟩ := He.ba h
  obtain ⟨h3, h⟩ := He.ba h
  obtain ⟨h4, h⟩ := He.ba h
  obtain ⟨h5, h⟩ := He.ba h
  obtain ⟨h6, h⟩ := He.ba h
  obtain ⟨h7, h8⟩ := He.ba h
  exact ⟨beq_iff_eq.mp h1, He.eqO_ok h2, of_decide_eq_true h3, h4, He.eqO_ok h5, He.eqO_ok h6, of_decide_eq_true h7, of_decide_eq_true h8⟩
def exnB (K : PySem.W.Frag) (C : Addr) : Bool := PySem.W.excIn K C He.veBase "ValueError.__new__"
theorem exnB_ok {K : PySem.W.Frag} {C : Addr} (h : exnB K C = true) : ∃ bm, ExcBaseFacts "ValueError" "ValueError.__new__" "ValueError.__init__" bm ∧ PySem.W.excIn K C bm "ValueError.__new__" = true := ⟨_, PySem.F.excBase_ValueError, h⟩
def viB (K : PySem.W.Frag) (C : Addr) : Bool := match PySem.W.findCls K (.ref C) (.type "type") "__init__" with
  | some (.val (.builtin b)) => decide (b = "ValueError.__init__")
  | _ => false
theorem viB_ok {K : PySem.W.Frag} {C : Addr} (h : viB K C = true) : PySem.W.findCls K (.ref C) (.type "type") "__init__" = some (.val (.builtin "ValueError.__init__")) := by
  unfold viB at h
  split at h
  · rename_i b e
    rw [e, of_decide_eq_true h]
  · cases h
def mroB (C : Addr) : List Value → Bool
  | m :: bm => decide (m = .ref C) && PySem.HandSPX.refsVE bm
  | [] => false
theorem mroB_ok {C : Addr} : ∀ {l : List Value}, mroB C l = true → ∃ bm, l = .ref C :: bm ∧ PySem.HandSPX.refsVE bm = true
  | [], h => by cases h
  | m :: bm, h => by
    obtain ⟨h1, h2⟩ := He.ba (show (decide (m = .ref C) && PySem.HandSPX.refsVE bm) = true from h)
    exact ⟨bm, by rw [of_decide_eq_true h1], h2⟩
def newB : Option Value → Bool
  | some (.builtin n) => decide (n = "ValueError.__new__")
  | _ => false
theorem newB_ok : ∀ {v : Option Value}, newB v = true → v = some (.builtin "ValueError.__new__") := by
  intro v h
  cases v with
  | none => cases h
  | some v =>
    cases v with
    | builtin n => rw [of_decide_eq_true (show decide (n = "ValueError.__new__") = true from h)]
    | _ => cases h
def slB : List (Option Value) → Bool
  | [_, _, _, _, v, _] => newB v
  | _ => false
theorem slB_ok : ∀ {l : List (Option Value)}, slB l = true → ∃ a b c d e, l = [a, b, c, d, some (.builtin "ValueError.__new__"), e]
  | [a, b, c, d, v, e], h => ⟨a, b, c, d, e, by rw [newB_ok (v := v) h]⟩
  | [], h => by cases h
  | [_], h => by cases h
  | [_, _], h => by cases h
  | [_, _, _], h => by cases h
  | [_, _, _, _], h => by cases h
  | [_, _, _, _, _], h => by cases h
  | _ :: _ :: _ :: _ :: _ :: _ :: _ :: _, h => by cases h
def cdB (C : Addr) (cd : ClassData) (sl : Array (Option Value)) : Bool := mroB C cd.mro && (cd.hasDict && (!cd.hasDel && slB sl.toList))
def exoB (K : PySem.W.Frag) (C : Addr) : Bool := match K.lookup C with
  | some ⟨.type t, _, .cls cd, sl⟩ => decide (t = "type") && cdB C cd sl
  | _ => false
theorem exoB_ok {K : PySem.W.Frag} {C : Addr} (h : exoB K C = true) : ∃ nm q N bs bm sn sub ab col dd k0 k1 k2 k3 k5, K.lookup C = some (excClassObj nm q C N bs bm true sn sub ab col dd k0 k1 k2 k3 k5 "ValueError.__new__") ∧ PySem.HandSPX.refsVE bm = true := by
  have hh : (match K.lookup C with
    | some ⟨.type t, _, .cls cd, sl⟩ => decide (t = "type") && cdB C cd sl
    | _ => false) = true := h
  cases e : K.lookup C with
  | none =>
    rw [e] at hh
    cases hh
  | some o =>
    rw [e] at hh
    obtain ⟨oc, od, dt, sl⟩ := o
    cases oc with
    | type t =>
      cases dt with
      | cls cd =>
        obtain ⟨h1, hh⟩ := He.ba (show (decide (t = "type") && cdB C cd sl) = true from hh)
        obtain ⟨h2, hh⟩ := He.ba (show (mroB C cd.mro && (cd.hasDict && (!cd.hasDel && slB sl.toList))) = true from hh)
        obtain ⟨h3, hh⟩ := He.ba hh
        obtain ⟨h4, h5⟩ := He.ba hh
        obtain ⟨n1, n2, n3, n4, n5, n6, n7, n8, n9, n10, n11⟩ := cd
        obtain ⟨l⟩ := sl
        obtain ⟨bm, rfl, q2⟩ := mroB_ok (show mroB C n3 = true from h2)
        obtain ⟨a, b, c, d, x, rfl⟩ := slB_ok (show slB l = true from h5)
        cases (show n6 = true from h3)
        cases (show n11 = false by
          cases n11 with
          | false => rfl
          | true => cases h4)
        cases of_decide_eq_true h1
        exact ⟨_, _, _, _, _, _, _, _, _, _, _, _, _, _, _, rfl, q2⟩
      | _ => cases hh
    | _ => cases dt <;> cases hh
theorem walk_ofX {l : PySem.W.OpenLaw} {n k : Nat} {q : Program} {loose : List Str} {XP : (Str → Option Value) → Heap → Prop} {YP : World → Heap → Prop} {d : DefRec} {CX : World → CXT} {x : Str}
    (hn : l.most = some n) (hn2 : n ≤ sizeLine) (hdf : d.params.defaults = []) (hr : Room k callerA)
    (F : ∀ (w : World) (mg : Str → Option Value) (fa : Addr) (h : Heap), YP w h → h.Ns mainGlobals mg → mg d.name = some (.ref fa) →
      ∃ (K : PySem.W.Frag) (fd : FuncData) (sp : Sp), K.In h ∧ (∀ (s : Shared) (u : Value), BindsTo s fd ⟨[u], []⟩ [(x, u)]) ∧
        (∀ (H : Hp) (a : Addr) (ns : List Int), ns.length ≤ n → Only H → SqL K H a (ns.map V.int) → sp [.ref a] H (fun v _ => v = .bl true) fun _ _ _ => False) ∧
        ∀ base : Heap, K.In base → base.Ns mainGlobals mg → FnOk l.prog w K mg base (CX w) k fa fd [x] sp)
    (hCX : ∀ (w : World) (H : Hp) (s : Shared) (e : Value) (s' : Shared), CX w [] H s (fun _ _ _ => False) e s' → False) :
    PySem.W.WalkO q loose XP YP l.row.toRowW d [] (fun f vs => PySem.call f vs) := by
  refine Att.attach_call hn hdf fun w s₀ s₁ mg mb fa o pm cd doc a vs ns G Y ho hd hcd hmg hobj hints hlen hg => ?_
  obtain ⟨K, fd, sp, KX, hb, hsp, hF⟩ := F w mg fa _ Y G.T.g hmg
  exact law_call KX G.T.g G.T.b G.T.builtins G.T.nolimit hg hobj hints (Nat.le_trans hlen hn2) hr hF hb (fun H hO hS => hsp H a ns hlen hO hS) fun H e s' => hCX w H s₁ e s'
end Hn

namespace Tk
open PySem PySem.Spec PyProof.Rows L2 Hf Mf
def topS (i : Nat) : Stmt := PySem.Challenge.pw_heightfractions_k42_weights_written.main.body.getD i (.Pass ⟨0, 0, 0, 0⟩)
def mthS (i j : Nat) : Stmt := match topS i with | .ClassDef (body := b) .. => b.getD j (.Pass ⟨0, 0, 0, 0⟩) | _ => .Pass ⟨0, 0, 0, 0⟩
local macro_rules | `(tactic| walk_at "bt") => `(tactic| first | assumption | exact Mf.Sz.btn (by assumption) | exact Mf.Sz.btd (by assumption) | exact Mf.Bt.lit (by decide +kernel) | exact Mf.Bt.neg (by walk_at "bt") | exact Mf.Bt.mul (by walk_at "bt") (by walk_at "bt"))
local macro_rules | `(tactic| walk_at "hf_bt") => `(tactic| exact Mf.Bt.mono (by walk_at "bt") (by omega))
local macro_rules | `(tactic| walk_at "hf_mul") => `(tactic| exact Mf.mul_ok (by walk_at "bt") (by walk_at "bt") (by omega))
local macro_rules | `(tactic| walk_at "hf_sz") => `(tactic| first | exact Mf.Sz.mono (by assumption) (by omega) | exact Mf.Sz.mono (by assumption) (by decide))
local macro_rules | `(tactic| walk_at "hf_sza") => `(tactic| first | assumption | exact Mf.SzA.mono (by assumption) (by decide))
local macro_rules | `(tactic| walk_at "hf_pl") => `(tactic| first | omega | (simp; omega))
local macro_rules | `(tactic| walk_at "hf_pc") => `(tactic| first | assumption | exact Mf.Pz.mono (by assumption) (by omega) (by omega))
local macro_rules | `(tactic| walk_at "hf_trim") => `(tactic| first | exact Mf.trim_trim _ | assumption)
local macro_rules | `(tactic| walk_at "hf_omega") => `(tactic| omega)
local macro_rules | `(tactic| walk_at "hf_mod") => `(tactic| first | decide | omega)
local macro_rules | `(tactic| walk_at "hf_rng") => `(tactic| first | decide | omega)
local macro_rules | `(tactic| walk_at "hf_len") => `(tactic| first | decide | (simp; done) | (simp; omega))
local macro_rules | `(tactic| walk_at "hf_len5") => `(tactic| first | decide | (simp; done) | (simp; omega))
local macro_rules | `(tactic| walk_at "hf_hin") => `(tactic| (intro i d hd p hp; simp only [List.mem_cons, List.not_mem_nil, or_false] at hp; first | (subst hp; simp; done) | (rcases hp with hp | hp <;> subst hp <;> simp; done)))
local macro_rules | `(tactic| walk_at "hf_lchl") => `(tactic| first | rfl | (simp; done) | (simp [rng_len]; done))
local macro_rules | `(tactic| walk_at "hf_rep") => `(tactic| first | decide | omega | (show 1 * _ ≤ 1000; omega) | (simp; omega))
local macro_rules | `(tactic| walk_at "hf_isi") => `(tactic| exact ⟨by decide +kernel, rfl⟩)
local macro_rules | `(tactic| walk_at "hf_ret") => `(tactic| rfl)
local macro_rules | `(tactic| walk_at "hf_no") => `(tactic| (exfalso; omega))
local macro_rules | `(tactic| walk_at "hf_shape") => `(tactic| first | rfl | exact Mf.sh_fr _ | exact Mf.sh_frsT _ | exact Mf.sh_frsL _ | exact Mf.sh_frsLL _)

abbrev S_shared_by (ds : List D) (r : Res) : Prop := ∃ a b : Int, ds = [.int a, .int b] ∧ r = .ok (.val (.int (Int.gcd a b : Nat)))
abbrev S_written (ds : List D) (r : Res) : Prop := ∃ q : Rat, ds = [dFr q] ∧ Sz 1900 q ∧ r = .ok (.val (.str (tS (wrL q))))
abbrev S_whole_read (ds : List D) (r : Res) : Prop := ∃ (l : List Nat) (n : Nat), ds = [.str (tS l)] ∧ l.length ≤ 90000 ∧ whR l = some n ∧ r = .ok (.val (.int (n : Int)))
abbrev S_whole_read_x (C_NoText : Addr) (ds : List D) (r : Res) : Prop := ∃ l : List Nat, ds = [.str (tS l)] ∧ l.length ≤ 90000 ∧ whR l = none ∧ r = .exc C_NoText [("part", .int 0)]
abbrev S_top_read (ds : List D) (r : Res) : Prop := ∃ (l : List Nat) (t : Int), ds = [.str (tS l)] ∧ l.length ≤ 90000 ∧ tpR l = some t ∧ r = .ok (.val (.int t))
abbrev S_top_read_x (C_NoText : Addr) (ds : List D) (r : Res) : Prop := ∃ l : List Nat, ds = [.str (tS l)] ∧ l.length ≤ 90000 ∧ tpR l = none ∧ r = .exc C_NoText [("part", .int 0)]
abbrev S_fraction_read (ds : List D) (r : Res) : Prop := ∃ (l : List Nat) (q : Rat), ds = [.str (tS l)] ∧ l.length ≤ 90000 ∧ frR l = some q ∧ r = .ok (.val (dFr q))
abbrev S_fraction_read_x (C_NoText : Addr) (ds : List D) (r : Res) : Prop := ∃ x : D, ds = [x] ∧ BadT x ∧ r = .exc C_NoText [("part", .int 0)]
abbrev S_weights_of (ds : List D) (r : Res) : Prop := ∃ lv dn : List Rat, ds = [.list (dFrs lv), .list (dFrs dn)] ∧ lv.length = dn.length + 1 ∧ dn.length ≤ 7 ∧ r = .ok (.val (dWt lv dn))
abbrev S_weights_of_x (C_NoWeights : Addr) (ds : List D) (r : Res) : Prop := ∃ lv dn : List Rat, ds = [.list (dFrs lv), .list (dFrs dn)] ∧ ¬ (lv.length = dn.length + 1 ∧ dn.length ≤ 7) ∧ r = .exc C_NoWeights []
abbrev S_row_text (ds : List D) (r : Res) : Prop := ∃ f : List Rat, ds = [.tuple (dFrs f)] ∧ SzA 1900 f ∧ f.length ≤ 30 ∧ r = .ok (.val (.str (tS (rwL f))))
abbrev S_weights_text (ds : List D) (r : Res) : Prop := ∃ lv dn : List Rat, ds = [dWt lv dn] ∧ SzA 1900 lv ∧ lv.length ≤ 30 ∧ SzA 1900 dn ∧ dn.length ≤ 30 ∧ r = .ok (.val (.str (tS (wtL lv dn))))
abbrev S_poly_text (ds : List D) (r : Res) : Prop := ∃ f : List Rat, ds = [.tuple (dFrs f)] ∧ SzA 1900 f ∧ f.length ≤ 30 ∧ r = .ok (.val (.str (tS (plL f))))
abbrev S_small_read (ds : List D) (r : Res) : Prop := ∃ l : List Nat, ds = [.str (tS l)] ∧ l.length ≤ 90000 ∧ r = .ok (.val (oFr (smR l)))
abbrev S_weights_read (ds : List D) (r : Res) : Prop := ∃ (l : List Nat) (lv dn : List Rat), ds = [.str (tS l)] ∧ l.length ≤ 90000 ∧ WtOk l lv dn ∧ r = .ok (.val (dWt lv dn))
abbrev S_weights_read_w (C_NoWeights : Addr) (ds : List D) (r : Res) : Prop := ∃ (l : List Nat) (lv dn : List Rat), ds = [.str (tS l)] ∧ l.length ≤ 90000 ∧ WtNw l lv dn ∧ r = .exc C_NoWeights []
abbrev S_weights_read_x (C_NoText : Addr) (ds : List D) (r : Res) : Prop := ∃ (l : List Nat) (p : Nat), ds = [.str (tS l)] ∧ l.length ≤ 90000 ∧ WtNo l p ∧ r = .exc C_NoText [("part", .int (p : Int))]
abbrev S_law_cell_at (ds : List D) (r : Res) : Prop := ∃ (ns : List Int) (k : Int), ds = [.list (ns.map PyData.int), .int k] ∧ ns.length ≤ 63 ∧ r = .ok (.val (.int (vCelN ns k)))
abbrev S_law_stir (ds : List D) (r : Res) : Prop := ∃ c k : Int, ds = [.int c, .int k] ∧ 0 ≤ k ∧ k ≤ 1000 ∧ r = .ok (.val (.int (vStir c k)))
abbrev S_law_drawn (ds : List D) (r : Res) : Prop := ∃ (ns : List Int) (k : Int), ds = [.list (ns.map PyData.int), .int k] ∧ ns.length ≤ 63 ∧ 0 ≤ k ∧ k ≤ 1000 ∧ r = .ok (.val (.int (vDrN ns k)))
abbrev S_law_divisor (ds : List D) (r : Res) : Prop := ∃ a b : Int, ds = [.int a, .int b] ∧ r = .ok (.val (.int (Int.gcd a b : Nat)))
abbrev S_law_low (ds : List D) (r : Res) : Prop := ∃ t b : Int, ds = [.int t, .int b] ∧ b ≠ 0 ∧ Bt 8999 b ∧ r = .ok (.val (dFr (Rat.divInt t b)))
abbrev S_law_number_by (ds : List D) (r : Res) : Prop := ∃ c : Int, ds = [.int c] ∧ r = .ok (.val (dFr (vNum c)))
abbrev S_law_text (ds : List D) (r : Res) : Prop := ∃ q : Rat, ds = [dFr q] ∧ Sz 1900 q ∧ r = .ok (.val (.str (tS (wrL q))))
abbrev S_law_row_text (ds : List D) (r : Res) : Prop := ∃ f : List Rat, ds = [.list (dFrs f)] ∧ SzA 1900 f ∧ f.length ≤ 30 ∧ r = .ok (.val (.str (tS (rwL f))))
abbrev S_law_row_textT (ds : List D) (r : Res) : Prop := ∃ f : List Rat, ds = [.tuple (dFrs f)] ∧ SzA 1900 f ∧ f.length ≤ 30 ∧ r = .ok (.val (.str (tS (rwL f))))
abbrev S_law_weights_text (ds : List D) (r : Res) : Prop := ∃ lv dn : List Rat, ds = [.list (dFrs lv), .list (dFrs dn)] ∧ SzA 1900 lv ∧ lv.length ≤ 30 ∧ SzA 1900 dn ∧ dn.length ≤ 30 ∧ r = .ok (.val (.str (tS (wtL lv dn))))
abbrev S_law_small (ds : List D) (r : Res) : Prop := ∃ c : Int, ds = [.int c] ∧ r = .ok (.val (dFr (vSm c)))
abbrev S_law_figures (ds : List D) (r : Res) : Prop := ∃ (l : List Nat) (m : Nat), ds = [.str (tS l), .int (m : Int)] ∧ l.length ≤ 90000 ∧ r = .ok (.val (oN (whM m l)))
abbrev S_law_read_by (ds : List D) (r : Res) : Prop := ∃ l : List Nat, ds = [.str (tS l), .int 6, .int 12] ∧ l.length ≤ 90000 ∧ r = .ok (.val (oFr (smR l)))
abbrev S_law_marks_NoText (C_NoText : Addr) (a : Addr) (c : Value) (d0 : Option Addr) (ds : List D) (r : Res) : Prop := ∃ x0 : D, EPt a d0 x0 ∧ ds = [x0] ∧ c = .ref C_NoText ∧ r = .ok (.newL ([.bool true, .bool false, .bool false, .bool false, .bool false, .bool false, .bool false, .bool false, .bool false, .bool false, .bool false, .bool false, .bool true, .bool false, .bool false, .bool false, .bool false, .bool false]))
abbrev S_law_marks_NoWeights (C_NoWeights : Addr) (a : Addr) (c : Value) (d0 : Option Addr) (ds : List D) (r : Res) : Prop := ∃ x0 : D, EPt a d0 x0 ∧ ds = [x0] ∧ c = .ref C_NoWeights ∧ r = .ok (.newL ([.bool true, .bool false, .bool false, .bool false, .bool false, .bool true, .bool false, .bool false, .bool false, .bool false, .bool false, .bool false, .bool false, .bool false, .bool false, .bool false, .bool false, .bool false]))
abbrev S_law_only (ds : List D) (r : Res) : Prop := ∃ j : Int, ds = [.int j] ∧ r = .ok (.newL (onlyB j))
abbrev S_law_sign (ds : List D) (r : Res) : Prop := ∃ c : Int, ds = [.int c] ∧ r = .ok (.any fun d => ∃ n : Nat, d = .str (tS [n]))
abbrev S_law_changed (ds : List D) (r : Res) : Prop := ∃ (l : List Nat) (c : Int), ds = [.str (tS l), .int c] ∧ l.length ≤ 40000 ∧ r = .ok (.any fun d => ∃ w : List Nat, d = .str (tS w) ∧ w.length ≤ 90000)
abbrev S_law_due_t (ds : List D) (r : Res) : Prop := ∃ (l : List Nat) (lv dn : List Rat), ds = [.str (tS l)] ∧ l.length ≤ 90000 ∧ WtOk l lv dn ∧ r = .ok (.val (dWt lv dn))
abbrev S_law_due_w (ds : List D) (r : Res) : Prop := ∃ (l : List Nat) (lv dn : List Rat), ds = [.str (tS l)] ∧ l.length ≤ 90000 ∧ WtNw l lv dn ∧ r = .ok (.val (.tuple [.list (onlyB 5), .none]))
abbrev S_law_due_n (ds : List D) (r : Res) : Prop := ∃ (l : List Nat) (p : Nat), ds = [.str (tS l)] ∧ l.length ≤ 90000 ∧ WtNo l p ∧ r = .ok (.val (.tuple [.list (onlyB 12), .int (p : Int)]))
abbrev S_law_asked_t (ds : List D) (r : Res) : Prop := ∃ (l : List Nat) (lv dn : List Rat), ds = [.str (tS l)] ∧ l.length ≤ 90000 ∧ WtOk l lv dn ∧ r = .ok (.val (dWt lv dn))
abbrev S_law_asked_n (C_NoText : Addr) (ds : List D) (r : Res) : Prop := ∃ (l : List Nat) (p : Nat), ds = [.str (tS l)] ∧ l.length ≤ 90000 ∧ WtNo l p ∧ r = .ok (.val (.tuple [.list ([.bool true, .bool false, .bool false, .bool false, .bool false, .bool false, .bool false, .bool false, .bool false, .bool false, .bool false, .bool false, .bool true, .bool false, .bool false, .bool false, .bool false, .bool false]), .int (p : Int)]))
abbrev S_law_asked_w (C_NoWeights : Addr) (ds : List D) (r : Res) : Prop := ∃ (l : List Nat) (lv dn : List Rat), ds = [.str (tS l)] ∧ l.length ≤ 90000 ∧ WtNw l lv dn ∧ r = .ok (.val (.tuple [.list ([.bool true, .bool false, .bool false, .bool false, .bool false, .bool true, .bool false, .bool false, .bool false, .bool false, .bool false, .bool false, .bool false, .bool false, .bool false, .bool false, .bool false, .bool false]), .none]))
abbrev S_poly_of (ds : List D) (r : Res) : Prop := ∃ f : List Rat, ds = [.list (dFrs f)] ∧ f.length ≤ 1000 ∧ r = .ok (.val (dPo (trim f)))
abbrev S_poly_ofT (ds : List D) (r : Res) : Prop := ∃ f : List Rat, ds = [.tuple (dFrs f)] ∧ f.length ≤ 1000 ∧ r = .ok (.val (dPo (trim f)))
abbrev S_law_spoilt (ds : List D) (r : Res) : Prop := ∃ (lv dn : List Rat) (c : Int), ds = [.list (dFrs lv), .list (dFrs dn), .int c] ∧ SzA 97 lv ∧ lv.length ≤ 9 ∧ 1 ≤ lv.length ∧ SzA 97 dn ∧ dn.length ≤ 9 ∧ r = .ok (.any fun d => ∃ w : List Nat, d = .str (tS w) ∧ w.length ≤ 90000)
abbrev S_law (ds : List D) (r : Res) : Prop := ∃ ns : List Int, ds = [.list (ns.map PyData.int)] ∧ ns.length ≤ 63 ∧ r = .ok (.val (.bool true))
section
variable {P : Program} {w : World} {K : PySem.W.Frag} {mg : Str → Option Value} {base : Heap}
theorem sc_shared_by : FnScope ["one", "other", "rest"] ["one", "other"] (defScope (topS 22)) := ⟨rfl, rfl, rfl, by decide +kernel, rfl, by decide +kernel, by decide +kernel⟩
theorem ok_shared_by  {zf : Addr} {zfd : FuncData} (zF : Fun K "shared_by" "shared_by" (topS 22) zf zfd) (m_abs : mg "abs" = none)     : FnOk P w K mg base (L2N.CX P w) 1 zf zfd ["one", "other"] (spF K (S_shared_by)) := by
  have sc := sc_shared_by
  refine fn_ok zF sc (by rintro ds r ⟨a, b, rfl, rfl⟩; rfl) ?_
  rintro zcd zAr zou zs zH zE hr ds r ⟨a, b, rfl, rfl⟩
  have hpo : PassesOwn (model P w) (cxOf (L2N.CX P w) P w K mg base ["one", "other", "rest"] "shared_by" (defScope (topS 22)) zf zcd zAr zou zs zH zE).A (cxOf (L2N.CX P w) P w K mg base ["one", "other", "rest"] "shared_by" (defScope (topS 22)) zf zcd zAr zou zs zH zE).env (cxOf (L2N.CX P w) P w K mg base ["one", "other", "rest"] "shared_by" (defScope (topS 22)) zf zcd zAr zou zs zH zE).xe := passes_of rfl
  have hu : Roomy (cxOf (L2N.CX P w) P w K mg base ["one", "other", "rest"] "shared_by" (defScope (topS 22)) zf zcd zAr zou zs zH zE) := hr.units
  refine ds_set (i := 0) (de_abs (by rfl) m_abs (de_var (n := 0) rfl (pv 0))) (ps_set sc.nd rfl (.inl rfl) pe_w) ?_
  refine ds_set (i := 1) (de_abs (by rfl) m_abs (de_var (n := 1) rfl (pv 1))) (ps_set sc.nd rfl (.inl rfl) pe_w) ?_
  refine ds_while (fun m Γ => ∃ (x y : Int) (c : Cell), Γ = [.d (.int x), .d (.int y), c] ∧ 0 ≤ x ∧ 0 ≤ y ∧ y.toNat = m ∧ Int.gcd x y = Int.gcd a b) hpo (if b < 0 then -b else b).toNat ?w0_1 ?st_1
  case w0_1 =>
    refine ⟨_, _, _, rfl, by split <;> omega, by split <;> omega, rfl, ?_⟩
    split <;> split <;> simp
  case st_1 =>
    rintro m Γ' ⟨x, y, c, rfl, hx, hy, hm, hg⟩
    refine ⟨_, (dt_cmp (dc_neI (de_var (n := 1) rfl (pv 1)) de_int)), fun t => ?y_1, fun t => ?n_1⟩
    case y_1 =>
      have hy' : 0 < y := by
        have : ¬ (y = 0) := by simpa using t
        omega
      refine ds_set (i := 2) (de_mod (de_var (n := 0) rfl (pv 0)) (de_var (n := 1) rfl (pv 1)) ?g1) (ps_set sc.nd rfl (.inl rfl) pe_w) ?_
      case g1 => exact hy'
      refine ds_set (i := 0) (de_var (n := 1) rfl (pv 1)) (ps_set sc.nd rfl (.inl rfl) pe_w) ?_
      refine ds_set (i := 1) (de_var (n := 2) rfl (pv 2)) (ps_set sc.nd rfl (.inl rfl) pe_w) ?_
      refine ds_nil ?_
      refine ⟨_, ?_, y, x % y, _, rfl, by omega, Int.emod_nonneg _ (by omega), rfl, ?_⟩
      · have := Int.emod_lt_of_pos x hy'
        have := Int.emod_nonneg x (show y ≠ 0 by omega)
        omega
      · rw [gcd_turn x y, hg]
    case n_1 =>
      have hy' : y = 0 := by simpa using t
      subst hy'
      refine ds_ret (de_var (n := 0) rfl (pv 0)) ?_
      show Res.ok _ = Res.ok _
      rw [← hg, Int.gcd_zero_right, Int.natAbs_of_nonneg hx]
theorem sc_written : FnScope ["a"] ["a"] (defScope (topS 23)) := ⟨rfl, rfl, rfl, by decide +kernel, rfl, by decide +kernel, by decide +kernel⟩
theorem ok_written  {zf : Addr} {zfd : FuncData} (zF : Fun K "written" "written" (topS 23) zf zfd) (m_str : mg "str" = none)     : FnOk P w K mg base (L2N.CX P w) 1 zf zfd ["a"] (spF K (S_written)) := by
  have sc := sc_written
  refine fn_ok zF sc (by rintro ds r ⟨q, rfl, hq, rfl⟩; rfl) ?_
  rintro zcd zAr zou zs zH zE hr ds r ⟨q, rfl, hq, rfl⟩
  have hpo : PassesOwn (model P w) (cxOf (L2N.CX P w) P w K mg base ["a"] "written" (defScope (topS 23)) zf zcd zAr zou zs zH zE).A (cxOf (L2N.CX P w) P w K mg base ["a"] "written" (defScope (topS 23)) zf zcd zAr zou zs zH zE).env (cxOf (L2N.CX P w) P w K mg base ["a"] "written" (defScope (topS 23)) zf zcd zAr zou zs zH zE).xe := passes_of rfl
  have hu : Roomy (cxOf (L2N.CX P w) P w K mg base ["a"] "written" (defScope (topS 23)) zf zcd zAr zou zs zH zE) := hr.units
  refine ds_when (dt_cmp (dc_eqI (de_ixT (de_var (n := 0) rfl (pv 0)) de_int rfl) de_int)) (fun t1 => ?y1) (fun t1 => ?n1)
  case y1 =>
    try simp only [decide_eq_true_eq, decide_eq_false_iff_not, Bool.not_eq_true', Bool.not_eq_false', Bool.and_eq_true, Bool.or_eq_true, Bool.and_eq_false_iff, Bool.or_eq_false_iff, Bool.not_eq_true, Bool.not_eq_false, Decidable.not_not] at t1
    refine ds_ret (de_strI (by rfl) m_str (de_ixT (de_var (n := 0) rfl (pv 0)) de_int rfl) ?g1) ?_
    case g1 => first | exact log_big hq.nu | exact log_big (n := q.den) hq.de
    show Res.ok (.val (.str (tS (wrL q)))) = Res.ok (.val (.str (tS _)))
    rw [wr_one t1]
  case n1 =>
    try simp only [decide_eq_true_eq, decide_eq_false_iff_not, Bool.not_eq_true', Bool.not_eq_false', Bool.and_eq_true, Bool.or_eq_true, Bool.and_eq_false_iff, Bool.or_eq_false_iff, Bool.not_eq_true, Bool.not_eq_false, Decidable.not_not] at t1
    refine ds_ret (de_catS (de_catS (de_strI (by rfl) m_str (de_ixT (de_var (n := 0) rfl (pv 0)) de_int rfl) ?g2) (DE.of de_str (show _ = PyData.str (tS [47]) from rfl)) ?g3) (de_strI (by rfl) m_str (de_ixT (de_var (n := 0) rfl (pv 0)) de_int rfl) ?g4) ?g5) ?_
    case g2 => first | exact log_big hq.nu | exact log_big (n := q.den) hq.de
    case g3 => first | exact wr_len1 hq | exact wr_len2 hq
    case g4 => first | exact log_big hq.nu | exact log_big (n := q.den) hq.de
    case g5 => first | exact wr_len1 hq | exact wr_len2 hq
    show Res.ok (.val (.str (tS (wrL q)))) = Res.ok (.val (.str (tS _)))
    rw [wr_two t1]
theorem sc_whole_read : FnScope ["figures", "sign"] ["figures"] (defScope (topS 24)) := ⟨rfl, rfl, rfl, by decide +kernel, rfl, by decide +kernel, by decide +kernel⟩
theorem ok_whole_read  {zf : Addr} {zfd : FuncData} (zF : Fun K "whole_read" "whole_read" (topS 24) zf zfd) (m_int : mg "int" = none) (m_len : mg "len" = none) (k_FIGURES : Kst K mg "FIGURES" (.str "0123456789")) (k_LONGEST : Kst K mg "LONGEST" (.int 30))    : FnOk P w K mg base (L2N.CX P w) 1 zf zfd ["figures"] (spF K (S_whole_read)) := by
  have sc := sc_whole_read
  refine fn_ok zF sc (by rintro ds r ⟨l, n, rfl, hl, hw, rfl⟩; rfl) ?_
  rintro zcd zAr zou zs zH zE hr ds r ⟨l, n, rfl, hl, hw, rfl⟩
  have hpo : PassesOwn (model P w) (cxOf (L2N.CX P w) P w K mg base ["figures", "sign"] "whole_read" (defScope (topS 24)) zf zcd zAr zou zs zH zE).A (cxOf (L2N.CX P w) P w K mg base ["figures", "sign"] "whole_read" (defScope (topS 24)) zf zcd zAr zou zs zH zE).env (cxOf (L2N.CX P w) P w K mg base ["figures", "sign"] "whole_read" (defScope (topS 24)) zf zcd zAr zou zs zH zE).xe := passes_of rfl
  have hu : Roomy (cxOf (L2N.CX P w) P w K mg base ["figures", "sign"] "whole_read" (defScope (topS 24)) zf zcd zAr zou zs zH zE) := hr.units
  refine ds_when (dt_or (dt_cmp (dc_lt (de_lenS (by rfl) m_len (de_var (n := 0) rfl (pv 0)) ?g1) de_int)) (fun q1 => (dw_or (dt_cmp (dc_gt (de_lenS (by rfl) m_len (de_var (n := 0) rfl (pv 0)) ?g2) (k_LONGEST.de (by rfl)))) (fun q2 => (dw_or1 (dt_and (dt_cmp (dc_eqS (de_ixS (de_var (n := 0) rfl (pv 0)) de_int ?g3 (at_head (of_decide_eq_false q1))) (DE.of de_str (show _ = PyData.str (tS [48]) from rfl)))) (fun q3 => (dw_and1 (dt_cmp (dc_gt (de_lenS (by rfl) m_len (de_var (n := 0) rfl (pv 0)) ?g5) de_int)))))))))) (fun t1 => ?y1) (fun t1 => ?n1)
  case g1 => exact Nat.le_trans hl (by decide)
  case g2 => exact Nat.le_trans hl (by decide)
  case g3 => exact Nat.le_trans hl (by decide)
  case g5 => exact Nat.le_trans hl (by decide)
  case y1 =>
    have e := (whN hw).1
    rw [← wh0_eq l] at e
    exact Bool.noConfusion (e.symm.trans t1)
    skip
  case n1 =>
    skip
    refine ds_for (fun i Γ' => ∃ c2, Γ' = [.d (.str (tS l)), c2]) (fun _ d => [(1, d)]) hpo rfl (di_str (de_var (n := 0) rfl (pv 0))) ?hg_1 ?h0_1 ?hb_1 ?hd_1
    case hg_1 =>
      exact fun i d _ => (dg_name (j := 1) (pg_name sc.nd rfl (.inl rfl)))
    case h0_1 =>
      exact ⟨_, rfl⟩
    case hb_1 =>
      rintro i d Γ' hi ⟨c2, rfl⟩
      obtain ⟨c, hc, rfl⟩ := signs_tS hi
      refine ds_when (dt_cmp (dc_notinS (de_var (n := 1) rfl (pv 1)) (DE.of (k_FIGURES.de (by rfl)) (show _ = PyData.str (tS [48, 49, 50, 51, 52, 53, 54, 55, 56, 57]) from rfl)))) (fun t2 => ?y2) (fun t2 => ?n2)
      case y2 =>
        have e := List.all_eq_true.mp (whN hw).2.1 c (List.mem_of_getElem? hc)
        rw [← in_fig] at e
        exact absurd t2 (by show ¬ ((!decide (c ∈ [48, 49, 50, 51, 52, 53, 54, 55, 56, 57])) = true); rw [e]; decide)
        skip
      case n2 =>
        skip
        refine ds_nil ?_
        exact ⟨_, rfl⟩
    case hd_1 =>
      rintro Γ' ⟨c2, rfl⟩
      refine ds_ret (de_intS (by rfl) m_int (de_var (n := 0) rfl (pv 0)) (wh_int hw) ?g7) ?_
      case g7 => exact Nat.le_trans (whN hw).2.2.2.2 (by decide)
      walk_at "hf_ret"
theorem sc_whole_read_x : FnScope ["figures", "sign"] ["figures"] (defScope (topS 24)) := ⟨rfl, rfl, rfl, by decide +kernel, rfl, by decide +kernel, by decide +kernel⟩
theorem ok_whole_read_x {C_NoText : Addr} {zf : Addr} {zfd : FuncData} (zF : Fun K "whole_read" "whole_read" (topS 24) zf zfd) (m_int : mg "int" = none) (m_len : mg "len" = none) (k_FIGURES : Kst K mg "FIGURES" (.str "0123456789")) (k_LONGEST : Kst K mg "LONGEST" (.int 30))   (Ff_NoText : EclF P w K mg base "NoText" C_NoText "part") : FnOk P w K mg base (L2N.CX P w) 3 zf zfd ["figures"] (spF K ((S_whole_read_x C_NoText))) := by
  have sc := sc_whole_read_x
  refine fn_ok zF sc (by rintro ds r ⟨l, rfl, hl, hw, rfl⟩; rfl) ?_
  rintro zcd zAr zou zs zH zE hr ds r ⟨l, rfl, hl, hw, rfl⟩
  have hpo : PassesOwn (model P w) (cxOf (L2N.CX P w) P w K mg base ["figures", "sign"] "whole_read" (defScope (topS 24)) zf zcd zAr zou zs zH zE).A (cxOf (L2N.CX P w) P w K mg base ["figures", "sign"] "whole_read" (defScope (topS 24)) zf zcd zAr zou zs zH zE).env (cxOf (L2N.CX P w) P w K mg base ["figures", "sign"] "whole_read" (defScope (topS 24)) zf zcd zAr zou zs zH zE).xe := passes_of rfl
  have hu : Roomy (cxOf (L2N.CX P w) P w K mg base ["figures", "sign"] "whole_read" (defScope (topS 24)) zf zcd zAr zou zs zH zE) := hr.units
  refine ds_when (dt_or (dt_cmp (dc_lt (de_lenS (by rfl) m_len (de_var (n := 0) rfl (pv 0)) ?g1) de_int)) (fun q1 => (dw_or (dt_cmp (dc_gt (de_lenS (by rfl) m_len (de_var (n := 0) rfl (pv 0)) ?g2) (k_LONGEST.de (by rfl)))) (fun q2 => (dw_or1 (dt_and (dt_cmp (dc_eqS (de_ixS (de_var (n := 0) rfl (pv 0)) de_int ?g3 (at_head (of_decide_eq_false q1))) (DE.of de_str (show _ = PyData.str (tS [48]) from rfl)))) (fun q3 => (dw_and1 (dt_cmp (dc_gt (de_lenS (by rfl) m_len (de_var (n := 0) rfl (pv 0)) ?g5) de_int)))))))))) (fun t1 => ?y1) (fun t1 => ?n1)
  case g1 => exact Nat.le_trans hl (by decide)
  case g2 => exact Nat.le_trans hl (by decide)
  case g3 => exact Nat.le_trans hl (by decide)
  case g5 => exact Nat.le_trans hl (by decide)
  case y1 =>
    skip
    refine ds_raiseF rfl Ff_NoText (hr.mono (by decide)) (by rfl) (da_cons de_int da_nil) ?_
    exact rfl
  case n1 =>
    have h0 : wh0 l = false := by rw [← wh0_eq l]; exact t1
    refine ds_for (fun i Γ' => ∃ c2, Γ' = [.d (.str (tS l)), c2] ∧ ∀ m, m < i → isF (l.getD m 0) = true) (fun _ d => [(1, d)]) hpo rfl (di_str (de_var (n := 0) rfl (pv 0))) ?hg_1 ?h0_1 ?hb_1 ?hd_1
    case hg_1 =>
      exact fun i d _ => (dg_name (j := 1) (pg_name sc.nd rfl (.inl rfl)))
    case h0_1 =>
      exact ⟨_, rfl, fun m h => absurd h (by omega)⟩
    case hb_1 =>
      rintro i d Γ' hi ⟨c2, rfl, hm⟩
      obtain ⟨c, hc, rfl⟩ := signs_tS hi
      refine ds_when (dt_cmp (dc_notinS (de_var (n := 1) rfl (pv 1)) (DE.of (k_FIGURES.de (by rfl)) (show _ = PyData.str (tS [48, 49, 50, 51, 52, 53, 54, 55, 56, 57]) from rfl)))) (fun t2 => ?y2) (fun t2 => ?n2)
      case y2 =>
        skip
        refine ds_raiseF rfl Ff_NoText (hr.mono (by decide)) (by rfl) (da_cons de_int da_nil) ?_
        exact rfl
      case n2 =>
        have h2 : isF c = true := by
          rw [← in_fig]
          have : (!decide (c ∈ [48, 49, 50, 51, 52, 53, 54, 55, 56, 57])) = false := t2
          generalize decide (c ∈ [48, 49, 50, 51, 52, 53, 54, 55, 56, 57]) = b at this ⊢
          cases b
          · cases this
          · rfl
        refine ds_nil ?_
        exact ⟨_, rfl, al_step hm hc h2⟩
    case hd_1 =>
      rintro Γ' ⟨c2, rfl, hm⟩
      exact (wh_bad hw h0 (by rw [signs_len] at hm; exact hm)).elim
theorem sc_top_read : FnScope ["word", "top"] ["word"] (defScope (topS 25)) := ⟨rfl, rfl, rfl, by decide +kernel, rfl, by decide +kernel, by decide +kernel⟩
theorem ok_top_read  {zf : Addr} {zfd : FuncData} (zF : Fun K "top_read" "top_read" (topS 25) zf zfd)   (h_whole_read : Has P w K mg base "whole_read" 1 S_whole_read)   : FnOk P w K mg base (L2N.CX P w) 2 zf zfd ["word"] (spF K (S_top_read)) := by
  have sc := sc_top_read
  refine fn_ok zF sc (by rintro ds r ⟨l, t, rfl, hl, ht, rfl⟩; rfl) ?_
  rintro zcd zAr zou zs zH zE hr ds r ⟨l, t, rfl, hl, ht, rfl⟩
  have hpo : PassesOwn (model P w) (cxOf (L2N.CX P w) P w K mg base ["word", "top"] "top_read" (defScope (topS 25)) zf zcd zAr zou zs zH zE).A (cxOf (L2N.CX P w) P w K mg base ["word", "top"] "top_read" (defScope (topS 25)) zf zcd zAr zou zs zH zE).env (cxOf (L2N.CX P w) P w K mg base ["word", "top"] "top_read" (defScope (topS 25)) zf zcd zAr zou zs zH zE).xe := passes_of rfl
  have hu : Roomy (cxOf (L2N.CX P w) P w K mg base ["word", "top"] "top_read" (defScope (topS 25)) zf zcd zAr zou zs zH zE) := hr.units
  refine ds_when (dt_cmp (dc_neS (de_slS (de_var (n := 0) rfl (pv 0)) do_none (do_some de_int) ?g1) (DE.of de_str (show _ = PyData.str (tS [45]) from rfl)))) (fun t1 => ?y1) (fun t1 => ?n1)
  case g1 => exact Nat.le_trans hl (by decide)
  case y1 =>
    have hb : dsB l = false := by
      rw [← dsB_cut]
      simpa using t1
    obtain ⟨n, hn, rfl⟩ := tp_no hb ht
    refine ds_ret (de_call h_whole_read (hr.mono (by decide)) (by rfl) (da_cons (de_var (n := 0) rfl (pv 0)) da_nil) ⟨_, n, rfl, ?g2, hn, rfl⟩) ?_
    case g2 => first | exact hl | exact cut_le hl _ _
    rfl
  case n1 =>
    have hb : dsB l = true := by
      rw [← dsB_cut]
      simpa using t1
    obtain ⟨n, hn, h0, rfl⟩ := tp_yes hb ht
    refine ds_set (i := 1) (de_call h_whole_read (hr.mono (by decide)) (by rfl) (da_cons (de_slS (de_var (n := 0) rfl (pv 0)) (do_some de_int) do_none ?g3) da_nil) ⟨_, n, rfl, ?g4, (by rw [cut_one45 hb]; exact hn), rfl⟩) (ps_set sc.nd rfl (.inl rfl) pe_w) ?_
    case g3 => exact Nat.le_trans hl (by decide)
    case g4 => first | exact hl | exact cut_le hl _ _
    refine ds_when (dt_cmp (dc_eqI (de_var (n := 1) rfl (pv 1)) de_int)) (fun t2 => ?y2) (fun t2 => ?n2)
    case y2 =>
      exact absurd t2 (by simpa using h0)
      skip
    case n2 =>
      skip
      refine ds_ret (de_neg (de_var (n := 1) rfl (pv 1))) ?_
      rfl
theorem sc_top_read_x : FnScope ["word", "top"] ["word"] (defScope (topS 25)) := ⟨rfl, rfl, rfl, by decide +kernel, rfl, by decide +kernel, by decide +kernel⟩
theorem ok_top_read_x {C_NoText : Addr} {zf : Addr} {zfd : FuncData} (zF : Fun K "top_read" "top_read" (topS 25) zf zfd)   (h_whole_read : Has P w K mg base "whole_read" 1 S_whole_read) (h_whole_read_x : Has P w K mg base "whole_read" 3 (S_whole_read_x C_NoText))  (Ff_NoText : EclF P w K mg base "NoText" C_NoText "part") : FnOk P w K mg base (L2N.CX P w) 4 zf zfd ["word"] (spF K ((S_top_read_x C_NoText))) := by
  have sc := sc_top_read_x
  refine fn_ok zF sc (by rintro ds r ⟨l, rfl, hl, ht, rfl⟩; rfl) ?_
  rintro zcd zAr zou zs zH zE hr ds r ⟨l, rfl, hl, ht, rfl⟩
  have hpo : PassesOwn (model P w) (cxOf (L2N.CX P w) P w K mg base ["word", "top"] "top_read" (defScope (topS 25)) zf zcd zAr zou zs zH zE).A (cxOf (L2N.CX P w) P w K mg base ["word", "top"] "top_read" (defScope (topS 25)) zf zcd zAr zou zs zH zE).env (cxOf (L2N.CX P w) P w K mg base ["word", "top"] "top_read" (defScope (topS 25)) zf zcd zAr zou zs zH zE).xe := passes_of rfl
  have hu : Roomy (cxOf (L2N.CX P w) P w K mg base ["word", "top"] "top_read" (defScope (topS 25)) zf zcd zAr zou zs zH zE) := hr.units
  rcases tp_none ht with ⟨hb, hw⟩ | ⟨hb, hw⟩ | ⟨hb, hw⟩
  ·
    refine ds_when (dt_cmp (dc_neS (de_slS (de_var (n := 0) rfl (pv 0)) do_none (do_some de_int) ?g1) (DE.of de_str (show _ = PyData.str (tS [45]) from rfl)))) (fun t1 => ?y1) (fun t1 => ?n1)
    case g1 => exact Nat.le_trans hl (by decide)
    case y1 =>
      skip
      refine ds_retX (dx_call h_whole_read_x (hr.mono (by decide)) (by rfl) (da_cons (de_var (n := 0) rfl (pv 0)) da_nil) ⟨_, rfl, ?g2, hw, rfl⟩) ?_
      case g2 => first | exact hl | exact cut_le hl _ _
      exact rfl
    case n1 =>
      rw [dsB_cut, hb] at t1; cases t1
      skip
  ·
    refine ds_when (dt_cmp (dc_neS (de_slS (de_var (n := 0) rfl (pv 0)) do_none (do_some de_int) ?g3) (DE.of de_str (show _ = PyData.str (tS [45]) from rfl)))) (fun t2 => ?y2) (fun t2 => ?n2)
    case g3 => exact Nat.le_trans hl (by decide)
    case y2 =>
      rw [dsB_cut, hb] at t2; cases t2
      skip
    case n2 =>
      skip
      refine ds_setX (i := 1) (dx_call h_whole_read_x (hr.mono (by decide)) (by rfl) (da_cons (de_slS (de_var (n := 0) rfl (pv 0)) (do_some de_int) do_none ?g4) da_nil) ⟨_, rfl, ?g5, (by rw [cut_one45 hb]; exact hw), rfl⟩) (ps_set sc.nd rfl (.inl rfl) pe_w) ?_
      case g4 => exact Nat.le_trans hl (by decide)
      case g5 => first | exact hl | exact cut_le hl _ _
      exact rfl
  ·
    refine ds_when (dt_cmp (dc_neS (de_slS (de_var (n := 0) rfl (pv 0)) do_none (do_some de_int) ?g6) (DE.of de_str (show _ = PyData.str (tS [45]) from rfl)))) (fun t3 => ?y3) (fun t3 => ?n3)
    case g6 => exact Nat.le_trans hl (by decide)
    case y3 =>
      rw [dsB_cut, hb] at t3; cases t3
      skip
    case n3 =>
      skip
      refine ds_set (i := 1) (de_call h_whole_read (hr.mono (by decide)) (by rfl) (da_cons (de_slS (de_var (n := 0) rfl (pv 0)) (do_some de_int) do_none ?g7) da_nil) ⟨_, 0, rfl, ?g8, (by rw [cut_one45 hb]; exact hw), rfl⟩) (ps_set sc.nd rfl (.inl rfl) pe_w) ?_
      case g7 => exact Nat.le_trans hl (by decide)
      case g8 => first | exact hl | exact cut_le hl _ _
      refine ds_when (dt_cmp (dc_eqI (de_var (n := 1) rfl (pv 1)) de_int)) (fun t4 => ?y4) (fun t4 => ?n4)
      case y4 =>
        skip
        refine ds_raiseF rfl Ff_NoText (hr.mono (by decide)) (by rfl) (da_cons de_int da_nil) ?_
        exact rfl
      case n4 =>
        exact absurd t4 (by decide)
        skip
theorem sc_fraction_read : FnScope ["thing", "parts", "top", "bottom"] ["thing"] (defScope (topS 26)) := ⟨rfl, rfl, rfl, by decide +kernel, rfl, by decide +kernel, by decide +kernel⟩
theorem ok_fraction_read  {zf : Addr} {zfd : FuncData} (zF : Fun K "fraction_read" "fraction_read" (topS 26) zf zfd) (m_isinstance : mg "isinstance" = none) (m_len : mg "len" = none) (m_str : mg "str" = none)  (h_shared_by : Has P w K mg base "shared_by" 1 S_shared_by) (h_whole_read : Has P w K mg base "whole_read" 1 S_whole_read) (h_top_read : Has P w K mg base "top_read" 2 S_top_read)   : FnOk P w K mg base (L2N.CX P w) 3 zf zfd ["thing"] (spF K (S_fraction_read)) := by
  have sc := sc_fraction_read
  refine fn_ok zF sc (by rintro ds r ⟨l, q, rfl, hl, hq, rfl⟩; rfl) ?_
  rintro zcd zAr zou zs zH zE hr ds r ⟨l, q, rfl, hl, hq, rfl⟩
  have hpo : PassesOwn (model P w) (cxOf (L2N.CX P w) P w K mg base ["thing", "parts", "top", "bottom"] "fraction_read" (defScope (topS 26)) zf zcd zAr zou zs zH zE).A (cxOf (L2N.CX P w) P w K mg base ["thing", "parts", "top", "bottom"] "fraction_read" (defScope (topS 26)) zf zcd zAr zou zs zH zE).env (cxOf (L2N.CX P w) P w K mg base ["thing", "parts", "top", "bottom"] "fraction_read" (defScope (topS 26)) zf zcd zAr zou zs zH zE).xe := passes_of rfl
  have hu : Roomy (cxOf (L2N.CX P w) P w K mg base ["thing", "parts", "top", "bottom"] "fraction_read" (defScope (topS 26)) zf zcd zAr zou zs zH zE) := hr.units
  refine ds_when (dt_not (dt_val (de_isi (S := "str") (m := true) (by rfl) m_isinstance (by rfl) m_str (by decide +kernel) (de_var (n := 0) rfl (pv 0)) (by exact ⟨(by decide +kernel : kitB "str" "str" = some true), rfl⟩)))) (fun t1 => ?y1) (fun t1 => ?n1)
  case y1 =>
    exact absurd t1 (by first | decide | simp [Hf.isNon])
    skip
  case n1 =>
    skip
    refine ds_setN (i := 1) (dn_split (de_var (n := 0) rfl (pv 0)) (DE.of de_str (show _ = PyData.str (tS [47]) from rfl)) (by decide) (by decide) ?g1 (pe_split pe_w pe_w)) (ps_set sc.nd rfl (.inl rfl) pe_w) ?_
    case g1 => exact Nat.le_trans hl (by decide)
    rcases fr_cases hq with ⟨a, t, hp, ha, rfl⟩ | ⟨a, c, t, n, hp, ha, hc, h2, hg, rfl, hd⟩
    ·
      rw [show wsD (TL.spl [47] 0 [] l) = wsD (pts l) from rfl, hp]
      refine ds_when (dt_cmp (dc_gt (de_lenM (by rfl) m_len (dl_var (n := 1) rfl (pv 1))) de_int)) (fun t2 => ?y2) (fun t2 => ?n2)
      case y2 =>
        exact absurd t2 (by simp)
        skip
      case n2 =>
        skip
        refine ds_set (i := 2) (de_call h_top_read (hr.mono (by decide)) (by rfl) (da_cons (de_ixM (dl_var (n := 1) rfl (pv 1)) de_int (rfl)) da_nil) ⟨_, t, rfl, ?g3, ha, rfl⟩) (ps_set sc.nd rfl (.inl rfl) pe_w) ?_
        case g3 => first | exact Nat.le_trans (pts_len l _ (by rw [hp]; exact .head _)) hl | exact Nat.le_trans (pts_len l _ (by rw [hp]; exact .tail _ (.head _))) hl
        refine ds_when (dt_cmp (dc_eqI (de_lenM (by rfl) m_len (dl_var (n := 1) rfl (pv 1))) de_int)) (fun t3 => ?y3) (fun t3 => ?n3)
        case y3 =>
          skip
          refine ds_ret (de_frI (de_var (n := 2) rfl (pv 2))) ?_
          exact rfl
        case n3 =>
          exact absurd t3 (by simp)
          skip
    ·
      rw [show wsD (TL.spl [47] 0 [] l) = wsD (pts l) from rfl, hp]
      refine ds_when (dt_cmp (dc_gt (de_lenM (by rfl) m_len (dl_var (n := 1) rfl (pv 1))) de_int)) (fun t4 => ?y4) (fun t4 => ?n4)
      case y4 =>
        exact absurd t4 (by simp)
        skip
      case n4 =>
        skip
        refine ds_set (i := 2) (de_call h_top_read (hr.mono (by decide)) (by rfl) (da_cons (de_ixM (dl_var (n := 1) rfl (pv 1)) de_int (rfl)) da_nil) ⟨_, _, rfl, ?g5, ha, rfl⟩) (ps_set sc.nd rfl (.inl rfl) pe_w) ?_
        case g5 => first | exact Nat.le_trans (pts_len l _ (by rw [hp]; exact .head _)) hl | exact Nat.le_trans (pts_len l _ (by rw [hp]; exact .tail _ (.head _))) hl
        refine ds_when (dt_cmp (dc_eqI (de_lenM (by rfl) m_len (dl_var (n := 1) rfl (pv 1))) de_int)) (fun t5 => ?y5) (fun t5 => ?n5)
        case y5 =>
          exact absurd t5 (by simp)
          skip
        case n5 =>
          skip
          refine ds_set (i := 3) (de_call h_whole_read (hr.mono (by decide)) (by rfl) (da_cons (de_ixM (dl_var (n := 1) rfl (pv 1)) de_int (rfl)) da_nil) ⟨_, n, rfl, ?g7, hc, rfl⟩) (ps_set sc.nd rfl (.inl rfl) pe_w) ?_
          case g7 => first | exact Nat.le_trans (pts_len l _ (by rw [hp]; exact .head _)) hl | exact Nat.le_trans (pts_len l _ (by rw [hp]; exact .tail _ (.head _))) hl
          refine ds_when (dt_or (dt_cmp (dc_lt (de_var (n := 3) rfl (pv 3)) de_int)) (fun q1 => (dw_or1 (dt_cmp (dc_neI (de_call h_shared_by (hr.mono (by decide)) (by rfl) (da_cons (de_var (n := 2) rfl (pv 2)) (da_cons (de_var (n := 3) rfl (pv 3)) da_nil)) ⟨_, _, rfl, rfl⟩) de_int))))) (fun t6 => ?y6) (fun t6 => ?n6)
          case y6 =>
            exact (fr_t t6 h2 hg).elim
            skip
          case n6 =>
            skip
            refine ds_ret (de_tup (da_cons (de_var (n := 2) rfl (pv 2)) (da_cons (de_var (n := 3) rfl (pv 3)) da_nil)) (Nat.le_of_ble_eq_true rfl)) ?_
            show Res.ok (.val (dFr q)) = Res.ok (.val _)
            rw [← hd]
theorem sc_fraction_read_x : FnScope ["thing", "parts", "top", "bottom"] ["thing"] (defScope (topS 26)) := ⟨rfl, rfl, rfl, by decide +kernel, rfl, by decide +kernel, by decide +kernel⟩
theorem ok_fraction_read_x {C_NoText : Addr} {zf : Addr} {zfd : FuncData} (zF : Fun K "fraction_read" "fraction_read" (topS 26) zf zfd) (m_isinstance : mg "isinstance" = none) (m_len : mg "len" = none) (m_str : mg "str" = none)  (h_shared_by : Has P w K mg base "shared_by" 1 S_shared_by) (h_whole_read : Has P w K mg base "whole_read" 1 S_whole_read) (h_whole_read_x : Has P w K mg base "whole_read" 3 (S_whole_read_x C_NoText)) (h_top_read : Has P w K mg base "top_read" 2 S_top_read) (h_top_read_x : Has P w K mg base "top_read" 4 (S_top_read_x C_NoText))  (Ff_NoText : EclF P w K mg base "NoText" C_NoText "part") : FnOk P w K mg base (L2N.CX P w) 5 zf zfd ["thing"] (spF K ((S_fraction_read_x C_NoText))) := by
  have sc := sc_fraction_read_x
  refine fn_ok zF sc (by rintro ds r ⟨x, rfl, hx, rfl⟩; rfl) ?_
  rintro zcd zAr zou zs zH zE hr ds r ⟨x, rfl, hx, rfl⟩
  have hpo : PassesOwn (model P w) (cxOf (L2N.CX P w) P w K mg base ["thing", "parts", "top", "bottom"] "fraction_read" (defScope (topS 26)) zf zcd zAr zou zs zH zE).A (cxOf (L2N.CX P w) P w K mg base ["thing", "parts", "top", "bottom"] "fraction_read" (defScope (topS 26)) zf zcd zAr zou zs zH zE).env (cxOf (L2N.CX P w) P w K mg base ["thing", "parts", "top", "bottom"] "fraction_read" (defScope (topS 26)) zf zcd zAr zou zs zH zE).xe := passes_of rfl
  have hu : Roomy (cxOf (L2N.CX P w) P w K mg base ["thing", "parts", "top", "bottom"] "fraction_read" (defScope (topS 26)) zf zcd zAr zou zs zH zE) := hr.units
  rcases hx with ⟨l, rfl, hl, hq⟩ | ho
  ·
    refine ds_when (dt_not (dt_val (de_isi (S := "str") (m := true) (by rfl) m_isinstance (by rfl) m_str (by decide +kernel) (de_var (n := 0) rfl (pv 0)) (by exact ⟨(by decide +kernel : kitB "str" "str" = some true), rfl⟩)))) (fun t1 => ?y1) (fun t1 => ?n1)
    case y1 =>
      exact absurd t1 (by first | decide | simp [Hf.isNon])
      skip
    case n1 =>
      skip
      refine ds_setN (i := 1) (dn_split (de_var (n := 0) rfl (pv 0)) (DE.of de_str (show _ = PyData.str (tS [47]) from rfl)) (by decide) (by decide) ?g1 (pe_split pe_w pe_w)) (ps_set sc.nd rfl (.inl rfl) pe_w) ?_
      case g1 => exact Nat.le_trans hl (by decide)
      rcases fr_none hq with ⟨a, b, c, r, hp⟩ | ⟨a, hp, ha⟩ | ⟨a, c, hp, ha⟩ | ⟨a, c, t, hp, ha, hc⟩ | ⟨a, c, t, n, hp, ha, hc, hg⟩
      ·
        rw [show wsD (TL.spl [47] 0 [] l) = wsD (pts l) from rfl, hp]
        refine ds_when (dt_cmp (dc_gt (de_lenM (by rfl) m_len (dl_var (n := 1) rfl (pv 1))) de_int)) (fun t2 => ?y2) (fun t2 => ?n2)
        case y2 =>
          skip
          refine ds_raiseF rfl Ff_NoText (hr.mono (by decide)) (by rfl) (da_cons de_int da_nil) ?_
          exact rfl
        case n2 =>
          exact absurd t2 (by simp; omega)
          skip
      ·
        rw [show wsD (TL.spl [47] 0 [] l) = wsD (pts l) from rfl, hp]
        refine ds_when (dt_cmp (dc_gt (de_lenM (by rfl) m_len (dl_var (n := 1) rfl (pv 1))) de_int)) (fun t3 => ?y3) (fun t3 => ?n3)
        case y3 =>
          exact absurd t3 (by simp)
          skip
        case n3 =>
          skip
          refine ds_setX (i := 2) (dx_call h_top_read_x (hr.mono (by decide)) (by rfl) (da_cons (de_ixM (dl_var (n := 1) rfl (pv 1)) de_int (rfl)) da_nil) ⟨_, rfl, ?g3, ha, rfl⟩) (ps_set sc.nd rfl (.inl rfl) pe_w) ?_
          case g3 => first | exact Nat.le_trans (pts_len l _ (by rw [hp]; exact .head _)) hl | exact Nat.le_trans (pts_len l _ (by rw [hp]; exact .tail _ (.head _))) hl
          exact rfl
      ·
        rw [show wsD (TL.spl [47] 0 [] l) = wsD (pts l) from rfl, hp]
        refine ds_when (dt_cmp (dc_gt (de_lenM (by rfl) m_len (dl_var (n := 1) rfl (pv 1))) de_int)) (fun t4 => ?y4) (fun t4 => ?n4)
        case y4 =>
          exact absurd t4 (by simp)
          skip
        case n4 =>
          skip
          refine ds_setX (i := 2) (dx_call h_top_read_x (hr.mono (by decide)) (by rfl) (da_cons (de_ixM (dl_var (n := 1) rfl (pv 1)) de_int (rfl)) da_nil) ⟨_, rfl, ?g5, ha, rfl⟩) (ps_set sc.nd rfl (.inl rfl) pe_w) ?_
          case g5 => first | exact Nat.le_trans (pts_len l _ (by rw [hp]; exact .head _)) hl | exact Nat.le_trans (pts_len l _ (by rw [hp]; exact .tail _ (.head _))) hl
          exact rfl
      ·
        rw [show wsD (TL.spl [47] 0 [] l) = wsD (pts l) from rfl, hp]
        refine ds_when (dt_cmp (dc_gt (de_lenM (by rfl) m_len (dl_var (n := 1) rfl (pv 1))) de_int)) (fun t5 => ?y5) (fun t5 => ?n5)
        case y5 =>
          exact absurd t5 (by simp)
          skip
        case n5 =>
          skip
          refine ds_set (i := 2) (de_call h_top_read (hr.mono (by decide)) (by rfl) (da_cons (de_ixM (dl_var (n := 1) rfl (pv 1)) de_int (rfl)) da_nil) ⟨_, t, rfl, ?g7, ha, rfl⟩) (ps_set sc.nd rfl (.inl rfl) pe_w) ?_
          case g7 => first | exact Nat.le_trans (pts_len l _ (by rw [hp]; exact .head _)) hl | exact Nat.le_trans (pts_len l _ (by rw [hp]; exact .tail _ (.head _))) hl
          refine ds_when (dt_cmp (dc_eqI (de_lenM (by rfl) m_len (dl_var (n := 1) rfl (pv 1))) de_int)) (fun t6 => ?y6) (fun t6 => ?n6)
          case y6 =>
            exact absurd t6 (by simp)
            skip
          case n6 =>
            skip
            refine ds_setX (i := 3) (dx_call h_whole_read_x (hr.mono (by decide)) (by rfl) (da_cons (de_ixM (dl_var (n := 1) rfl (pv 1)) de_int (rfl)) da_nil) ⟨_, rfl, ?g9, hc, rfl⟩) (ps_set sc.nd rfl (.inl rfl) pe_w) ?_
            case g9 => first | exact Nat.le_trans (pts_len l _ (by rw [hp]; exact .head _)) hl | exact Nat.le_trans (pts_len l _ (by rw [hp]; exact .tail _ (.head _))) hl
            exact rfl
      ·
        rw [show wsD (TL.spl [47] 0 [] l) = wsD (pts l) from rfl, hp]
        refine ds_when (dt_cmp (dc_gt (de_lenM (by rfl) m_len (dl_var (n := 1) rfl (pv 1))) de_int)) (fun t7 => ?y7) (fun t7 => ?n7)
        case y7 =>
          exact absurd t7 (by simp)
          skip
        case n7 =>
          skip
          refine ds_set (i := 2) (de_call h_top_read (hr.mono (by decide)) (by rfl) (da_cons (de_ixM (dl_var (n := 1) rfl (pv 1)) de_int (rfl)) da_nil) ⟨_, t, rfl, ?g11, ha, rfl⟩) (ps_set sc.nd rfl (.inl rfl) pe_w) ?_
          case g11 => first | exact Nat.le_trans (pts_len l _ (by rw [hp]; exact .head _)) hl | exact Nat.le_trans (pts_len l _ (by rw [hp]; exact .tail _ (.head _))) hl
          refine ds_when (dt_cmp (dc_eqI (de_lenM (by rfl) m_len (dl_var (n := 1) rfl (pv 1))) de_int)) (fun t8 => ?y8) (fun t8 => ?n8)
          case y8 =>
            exact absurd t8 (by simp)
            skip
          case n8 =>
            skip
            refine ds_set (i := 3) (de_call h_whole_read (hr.mono (by decide)) (by rfl) (da_cons (de_ixM (dl_var (n := 1) rfl (pv 1)) de_int (rfl)) da_nil) ⟨_, n, rfl, ?g13, hc, rfl⟩) (ps_set sc.nd rfl (.inl rfl) pe_w) ?_
            case g13 => first | exact Nat.le_trans (pts_len l _ (by rw [hp]; exact .head _)) hl | exact Nat.le_trans (pts_len l _ (by rw [hp]; exact .tail _ (.head _))) hl
            refine ds_when (dt_or (dt_cmp (dc_lt (de_var (n := 3) rfl (pv 3)) de_int)) (fun q1 => (dw_or1 (dt_cmp (dc_neI (de_call h_shared_by (hr.mono (by decide)) (by rfl) (da_cons (de_var (n := 2) rfl (pv 2)) (da_cons (de_var (n := 3) rfl (pv 3)) da_nil)) ⟨_, _, rfl, rfl⟩) de_int))))) (fun t9 => ?y9) (fun t9 => ?n9)
            case y9 =>
              skip
              refine ds_raiseF rfl Ff_NoText (hr.mono (by decide)) (by rfl) (da_cons de_int da_nil) ?_
              exact rfl
            case n9 =>
              exact (hg (fr_f t9)).elim
              skip
  ·
    refine ds_when (dt_not (dt_val (de_isE (S := "str") (m := false) (by rfl) m_isinstance (by rfl) m_str (by decide +kernel) (de_var (n := 0) rfl (pv 0)) ?g14))) (fun t10 => ?y10) (fun t10 => ?n10)
    case g14 => exact ho
    case y10 =>
      skip
      refine ds_raiseF rfl Ff_NoText (hr.mono (by decide)) (by rfl) (da_cons de_int da_nil) ?_
      exact rfl
    case n10 =>
      exact absurd t10 (by first | decide | simp [Hf.isNon])
      skip
theorem sc_weights_of : FnScope ["levels", "downs"] ["levels", "downs"] (defScope (topS 29)) := ⟨rfl, rfl, rfl, by decide +kernel, rfl, by decide +kernel, by decide +kernel⟩
theorem ok_weights_of  {zf : Addr} {zfd : FuncData} (zF : Fun K "weights_of" "weights_of" (topS 29) zf zfd) (m_len : mg "len" = none) (m_tuple : mg "tuple" = none) (k_GREATEST : Kst K mg "GREATEST" (.int 7))    : FnOk P w K mg base (L2N.CX P w) 1 zf zfd ["levels", "downs"] (spF K (S_weights_of)) := by
  have sc := sc_weights_of
  refine fn_ok zF sc (by rintro ds r ⟨lv, dn, rfl, ld, l7, rfl⟩; rfl) ?_
  rintro zcd zAr zou zs zH zE hr ds r ⟨lv, dn, rfl, ld, l7, rfl⟩
  have hpo : PassesOwn (model P w) (cxOf (L2N.CX P w) P w K mg base ["levels", "downs"] "weights_of" (defScope (topS 29)) zf zcd zAr zou zs zH zE).A (cxOf (L2N.CX P w) P w K mg base ["levels", "downs"] "weights_of" (defScope (topS 29)) zf zcd zAr zou zs zH zE).env (cxOf (L2N.CX P w) P w K mg base ["levels", "downs"] "weights_of" (defScope (topS 29)) zf zcd zAr zou zs zH zE).xe := passes_of rfl
  have hu : Roomy (cxOf (L2N.CX P w) P w K mg base ["levels", "downs"] "weights_of" (defScope (topS 29)) zf zcd zAr zou zs zH zE) := hr.units
  refine ds_when (dt_or (dt_cmp (dc_neI (de_lenL (by rfl) m_len (de_var (n := 0) rfl (pv 0))) (de_add (de_lenL (by rfl) m_len (de_var (n := 1) rfl (pv 1))) de_int))) (fun q1 => (dw_or1 (dt_cmp (dc_gt (de_lenL (by rfl) m_len (de_var (n := 1) rfl (pv 1))) (k_GREATEST.de (by rfl))))))) (fun t1 => ?y1) (fun t1 => ?n1)
  case y1 =>
    exact absurd t1 (by simp [ld]; omega)
    skip
  case n1 =>
    skip
    refine ds_ret (de_tup (da_cons (de_tuple (by rfl) m_tuple (de_var (n := 0) rfl (pv 0)) (.inl rfl)) (da_cons (de_tuple (by rfl) m_tuple (de_var (n := 1) rfl (pv 1)) (.inl rfl)) da_nil)) (Nat.le_of_ble_eq_true rfl)) ?_
    walk_at "hf_ret"
theorem sc_weights_of_x : FnScope ["levels", "downs"] ["levels", "downs"] (defScope (topS 29)) := ⟨rfl, rfl, rfl, by decide +kernel, rfl, by decide +kernel, by decide +kernel⟩
theorem ok_weights_of_x {C_NoWeights : Addr} {zf : Addr} {zfd : FuncData} (zF : Fun K "weights_of" "weights_of" (topS 29) zf zfd) (m_len : mg "len" = none) (m_tuple : mg "tuple" = none) (k_GREATEST : Kst K mg "GREATEST" (.int 7))   (xf_NoWeights : Ecl K mg "NoWeights" C_NoWeights) : FnOk P w K mg base (L2N.CX P w) 1 zf zfd ["levels", "downs"] (spF K ((S_weights_of_x C_NoWeights))) := by
  have sc := sc_weights_of_x
  refine fn_ok zF sc (by rintro ds r ⟨lv, dn, rfl, hx, rfl⟩; rfl) ?_
  rintro zcd zAr zou zs zH zE hr ds r ⟨lv, dn, rfl, hx, rfl⟩
  have hpo : PassesOwn (model P w) (cxOf (L2N.CX P w) P w K mg base ["levels", "downs"] "weights_of" (defScope (topS 29)) zf zcd zAr zou zs zH zE).A (cxOf (L2N.CX P w) P w K mg base ["levels", "downs"] "weights_of" (defScope (topS 29)) zf zcd zAr zou zs zH zE).env (cxOf (L2N.CX P w) P w K mg base ["levels", "downs"] "weights_of" (defScope (topS 29)) zf zcd zAr zou zs zH zE).xe := passes_of rfl
  have hu : Roomy (cxOf (L2N.CX P w) P w K mg base ["levels", "downs"] "weights_of" (defScope (topS 29)) zf zcd zAr zou zs zH zE) := hr.units
  refine ds_when (dt_or (dt_cmp (dc_neI (de_lenL (by rfl) m_len (de_var (n := 0) rfl (pv 0))) (de_add (de_lenL (by rfl) m_len (de_var (n := 1) rfl (pv 1))) de_int))) (fun q1 => (dw_or1 (dt_cmp (dc_gt (de_lenL (by rfl) m_len (de_var (n := 1) rfl (pv 1))) (k_GREATEST.de (by rfl))))))) (fun t1 => ?y1) (fun t1 => ?n1)
  case y1 =>
    skip
    refine ds_raiseOwn rfl xf_NoWeights (by rfl) ?_
    exact rfl
  case n1 =>
    exfalso
    rw [show (dFrs lv).length = lv.length by simp [dFrs], show (dFrs dn).length = dn.length by simp [dFrs]] at t1
    simp only [Bool.or_eq_false_iff, Bool.not_eq_false', decide_eq_true_eq, decide_eq_false_iff_not] at t1
    omega
    skip
theorem sc_row_text : FnScope ["numbers", "number"] ["numbers"] (defScope (topS 33)) := ⟨rfl, rfl, rfl, by decide +kernel, rfl, by decide +kernel, by decide +kernel⟩
theorem ok_row_text  {zf : Addr} {zfd : FuncData} (zF : Fun K "row_text" "row_text" (topS 33) zf zfd)   (h_written : Has P w K mg base "written" 1 S_written)   : FnOk P w K mg base (L2N.CX P w) 2 zf zfd ["numbers"] (spF K (S_row_text)) := by
  have sc := sc_row_text
  refine fn_ok zF sc (by rintro ds r ⟨f, rfl, hz, hl, rfl⟩; rfl) ?_
  rintro zcd zAr zou zs zH zE hr ds r ⟨f, rfl, hz, hl, rfl⟩
  have hpo : PassesOwn (model P w) (cxOf (L2N.CX P w) P w K mg base ["numbers", "number"] "row_text" (defScope (topS 33)) zf zcd zAr zou zs zH zE).A (cxOf (L2N.CX P w) P w K mg base ["numbers", "number"] "row_text" (defScope (topS 33)) zf zcd zAr zou zs zH zE).env (cxOf (L2N.CX P w) P w K mg base ["numbers", "number"] "row_text" (defScope (topS 33)) zf zcd zAr zou zs zH zE).xe := passes_of rfl
  have hu : Roomy (cxOf (L2N.CX P w) P w K mg base ["numbers", "number"] "row_text" (defScope (topS 33)) zf zcd zAr zou zs zH zE) := hr.units
  refine ds_ret (de_join (DE.of de_str (show _ = PyData.str (tS [32]) from rfl)) ((dn_lc (own := [("number", 1)]) (rs := (wsD (f.map wrL))) rfl sc.nd (di_tup (de_var (n := 0) rfl (pv 0))) (blkOk_by (N := ["numbers", "number"]) (sc := defScope (topS 33)) (by decide +kernel)) (fun _ d => [(1, d)]) ?g3 ?g4 ?g5 (fun i d hd s H C cl fp => ?g1_hg) ?g1_he)).dq ?g6 (pe_join pe_w pe_w)) ?_
  case g1_hg => exact (dg_name (j := 1) (pg_name sc.nd rfl (by first | exact .inl rfl | exact .inr rfl)))
  case g1_he =>
    rintro i d y hd hy s H C cl fp
    rw [List.getElem?_map] at hd
    obtain ⟨x, hx, rfl⟩ := Option.map_eq_some_iff.mp hd
    rw [List.getElem?_map, List.getElem?_map, hx] at hy
    cases hy
    refine DE.of (de_call h_written (hr.mono (by decide)) (by rfl) (da_cons (de_var (n := 1) rfl (pv 1)) da_nil) ⟨_, rfl, ?g2, rfl⟩) ?_
    case g2 => exact hz x (List.mem_of_getElem? hx)
    rfl
  case g3 => simp
  case g4 => simp; omega
  case g5 => walk_at "hf_hin"
  case g6 => exact (rw_len hz hl).2
  walk_at "hf_ret"
theorem sc_weights_text : FnScope ["weights", "levels", "downs"] ["weights"] (defScope (topS 34)) := ⟨rfl, rfl, rfl, by decide +kernel, rfl, by decide +kernel, by decide +kernel⟩
theorem ok_weights_text  {zf : Addr} {zfd : FuncData} (zF : Fun K "weights_text" "weights_text" (topS 34) zf zfd) (m_len : mg "len" = none)  (h_row_text : Has P w K mg base "row_text" 2 S_row_text)   : FnOk P w K mg base (L2N.CX P w) 3 zf zfd ["weights"] (spF K (S_weights_text)) := by
  have sc := sc_weights_text
  refine fn_ok zF sc (by rintro ds r ⟨lv, dn, rfl, hz1, l1, hz2, l2, rfl⟩; rfl) ?_
  rintro zcd zAr zou zs zH zE hr ds r ⟨lv, dn, rfl, hz1, l1, hz2, l2, rfl⟩
  have hpo : PassesOwn (model P w) (cxOf (L2N.CX P w) P w K mg base ["weights", "levels", "downs"] "weights_text" (defScope (topS 34)) zf zcd zAr zou zs zH zE).A (cxOf (L2N.CX P w) P w K mg base ["weights", "levels", "downs"] "weights_text" (defScope (topS 34)) zf zcd zAr zou zs zH zE).env (cxOf (L2N.CX P w) P w K mg base ["weights", "levels", "downs"] "weights_text" (defScope (topS 34)) zf zcd zAr zou zs zH zE).xe := passes_of rfl
  have hu : Roomy (cxOf (L2N.CX P w) P w K mg base ["weights", "levels", "downs"] "weights_text" (defScope (topS 34)) zf zcd zAr zou zs zH zE) := hr.units
  refine ds_asg (de_var (n := 0) rfl (pv 0)) (dg_tup rfl (dgs_cons (dg_name (j := 1) (pg_name sc.nd rfl (.inl rfl))) (dgs_cons (dg_name (j := 2) (pg_name sc.nd rfl (.inl rfl))) dgs_nil))) rfl rfl rfl ?_
  refine ds_when (dt_cmp (dc_eqI (de_lenT (by rfl) m_len (de_var (n := 2) rfl (pv 2))) de_int)) (fun t1 => ?y1) (fun t1 => ?n1)
  case y1 =>
    try simp only [decide_eq_true_eq, decide_eq_false_iff_not, Bool.not_eq_true', Bool.not_eq_false', Bool.and_eq_true, Bool.or_eq_true, Bool.and_eq_false_iff, Bool.or_eq_false_iff, Bool.not_eq_true, Bool.not_eq_false, Decidable.not_not] at t1
    refine ds_ret (de_call h_row_text (hr.mono (by decide)) (by rfl) (da_cons (de_var (n := 1) rfl (pv 1)) da_nil) ⟨_, rfl, ?g1, ?g2, rfl⟩) ?_
    case g1 => first | exact hz1 | exact hz2
    case g2 => first | exact l1 | exact l2
    show Res.ok (.val (.str (tS (wtL lv dn)))) = _
    rw [wt_0 t1]
  case n1 =>
    try simp only [decide_eq_true_eq, decide_eq_false_iff_not, Bool.not_eq_true', Bool.not_eq_false', Bool.and_eq_true, Bool.or_eq_true, Bool.and_eq_false_iff, Bool.or_eq_false_iff, Bool.not_eq_true, Bool.not_eq_false, Decidable.not_not] at t1
    refine ds_ret (de_catS (de_catS (de_call h_row_text (hr.mono (by decide)) (by rfl) (da_cons (de_var (n := 1) rfl (pv 1)) da_nil) ⟨_, rfl, ?g3, ?g4, rfl⟩) (DE.of de_str (show _ = PyData.str (tS [59, 32]) from rfl)) ?g5) (de_call h_row_text (hr.mono (by decide)) (by rfl) (da_cons (de_var (n := 2) rfl (pv 2)) da_nil) ⟨_, rfl, ?g6, ?g7, rfl⟩) ?g8) ?_
    case g3 => first | exact hz1 | exact hz2
    case g4 => first | exact l1 | exact l2
    case g5 => first | exact wt_len1 hz1 l1 | exact wt_len2 hz1 l1 hz2 l2
    case g6 => first | exact hz1 | exact hz2
    case g7 => first | exact l1 | exact l2
    case g8 => first | exact wt_len1 hz1 l1 | exact wt_len2 hz1 l1 hz2 l2
    show Res.ok (.val (.str (tS (wtL lv dn)))) = _
    rw [wt_1 t1]
theorem sc_poly_text : FnScope ["poly"] ["poly"] (defScope (topS 35)) := ⟨rfl, rfl, rfl, by decide +kernel, rfl, by decide +kernel, by decide +kernel⟩
theorem ok_poly_text  {zf : Addr} {zfd : FuncData} (zF : Fun K "poly_text" "poly_text" (topS 35) zf zfd)   (h_row_text : Has P w K mg base "row_text" 2 S_row_text)   : FnOk P w K mg base (L2N.CX P w) 3 zf zfd ["poly"] (spF K (S_poly_text)) := by
  have sc := sc_poly_text
  refine fn_ok zF sc (by rintro ds r ⟨f, rfl, hz, hl, rfl⟩; rfl) ?_
  rintro zcd zAr zou zs zH zE hr ds r ⟨f, rfl, hz, hl, rfl⟩
  have hpo : PassesOwn (model P w) (cxOf (L2N.CX P w) P w K mg base ["poly"] "poly_text" (defScope (topS 35)) zf zcd zAr zou zs zH zE).A (cxOf (L2N.CX P w) P w K mg base ["poly"] "poly_text" (defScope (topS 35)) zf zcd zAr zou zs zH zE).env (cxOf (L2N.CX P w) P w K mg base ["poly"] "poly_text" (defScope (topS 35)) zf zcd zAr zou zs zH zE).xe := passes_of rfl
  have hu : Roomy (cxOf (L2N.CX P w) P w K mg base ["poly"] "poly_text" (defScope (topS 35)) zf zcd zAr zou zs zH zE) := hr.units
  refine ds_when (dt_cmp (dc_eq hu (de_var (n := 0) rfl (pv 0)) (DE.of (de_tup da_nil (Nat.le_of_ble_eq_true rfl)) (show _ = dPo [] from rfl)) ?g1 ?g2)) (fun t1 => ?y1) (fun t1 => ?n1)
  case g1 => first | exact sh_frsT _ | rfl
  case g2 => first | exact sh_frsT _ | rfl
  case y1 =>
    skip
    refine ds_ret (DE.of de_str (show _ = PyData.str (tS [48]) from rfl)) ?_
    show Res.ok (.val (.str (tS (plL f)))) = _
    rw [pl_0 t1]
  case n1 =>
    skip
    refine ds_ret (de_call h_row_text (hr.mono (by decide)) (by rfl) (da_cons (de_var (n := 0) rfl (pv 0)) da_nil) ⟨_, rfl, ?g3, ?g4, rfl⟩) ?_
    case g3 => exact hz
    case g4 => exact hl
    show Res.ok (.val (.str (tS (plL f)))) = _
    rw [pl_1 t1]
theorem sc_small_read : FnScope ["word", "found"] ["word"] (defScope (topS 36)) := ⟨rfl, rfl, rfl, by decide +kernel, rfl, by decide +kernel, by decide +kernel⟩
theorem ok_small_read {C_NoText : Addr} {zf : Addr} {zfd : FuncData} (zF : Fun K "small_read" "small_read" (topS 36) zf zfd) (m_abs : mg "abs" = none) (k_MOST_BOTTOM : Kst K mg "MOST_BOTTOM" (.int 12)) (k_MOST_TOP : Kst K mg "MOST_TOP" (.int 1000000)) (h_fraction_read : Has P w K mg base "fraction_read" 3 S_fraction_read) (h_fraction_read_x : Has P w K mg base "fraction_read" 5 (S_fraction_read_x C_NoText))  (gf_NoText : mg "NoText" = some (.ref C_NoText)) (mf_NoText_NoText : PySem.W.exmOne K (.ref C_NoText) (.ref C_NoText) = some true) : FnOk P w K mg base (L2N.CX P w) 6 zf zfd ["word"] (spF K (S_small_read)) := by
  have sc := sc_small_read
  refine fn_ok zF sc (by rintro ds r ⟨l, rfl, hl, rfl⟩; rfl) ?_
  rintro zcd zAr zou zs zH zE hr ds r ⟨l, rfl, hl, rfl⟩
  have hpo : PassesOwn (model P w) (cxOf (L2N.CX P w) P w K mg base ["word", "found"] "small_read" (defScope (topS 36)) zf zcd zAr zou zs zH zE).A (cxOf (L2N.CX P w) P w K mg base ["word", "found"] "small_read" (defScope (topS 36)) zf zcd zAr zou zs zH zE).env (cxOf (L2N.CX P w) P w K mg base ["word", "found"] "small_read" (defScope (topS 36)) zf zcd zAr zou zs zH zE).xe := passes_of rfl
  have hu : Roomy (cxOf (L2N.CX P w) P w K mg base ["word", "found"] "small_read" (defScope (topS 36)) zf zcd zAr zou zs zH zE) := hr.units
  refine ds_set (i := 1) de_non (ps_set sc.nd rfl (.inl rfl) pe_w) ?_
  rcases hq : frR l with _ | q
  ·
    refine ds_tryN (fun (C : Addr) (fs : List (Str × D)) Γ' => C = C_NoText ∧ fs = ([("part", .int 0)] : List (Str × D)) ∧ Γ' = [.d (.str (tS l)), .d .none]) rfl rfl (HdsN.cons ⟨by rfl, by decide, .inl gf_NoText⟩ HdsN.nil) ?tb_1 ?ts_1
    case tb_1 =>
      intro pn xe
      refine ds_setX (i := 1) (dx_call h_fraction_read_x (hr.mono (by decide)) (by rfl) (da_cons (de_var (n := 0) rfl (pv 0)) da_nil) ⟨_, rfl, .inl ⟨l, rfl, hl, hq⟩, rfl⟩) (ps_set sc.nd rfl (.inl rfl) pe_w) ?_
      exact ⟨rfl, rfl, rfl⟩
    case ts_1 =>
      rintro C fs Γ' ⟨rfl, rfl, rfl⟩
      refine CaughtN.yes mf_NoText_NoText (fun a oe pn => ?_)
      refine ds_set (i := 1) de_non (ps_set sc.nd rfl (.inl rfl) pe_w) ?_
      refine ds_nil ?_
      refine ds_when (dt_or (n := true) (dt_cmp (dc_isN (de_var (n := 1) rfl (pv 1)))) (fun q1 => absurd q1 (by first | decide | simp [Hf.isNon] | (show ¬ (false = true); decide) | (show ¬ (true = false); decide)))) (fun t1 => ?y1) (fun t1 => ?n1)
      case y1 =>
        skip
        refine ds_ret de_non ?_
        show Res.ok (.val (oFr (smR l))) = _
        first | (rw [sm_0 hq]; rfl) | (rw [sm_y hq (sm_t t1)]; rfl)
      case n1 =>
        exact absurd t1 (by first | decide | simp [Hf.isNon])
        skip
  ·
    refine ds_tryN (fun _ _ _ => False) rfl rfl (HdsN.cons ⟨by rfl, by decide, .inl gf_NoText⟩ HdsN.nil) ?tb_2 ?ts_2
    case tb_2 =>
      intro pn xe
      refine ds_set (i := 1) (de_call h_fraction_read (hr.mono (by decide)) (by rfl) (da_cons (de_var (n := 0) rfl (pv 0)) da_nil) ⟨_, q, rfl, hl, hq, rfl⟩) (ps_set sc.nd rfl (.inl rfl) pe_w) ?_
      refine ds_nil ?_
      refine ds_when (dt_or (dt_cmp (dc_isN (de_var (n := 1) rfl (pv 1)))) (fun q2 => (dw_or (dt_cmp (dc_ge (de_abs (by rfl) m_abs (de_ixT (de_var (n := 1) rfl (pv 1)) de_int rfl)) (k_MOST_TOP.de (by rfl)))) (fun q3 => (dw_or1 (dt_cmp (dc_gt (de_ixT (de_var (n := 1) rfl (pv 1)) de_int rfl) (k_MOST_BOTTOM.de (by rfl))))))))) (fun t2 => ?y2) (fun t2 => ?n2)
      case y2 =>
        try simp only [decide_eq_true_eq, decide_eq_false_iff_not, Bool.not_eq_true', Bool.not_eq_false', Bool.and_eq_true, Bool.or_eq_true, Bool.and_eq_false_iff, Bool.or_eq_false_iff, Bool.not_eq_true, Bool.not_eq_false, Decidable.not_not] at t2
        refine ds_ret de_non ?_
        show Res.ok (.val (oFr (smR l))) = _
        first | (rw [sm_0 hq]; rfl) | (rw [sm_y hq (sm_t t2)]; rfl)
      case n2 =>
        try simp only [decide_eq_true_eq, decide_eq_false_iff_not, Bool.not_eq_true', Bool.not_eq_false', Bool.and_eq_true, Bool.or_eq_true, Bool.and_eq_false_iff, Bool.or_eq_false_iff, Bool.not_eq_true, Bool.not_eq_false, Decidable.not_not] at t2
        refine ds_ret (de_var (n := 1) rfl (pv 1)) ?_
        show Res.ok (.val (oFr (smR l))) = _
        rw [sm_n hq (sm_f t2)]
        rfl
    case ts_2 =>
      exact fun C fs Γ z => z.elim
theorem sc_weights_read : FnScope ["text", "parts", "rows", "part", "words", "row", "word"] ["text"] (defScope (topS 37)) := ⟨rfl, rfl, rfl, by decide +kernel, rfl, by decide +kernel, by decide +kernel⟩
theorem ok_weights_read  {zf : Addr} {zfd : FuncData} (zF : Fun K "weights_read" "weights_read" (topS 37) zf zfd) (m_enumerate : mg "enumerate" = none) (m_len : mg "len" = none)  (h_weights_of : Has P w K mg base "weights_of" 1 S_weights_of) (h_small_read : Has P w K mg base "small_read" 6 S_small_read)   : FnOk P w K mg base (L2N.CX P w) 7 zf zfd ["text"] (spF K (S_weights_read)) := by
  have sc := sc_weights_read
  refine fn_ok zF sc (by rintro ds r ⟨l, lv, dn, rfl, hl, ⟨ho, h1, h7⟩, rfl⟩; rfl) ?_
  rintro zcd zAr zou zs zH zE hr ds r ⟨l, lv, dn, rfl, hl, ⟨ho, h1, h7⟩, rfl⟩
  have hpo : PassesOwn (model P w) (cxOf (L2N.CX P w) P w K mg base ["text", "parts", "rows", "part", "words", "row", "word"] "weights_read" (defScope (topS 37)) zf zcd zAr zou zs zH zE).A (cxOf (L2N.CX P w) P w K mg base ["text", "parts", "rows", "part", "words", "row", "word"] "weights_read" (defScope (topS 37)) zf zcd zAr zou zs zH zE).env (cxOf (L2N.CX P w) P w K mg base ["text", "parts", "rows", "part", "words", "row", "word"] "weights_read" (defScope (topS 37)) zf zcd zAr zou zs zH zE).xe := passes_of rfl
  have hu : Roomy (cxOf (L2N.CX P w) P w K mg base ["text", "parts", "rows", "part", "words", "row", "word"] "weights_read" (defScope (topS 37)) zf zcd zAr zou zs zH zE) := hr.units
  refine ds_setN (i := 1) (dn_split (de_var (n := 0) rfl (pv 0)) (DE.of de_str (show _ = PyData.str (tS [59, 32]) from rfl)) (by decide) (by decide) ?g1 (pe_split pe_w pe_w)) (ps_set sc.nd rfl (.inl rfl) pe_w) ?_
  case g1 => first | exact Nat.le_trans hl (by decide) | exact Nat.le_trans hw9 (by decide)
  rw [show wsD (TL.spl [59, 32] 0 [] l) = wsD (wpt l) from rfl]
  refine ds_when (dt_cmp (dc_gt (de_lenM (by rfl) m_len (dl_var (n := 1) rfl (pv 1))) de_int)) (fun t1 => ?y1) (fun t1 => ?n1)
  case y1 =>
    exact absurd t1 (by have := ok_2 ho; simp [wsD]; omega)
    skip
  case n1 =>
    skip
    refine ds_setN (i := 2) (dn_lst da_nil (Nat.le_of_ble_eq_true rfl)) (ps_set sc.nd rfl (.inl rfl) pe_w) ?_
    refine ds_frz 1 rfl ?_
    refine ds_for (fun i Γ' => ∃ c4 c5 c6, (Γ' = [.d (.str (tS l)), .d (.list (wsD (wpt l))), .ml (rwsD (wpt l) i), c4, c5, c6, .no])) (fun _ d => (two 3 4 d)) hpo rfl (di_enS (by rfl) m_enumerate (de_var (n := 1) rfl (pv 1)) (.l _)) ?hg_1 ?h0_1 ?hb_1 ?hd_1
    case hg_1 =>
      exact fun i d hi => by obtain ⟨y, _, rfl⟩ := en_some hi; exact (dg_tup rfl (dgs_cons (dg_name (j := 3) (pg_name sc.nd rfl (.inl rfl))) (dgs_cons (dg_name (j := 4) (pg_name sc.nd rfl (.inl rfl))) dgs_nil)))
    case h0_1 =>
      exact ⟨_, _, _, rfl⟩
    case hb_1 =>
      rintro i d Γ' hi ⟨c4, c5, c6, rfl⟩
      obtain ⟨y, hy, rfl⟩ := en_some hi
      obtain ⟨w, hw, rfl⟩ := ws_some hy
      have hw9 : w.length ≤ 90000 := Nat.le_trans (spl_len _ _ _ (List.mem_of_getElem? hw)) hl
      have hwc := spl_count [32] w
      refine ds_setLc (i := 5) (own := [("word", 6)]) (rs := ((rowO w).map oFr)) rfl sc.nd rfl rfl (sw_true rfl rfl rfl (by decide +kernel)) (di_list (dn_split (de_var (n := 4) rfl (pv 4)) (DE.of de_str (show _ = PyData.str (tS [32]) from rfl)) (by decide) (by decide) ?g2 (pe_split pe_w pe_w)).de) (blkOk_by (N := ["text", "parts", "rows", "part", "words", "row", "word"]) (sc := defScope (topS 37)) (by decide +kernel)) (fun _ d => [(6, d)]) ?g5 ?g6 ?g7 (fun i d hd s H C cl fp => ?g3_hg) ?g3_he ?_
      case g3_hg => exact (dg_name (j := 6) (pg_name sc.nd rfl (by first | exact .inl rfl | exact .inr rfl)))
      case g3_he =>
        rintro i d y hd hy s H C cl fp
        obtain ⟨v, hv, rfl⟩ := ws_some hd
        replace hy := row_at hv hy
        subst hy
        have hv9 : v.length ≤ 90000 := Nat.le_trans (spl_len _ _ _ (List.mem_of_getElem? hv)) hw9
        refine DE.of (de_call h_small_read (hr.mono (by decide)) (by rfl) (da_cons (de_var (n := 6) rfl (pv 6)) da_nil) ⟨_, rfl, ?g4, rfl⟩) ?_
        case g4 => first | exact hv9
        rfl
      case g2 => first | exact Nat.le_trans hl (by decide) | exact Nat.le_trans hw9 (by decide)
      case g5 => rw [row_len, List.length_map]; rfl
      case g6 => first | (rw [row_len]; exact rc_len hw9) | exact rws_len hl _ | (simp; done) | (simp; omega)
      case g7 => walk_at "hf_hin"
      refine ds_when (dt_cmp (dc_inV (units65 hr) de_non.v (dl_var (n := 5) rfl (pv 5)).v ?g8 ?g9)) (fun t2 => ?y2) (fun t2 => ?n2)
      case g8 => first | rfl | exact sh_row _
      case g9 => first | rfl | exact sh_row _
      case y2 =>
        have hin : none ∈ rowO w := by
          rw [inDD_none] at t2
          exact of_decide_eq_true t2
        exact absurd hin (ok_no ho hw)
        skip
      case n2 =>
        have hno : none ∉ rowO w := by
          rw [inDD_none] at t2
          exact of_decide_eq_false t2
        refine ds_frz 5 rfl ?_
        refine ds_app (i := 2) rfl (pv 2) (de_var (n := 5) rfl (pv 5)) ?g10 (ps_expr (pe_bm PySem.F.plainAttrs_list PySem.F.slot_list_append PySem.F.type_list_append mt_append pe_w (pa_cons pe_w pa_nil))) ?_
        case g10 => first | (rw [row_len]; exact rc_len hw9) | exact rws_len hl _ | (simp; done) | (simp; omega)
        refine ds_nil ?_
        rw [rws_s hw]
        exact ⟨_, _, _, rfl⟩
    case hd_1 =>
      rintro Γ' ⟨c4, c5, c6, rfl⟩
      rw [List.length_mapIdx, show (wsD (wpt l)).length = (wpt l).length from List.length_map _]
      obtain ⟨ps, hps, hr⟩ := ho
      rcases hr with ⟨a, rfl, ha, rfl⟩ | ⟨a, b, rfl, ha, hb⟩
      ·
        rw [hps, show rwsD [a] ([a] : List (List Nat)).length = [rowD a] from rfl, row_fr ha]
        refine ds_when (dt_cmp (dc_eqI (de_lenM (by rfl) m_len (dl_var (n := 2) rfl (pv 2))) de_int)) (fun t3 => ?y3) (fun t3 => ?n3)
        case y3 =>
          skip
          refine ds_app (i := 2) rfl (pv 2) ((dn_lst da_nil (Nat.le_of_ble_eq_true rfl))).de ?g11 (ps_expr (pe_bm PySem.F.plainAttrs_list PySem.F.slot_list_append PySem.F.type_list_append mt_append pe_w (pa_cons pe_w pa_nil))) ?_
          case g11 => first | (rw [row_len]; exact rc_len hw9) | exact rws_len hl _ | (simp; done) | (simp; omega)
          refine ds_nil ?_
          refine ds_ret (de_call h_weights_of (hr.mono (by decide)) (by rfl) (da_cons (de_ixM (dl_var (n := 2) rfl (pv 2)) de_int (rfl)) (da_cons (de_ixM (dl_var (n := 2) rfl (pv 2)) de_int (rfl)) da_nil)) ⟨_, _, rfl, h1, h7, rfl⟩) ?_
          exact rfl
        case n3 =>
          exact absurd t3 (by simp)
          skip
      ·
        rw [hps, show rwsD [a, b] ([a, b] : List (List Nat)).length = [rowD a, rowD b] from rfl, row_fr ha, row_fr hb]
        refine ds_when (dt_cmp (dc_eqI (de_lenM (by rfl) m_len (dl_var (n := 2) rfl (pv 2))) de_int)) (fun t4 => ?y4) (fun t4 => ?n4)
        case y4 =>
          exact absurd t4 (by simp)
          skip
        case n4 =>
          skip
          refine ds_ret (de_call h_weights_of (hr.mono (by decide)) (by rfl) (da_cons (de_ixM (dl_var (n := 2) rfl (pv 2)) de_int (rfl)) (da_cons (de_ixM (dl_var (n := 2) rfl (pv 2)) de_int (rfl)) da_nil)) ⟨_, _, rfl, h1, h7, rfl⟩) ?_
          exact rfl
theorem sc_weights_read_w : FnScope ["text", "parts", "rows", "part", "words", "row", "word"] ["text"] (defScope (topS 37)) := ⟨rfl, rfl, rfl, by decide +kernel, rfl, by decide +kernel, by decide +kernel⟩
theorem ok_weights_read_w {C_NoText : Addr} {C_NoWeights : Addr} {zf : Addr} {zfd : FuncData} (zF : Fun K "weights_read" "weights_read" (topS 37) zf zfd) (m_enumerate : mg "enumerate" = none) (m_len : mg "len" = none)  (h_weights_of_x : Has P w K mg base "weights_of" 1 (S_weights_of_x C_NoWeights)) (h_small_read : Has P w K mg base "small_read" 6 S_small_read)  (Ff_NoText : EclF P w K mg base "NoText" C_NoText "part") : FnOk P w K mg base (L2N.CX P w) 7 zf zfd ["text"] (spF K ((S_weights_read_w C_NoWeights))) := by
  have sc := sc_weights_read_w
  refine fn_ok zF sc (by rintro ds r ⟨l, lv, dn, rfl, hl, ⟨ho, h1⟩, rfl⟩; rfl) ?_
  rintro zcd zAr zou zs zH zE hr ds r ⟨l, lv, dn, rfl, hl, ⟨ho, h1⟩, rfl⟩
  have hpo : PassesOwn (model P w) (cxOf (L2N.CX P w) P w K mg base ["text", "parts", "rows", "part", "words", "row", "word"] "weights_read" (defScope (topS 37)) zf zcd zAr zou zs zH zE).A (cxOf (L2N.CX P w) P w K mg base ["text", "parts", "rows", "part", "words", "row", "word"] "weights_read" (defScope (topS 37)) zf zcd zAr zou zs zH zE).env (cxOf (L2N.CX P w) P w K mg base ["text", "parts", "rows", "part", "words", "row", "word"] "weights_read" (defScope (topS 37)) zf zcd zAr zou zs zH zE).xe := passes_of rfl
  have hu : Roomy (cxOf (L2N.CX P w) P w K mg base ["text", "parts", "rows", "part", "words", "row", "word"] "weights_read" (defScope (topS 37)) zf zcd zAr zou zs zH zE) := hr.units
  refine ds_setN (i := 1) (dn_split (de_var (n := 0) rfl (pv 0)) (DE.of de_str (show _ = PyData.str (tS [59, 32]) from rfl)) (by decide) (by decide) ?g1 (pe_split pe_w pe_w)) (ps_set sc.nd rfl (.inl rfl) pe_w) ?_
  case g1 => first | exact Nat.le_trans hl (by decide) | exact Nat.le_trans hw9 (by decide)
  rw [show wsD (TL.spl [59, 32] 0 [] l) = wsD (wpt l) from rfl]
  refine ds_when (dt_cmp (dc_gt (de_lenM (by rfl) m_len (dl_var (n := 1) rfl (pv 1))) de_int)) (fun t1 => ?y1) (fun t1 => ?n1)
  case y1 =>
    exact absurd t1 (by have := ok_2 ho; simp [wsD]; omega)
    skip
  case n1 =>
    skip
    refine ds_setN (i := 2) (dn_lst da_nil (Nat.le_of_ble_eq_true rfl)) (ps_set sc.nd rfl (.inl rfl) pe_w) ?_
    refine ds_frz 1 rfl ?_
    refine ds_for (fun i Γ' => ∃ c4 c5 c6, (Γ' = [.d (.str (tS l)), .d (.list (wsD (wpt l))), .ml (rwsD (wpt l) i), c4, c5, c6, .no])) (fun _ d => (two 3 4 d)) hpo rfl (di_enS (by rfl) m_enumerate (de_var (n := 1) rfl (pv 1)) (.l _)) ?hg_1 ?h0_1 ?hb_1 ?hd_1
    case hg_1 =>
      exact fun i d hi => by obtain ⟨y, _, rfl⟩ := en_some hi; exact (dg_tup rfl (dgs_cons (dg_name (j := 3) (pg_name sc.nd rfl (.inl rfl))) (dgs_cons (dg_name (j := 4) (pg_name sc.nd rfl (.inl rfl))) dgs_nil)))
    case h0_1 =>
      exact ⟨_, _, _, rfl⟩
    case hb_1 =>
      rintro i d Γ' hi ⟨c4, c5, c6, rfl⟩
      obtain ⟨y, hy, rfl⟩ := en_some hi
      obtain ⟨w, hw, rfl⟩ := ws_some hy
      have hw9 : w.length ≤ 90000 := Nat.le_trans (spl_len _ _ _ (List.mem_of_getElem? hw)) hl
      have hwc := spl_count [32] w
      refine ds_setLc (i := 5) (own := [("word", 6)]) (rs := ((rowO w).map oFr)) rfl sc.nd rfl rfl (sw_true rfl rfl rfl (by decide +kernel)) (di_list (dn_split (de_var (n := 4) rfl (pv 4)) (DE.of de_str (show _ = PyData.str (tS [32]) from rfl)) (by decide) (by decide) ?g2 (pe_split pe_w pe_w)).de) (blkOk_by (N := ["text", "parts", "rows", "part", "words", "row", "word"]) (sc := defScope (topS 37)) (by decide +kernel)) (fun _ d => [(6, d)]) ?g5 ?g6 ?g7 (fun i d hd s H C cl fp => ?g3_hg) ?g3_he ?_
      case g3_hg => exact (dg_name (j := 6) (pg_name sc.nd rfl (by first | exact .inl rfl | exact .inr rfl)))
      case g3_he =>
        rintro i d y hd hy s H C cl fp
        obtain ⟨v, hv, rfl⟩ := ws_some hd
        replace hy := row_at hv hy
        subst hy
        have hv9 : v.length ≤ 90000 := Nat.le_trans (spl_len _ _ _ (List.mem_of_getElem? hv)) hw9
        refine DE.of (de_call h_small_read (hr.mono (by decide)) (by rfl) (da_cons (de_var (n := 6) rfl (pv 6)) da_nil) ⟨_, rfl, ?g4, rfl⟩) ?_
        case g4 => first | exact hv9
        rfl
      case g2 => first | exact Nat.le_trans hl (by decide) | exact Nat.le_trans hw9 (by decide)
      case g5 => rw [row_len, List.length_map]; rfl
      case g6 => first | (rw [row_len]; exact rc_len hw9) | exact rws_len hl _ | (simp; done) | (simp; omega)
      case g7 => walk_at "hf_hin"
      refine ds_when (dt_cmp (dc_inV (units65 hr) de_non.v (dl_var (n := 5) rfl (pv 5)).v ?g8 ?g9)) (fun t2 => ?y2) (fun t2 => ?n2)
      case g8 => first | rfl | exact sh_row _
      case g9 => first | rfl | exact sh_row _
      case y2 =>
        have hin : none ∈ rowO w := by
          rw [inDD_none] at t2
          exact of_decide_eq_true t2
        exact absurd hin (ok_no ho hw)
        skip
      case n2 =>
        have hno : none ∉ rowO w := by
          rw [inDD_none] at t2
          exact of_decide_eq_false t2
        refine ds_frz 5 rfl ?_
        refine ds_app (i := 2) rfl (pv 2) (de_var (n := 5) rfl (pv 5)) ?g10 (ps_expr (pe_bm PySem.F.plainAttrs_list PySem.F.slot_list_append PySem.F.type_list_append mt_append pe_w (pa_cons pe_w pa_nil))) ?_
        case g10 => first | (rw [row_len]; exact rc_len hw9) | exact rws_len hl _ | (simp; done) | (simp; omega)
        refine ds_nil ?_
        rw [rws_s hw]
        exact ⟨_, _, _, rfl⟩
    case hd_1 =>
      rintro Γ' ⟨c4, c5, c6, rfl⟩
      rw [List.length_mapIdx, show (wsD (wpt l)).length = (wpt l).length from List.length_map _]
      obtain ⟨ps, hps, hr⟩ := ho
      rcases hr with ⟨a, rfl, ha, rfl⟩ | ⟨a, b, rfl, ha, hb⟩
      ·
        rw [hps, show rwsD [a] ([a] : List (List Nat)).length = [rowD a] from rfl, row_fr ha]
        refine ds_when (dt_cmp (dc_eqI (de_lenM (by rfl) m_len (dl_var (n := 2) rfl (pv 2))) de_int)) (fun t3 => ?y3) (fun t3 => ?n3)
        case y3 =>
          skip
          refine ds_app (i := 2) rfl (pv 2) ((dn_lst da_nil (Nat.le_of_ble_eq_true rfl))).de ?g11 (ps_expr (pe_bm PySem.F.plainAttrs_list PySem.F.slot_list_append PySem.F.type_list_append mt_append pe_w (pa_cons pe_w pa_nil))) ?_
          case g11 => first | (rw [row_len]; exact rc_len hw9) | exact rws_len hl _ | (simp; done) | (simp; omega)
          refine ds_nil ?_
          refine ds_retX (dx_call h_weights_of_x (hr.mono (by decide)) (by rfl) (da_cons (de_ixM (dl_var (n := 2) rfl (pv 2)) de_int (rfl)) (da_cons (de_ixM (dl_var (n := 2) rfl (pv 2)) de_int (rfl)) da_nil)) ⟨_, _, rfl, h1, rfl⟩) ?_
          exact rfl
        case n3 =>
          exact absurd t3 (by simp)
          skip
      ·
        rw [hps, show rwsD [a, b] ([a, b] : List (List Nat)).length = [rowD a, rowD b] from rfl, row_fr ha, row_fr hb]
        refine ds_when (dt_cmp (dc_eqI (de_lenM (by rfl) m_len (dl_var (n := 2) rfl (pv 2))) de_int)) (fun t4 => ?y4) (fun t4 => ?n4)
        case y4 =>
          exact absurd t4 (by simp)
          skip
        case n4 =>
          skip
          refine ds_retX (dx_call h_weights_of_x (hr.mono (by decide)) (by rfl) (da_cons (de_ixM (dl_var (n := 2) rfl (pv 2)) de_int (rfl)) (da_cons (de_ixM (dl_var (n := 2) rfl (pv 2)) de_int (rfl)) da_nil)) ⟨_, _, rfl, h1, rfl⟩) ?_
          exact rfl
theorem sc_weights_read_x : FnScope ["text", "parts", "rows", "part", "words", "row", "word"] ["text"] (defScope (topS 37)) := ⟨rfl, rfl, rfl, by decide +kernel, rfl, by decide +kernel, by decide +kernel⟩
theorem ok_weights_read_x {C_NoText : Addr} {zf : Addr} {zfd : FuncData} (zF : Fun K "weights_read" "weights_read" (topS 37) zf zfd) (m_enumerate : mg "enumerate" = none) (m_len : mg "len" = none)  (h_small_read : Has P w K mg base "small_read" 6 S_small_read)  (Ff_NoText : EclF P w K mg base "NoText" C_NoText "part") : FnOk P w K mg base (L2N.CX P w) 7 zf zfd ["text"] (spF K ((S_weights_read_x C_NoText))) := by
  have sc := sc_weights_read_x
  refine fn_ok zF sc (by rintro ds r ⟨l, p, rfl, hl, hp, rfl⟩; rfl) ?_
  rintro zcd zAr zou zs zH zE hr ds r ⟨l, p, rfl, hl, hp, rfl⟩
  have hpo : PassesOwn (model P w) (cxOf (L2N.CX P w) P w K mg base ["text", "parts", "rows", "part", "words", "row", "word"] "weights_read" (defScope (topS 37)) zf zcd zAr zou zs zH zE).A (cxOf (L2N.CX P w) P w K mg base ["text", "parts", "rows", "part", "words", "row", "word"] "weights_read" (defScope (topS 37)) zf zcd zAr zou zs zH zE).env (cxOf (L2N.CX P w) P w K mg base ["text", "parts", "rows", "part", "words", "row", "word"] "weights_read" (defScope (topS 37)) zf zcd zAr zou zs zH zE).xe := passes_of rfl
  have hu : Roomy (cxOf (L2N.CX P w) P w K mg base ["text", "parts", "rows", "part", "words", "row", "word"] "weights_read" (defScope (topS 37)) zf zcd zAr zou zs zH zE) := hr.units
  refine ds_setN (i := 1) (dn_split (de_var (n := 0) rfl (pv 0)) (DE.of de_str (show _ = PyData.str (tS [59, 32]) from rfl)) (by decide) (by decide) ?g1 (pe_split pe_w pe_w)) (ps_set sc.nd rfl (.inl rfl) pe_w) ?_
  case g1 => first | exact Nat.le_trans hl (by decide) | exact Nat.le_trans hw9 (by decide)
  rw [show wsD (TL.spl [59, 32] 0 [] l) = wsD (wpt l) from rfl]
  refine ds_when (dt_cmp (dc_gt (de_lenM (by rfl) m_len (dl_var (n := 1) rfl (pv 1))) de_int)) (fun t1 => ?y1) (fun t1 => ?n1)
  case y1 =>
    have h2 : 2 < (wpt l).length := by
      simp [wsD] at t1
      omega
    obtain rfl : p = 2 := by
      rcases hp with ⟨_, h⟩ | ⟨h, _⟩
      · exact h
      · omega
    refine ds_raiseF rfl Ff_NoText (hr.mono (by decide)) (by rfl) (da_cons de_int da_nil) ?_
    exact rfl
  case n1 =>
    have h2 : ¬ 2 < (wpt l).length := by
      simp [wsD] at t1
      omega
    refine ds_setN (i := 2) (dn_lst da_nil (Nat.le_of_ble_eq_true rfl)) (ps_set sc.nd rfl (.inl rfl) pe_w) ?_
    refine ds_frz 1 rfl ?_
    refine ds_for (fun i Γ' => ∃ c4 c5 c6, (Γ' = [.d (.str (tS l)), .d (.list (wsD (wpt l))), .ml (rwsD (wpt l) i), c4, c5, c6, .no]) ∧ ∀ m, m < i → none ∉ rowO ((wpt l).getD m [])) (fun _ d => (two 3 4 d)) hpo rfl (di_enS (by rfl) m_enumerate (de_var (n := 1) rfl (pv 1)) (.l _)) ?hg_1 ?h0_1 ?hb_1 ?hd_1
    case hg_1 =>
      exact fun i d hi => by obtain ⟨y, _, rfl⟩ := en_some hi; exact (dg_tup rfl (dgs_cons (dg_name (j := 3) (pg_name sc.nd rfl (.inl rfl))) (dgs_cons (dg_name (j := 4) (pg_name sc.nd rfl (.inl rfl))) dgs_nil)))
    case h0_1 =>
      exact ⟨_, _, _, rfl, fun m h => absurd h (by omega)⟩
    case hb_1 =>
      rintro i d Γ' hi ⟨c4, c5, c6, rfl, hm⟩
      obtain ⟨y, hy, rfl⟩ := en_some hi
      obtain ⟨w, hw, rfl⟩ := ws_some hy
      have hw9 : w.length ≤ 90000 := Nat.le_trans (spl_len _ _ _ (List.mem_of_getElem? hw)) hl
      have hwc := spl_count [32] w
      refine ds_setLc (i := 5) (own := [("word", 6)]) (rs := ((rowO w).map oFr)) rfl sc.nd rfl rfl (sw_true rfl rfl rfl (by decide +kernel)) (di_list (dn_split (de_var (n := 4) rfl (pv 4)) (DE.of de_str (show _ = PyData.str (tS [32]) from rfl)) (by decide) (by decide) ?g2 (pe_split pe_w pe_w)).de) (blkOk_by (N := ["text", "parts", "rows", "part", "words", "row", "word"]) (sc := defScope (topS 37)) (by decide +kernel)) (fun _ d => [(6, d)]) ?g5 ?g6 ?g7 (fun i d hd s H C cl fp => ?g3_hg) ?g3_he ?_
      case g3_hg => exact (dg_name (j := 6) (pg_name sc.nd rfl (by first | exact .inl rfl | exact .inr rfl)))
      case g3_he =>
        rintro i d y hd hy s H C cl fp
        obtain ⟨v, hv, rfl⟩ := ws_some hd
        replace hy := row_at hv hy
        subst hy
        have hv9 : v.length ≤ 90000 := Nat.le_trans (spl_len _ _ _ (List.mem_of_getElem? hv)) hw9
        refine DE.of (de_call h_small_read (hr.mono (by decide)) (by rfl) (da_cons (de_var (n := 6) rfl (pv 6)) da_nil) ⟨_, rfl, ?g4, rfl⟩) ?_
        case g4 => first | exact hv9
        rfl
      case g2 => first | exact Nat.le_trans hl (by decide) | exact Nat.le_trans hw9 (by decide)
      case g5 => rw [row_len, List.length_map]; rfl
      case g6 => first | (rw [row_len]; exact rc_len hw9) | exact rws_len hl _ | (simp; done) | (simp; omega)
      case g7 => walk_at "hf_hin"
      refine ds_when (dt_cmp (dc_inV (units65 hr) de_non.v (dl_var (n := 5) rfl (pv 5)).v ?g8 ?g9)) (fun t2 => ?y2) (fun t2 => ?n2)
      case g8 => first | rfl | exact sh_row _
      case g9 => first | rfl | exact sh_row _
      case y2 =>
        have hin : none ∈ rowO w := by
          rw [inDD_none] at t2
          exact of_decide_eq_true t2
        obtain rfl := wtno_at hp h2 hw hm hin
        refine ds_raiseF rfl Ff_NoText (hr.mono (by decide)) (by rfl) (da_cons (de_var (n := 3) rfl (pv 3)) da_nil) ?_
        exact rfl
      case n2 =>
        have hno : none ∉ rowO w := by
          rw [inDD_none] at t2
          exact of_decide_eq_false t2
        refine ds_frz 5 rfl ?_
        refine ds_app (i := 2) rfl (pv 2) (de_var (n := 5) rfl (pv 5)) ?g10 (ps_expr (pe_bm PySem.F.plainAttrs_list PySem.F.slot_list_append PySem.F.type_list_append mt_append pe_w (pa_cons pe_w pa_nil))) ?_
        case g10 => first | (rw [row_len]; exact rc_len hw9) | exact rws_len hl _ | (simp; done) | (simp; omega)
        refine ds_nil ?_
        rw [rws_s hw]
        exact ⟨_, _, _, rfl, no_step hm hw hno⟩
    case hd_1 =>
      rintro Γ' ⟨c4, c5, c6, rfl, hm⟩
      rw [List.length_mapIdx, show (wsD (wpt l)).length = (wpt l).length from List.length_map _] at hm ⊢
      exact (wtno_end hp h2 hm).elim
theorem sc_law_cell_at : FnScope ["_law_script", "_law_k"] ["_law_script", "_law_k"] (defScope (topS 42)) := ⟨rfl, rfl, rfl, by decide +kernel, rfl, by decide +kernel, by decide +kernel⟩
theorem ok_law_cell_at  {zf : Addr} {zfd : FuncData} (zF : Fun K "_law_cell_at" "_law_cell_at" (topS 42) zf zfd) (m_len : mg "len" = none)     : FnOk P w K mg base (L2N.CX P w) 1 zf zfd ["_law_script", "_law_k"] (spF K (S_law_cell_at)) := by
  have sc := sc_law_cell_at
  refine fn_ok zF sc (by rintro ds r ⟨ns, k, rfl, hn, rfl⟩; rfl) ?_
  rintro zcd zAr zou zs zH zE hr ds r ⟨ns, k, rfl, hn, rfl⟩
  have hpo : PassesOwn (model P w) (cxOf (L2N.CX P w) P w K mg base ["_law_script", "_law_k"] "_law_cell_at" (defScope (topS 42)) zf zcd zAr zou zs zH zE).A (cxOf (L2N.CX P w) P w K mg base ["_law_script", "_law_k"] "_law_cell_at" (defScope (topS 42)) zf zcd zAr zou zs zH zE).env (cxOf (L2N.CX P w) P w K mg base ["_law_script", "_law_k"] "_law_cell_at" (defScope (topS 42)) zf zcd zAr zou zs zH zE).xe := passes_of rfl
  have hu : Roomy (cxOf (L2N.CX P w) P w K mg base ["_law_script", "_law_k"] "_law_cell_at" (defScope (topS 42)) zf zcd zAr zou zs zH zE) := hr.units
  refine ds_when (dt_cmp (dc_gt (de_lenL (by rfl) m_len (de_var (n := 0) rfl (pv 0))) de_int)) (fun t1 => ?y1) (fun t1 => ?n1)
  case y1 =>
    simp only [decide_eq_true_eq, List.length_map] at t1
    have m0 := Int.emod_nonneg k (b := (ns.length : Int)) (by omega)
    have m1 := Int.emod_lt_of_pos k (b := (ns.length : Int)) (by omega)
    refine ds_ret (de_ixL (de_var (n := 0) rfl (pv 0)) (de_mod (de_var (n := 1) rfl (pv 1)) (de_lenL (by rfl) m_len (de_var (n := 0) rfl (pv 0))) ?g1) (by
  rw [List.length_map]
  exact at_intsG (n := (k % (ns.length : Int)).toNat) (by omega) (by omega))) ?_
    case g1 => first | omega | (simp only [List.length_map]; omega)
    exact rfl
  case n1 =>
    simp only [decide_eq_false_iff_not, List.length_map] at t1
    refine ds_ret de_int ?_
    show Res.ok (.val (.int (vCelN ns k))) = Res.ok (.val (.int 0))
    unfold vCelN
    rw [List.getD_eq_getElem?_getD, List.getElem?_eq_none (by omega)]; rfl
theorem sc_law_stir : FnScope ["_law_cell", "_law_k", "_law_c", "_law_low_here"] ["_law_cell", "_law_k"] (defScope (topS 43)) := ⟨rfl, rfl, rfl, by decide +kernel, rfl, by decide +kernel, by decide +kernel⟩
theorem ok_law_stir  {zf : Addr} {zfd : FuncData} (zF : Fun K "_law_stir" "_law_stir" (topS 43) zf zfd)      : FnOk P w K mg base (L2N.CX P w) 1 zf zfd ["_law_cell", "_law_k"] (spF K (S_law_stir)) := by
  have sc := sc_law_stir
  refine fn_ok zF sc (by rintro ds r ⟨c, k, rfl, h0, h1, rfl⟩; rfl) ?_
  rintro zcd zAr zou zs zH zE hr ds r ⟨c, k, rfl, h0, h1, rfl⟩
  have hpo : PassesOwn (model P w) (cxOf (L2N.CX P w) P w K mg base ["_law_cell", "_law_k", "_law_c", "_law_low_here"] "_law_stir" (defScope (topS 43)) zf zcd zAr zou zs zH zE).A (cxOf (L2N.CX P w) P w K mg base ["_law_cell", "_law_k", "_law_c", "_law_low_here"] "_law_stir" (defScope (topS 43)) zf zcd zAr zou zs zH zE).env (cxOf (L2N.CX P w) P w K mg base ["_law_cell", "_law_k", "_law_c", "_law_low_here"] "_law_stir" (defScope (topS 43)) zf zcd zAr zou zs zH zE).xe := passes_of rfl
  have hu : Roomy (cxOf (L2N.CX P w) P w K mg base ["_law_cell", "_law_k", "_law_c", "_law_low_here"] "_law_stir" (defScope (topS 43)) zf zcd zAr zou zs zH zE) := hr.units
  have b1 := vMix_bd (c := c) h0 h1
  unfold vMix at b1
  refine ds_set (i := 2) (de_add (de_add (de_add (de_mod (de_var (n := 0) rfl (pv 0)) (de_powN (n := 10000000000000000000000000000000000000000) de_int de_int ⟨by decide, by decide, by decide⟩ (by decide +kernel)) ?g1) de_int) (de_mulS de_int (de_var (n := 1) rfl (pv 1)) (by first | exact .inr ⟨by decide, by decide⟩ | exact .inl ⟨by decide, by decide⟩))) (de_mulB (de_mulS de_int (de_var (n := 1) rfl (pv 1)) (by first | exact .inr ⟨by decide, by decide⟩ | exact .inl ⟨by decide, by decide⟩)) (de_var (n := 1) rfl (pv 1)) ?g2)) (ps_set sc.nd rfl (.inl rfl) pe_w) ?_
  case g1 => walk_at "hf_mod"
  case g2 => exact mul_sm ⟨by omega, by omega⟩ ⟨by omega, by omega⟩
  refine ds_set (i := 3) (de_mod (de_mulS (de_mod (de_mulS (de_var (n := 2) rfl (pv 2)) de_int (by first | exact .inr ⟨by decide, by decide⟩ | exact .inl ⟨by decide, by decide⟩)) de_int ?g3) de_int (by first | exact .inr ⟨by decide, by decide⟩ | exact .inl ⟨by decide, by decide⟩)) de_int ?g4) (ps_set sc.nd rfl (.inl rfl) pe_w) ?_
  case g3 => walk_at "hf_mod"
  case g4 => walk_at "hf_mod"
  refine ds_ret (de_add (de_var (n := 3) rfl (pv 3)) (de_mulS de_int (de_mod (de_mulS (de_mulB (de_var (n := 2) rfl (pv 2)) (de_var (n := 3) rfl (pv 3)) ?g5) de_int (by first | exact .inr ⟨by decide, by decide⟩ | exact .inl ⟨by decide, by decide⟩)) (de_add (de_powN (n := 1000000000000000000000000000000) de_int de_int ⟨by decide, by decide, by decide⟩ (by decide +kernel)) de_int) ?g6) (by first | exact .inr ⟨by decide, by decide⟩ | exact .inl ⟨by decide, by decide⟩))) ?_
  case g5 => exact mul_sm ⟨by omega, by omega⟩ ⟨by omega, by omega⟩
  case g6 => walk_at "hf_mod"
  walk_at "hf_ret"
theorem sc_law_drawn : FnScope ["_law_script", "_law_k", "_law_great", "_law_step"] ["_law_script", "_law_k"] (defScope (topS 44)) := ⟨rfl, rfl, rfl, by decide +kernel, rfl, by decide +kernel, by decide +kernel⟩
theorem ok_law_drawn  {zf : Addr} {zfd : FuncData} (zF : Fun K "_law_drawn" "_law_drawn" (topS 44) zf zfd) (m_range : mg "range" = none)  (h_law_cell_at : Has P w K mg base "_law_cell_at" 1 S_law_cell_at) (h_law_stir : Has P w K mg base "_law_stir" 1 S_law_stir)   : FnOk P w K mg base (L2N.CX P w) 2 zf zfd ["_law_script", "_law_k"] (spF K (S_law_drawn)) := by
  have sc := sc_law_drawn
  refine fn_ok zF sc (by rintro ds r ⟨ns, k, rfl, hn, h0, h1, rfl⟩; rfl) ?_
  rintro zcd zAr zou zs zH zE hr ds r ⟨ns, k, rfl, hn, h0, h1, rfl⟩
  have hpo : PassesOwn (model P w) (cxOf (L2N.CX P w) P w K mg base ["_law_script", "_law_k", "_law_great", "_law_step"] "_law_drawn" (defScope (topS 44)) zf zcd zAr zou zs zH zE).A (cxOf (L2N.CX P w) P w K mg base ["_law_script", "_law_k", "_law_great", "_law_step"] "_law_drawn" (defScope (topS 44)) zf zcd zAr zou zs zH zE).env (cxOf (L2N.CX P w) P w K mg base ["_law_script", "_law_k", "_law_great", "_law_step"] "_law_drawn" (defScope (topS 44)) zf zcd zAr zou zs zH zE).xe := passes_of rfl
  have hu : Roomy (cxOf (L2N.CX P w) P w K mg base ["_law_script", "_law_k", "_law_great", "_law_step"] "_law_drawn" (defScope (topS 44)) zf zcd zAr zou zs zH zE) := hr.units
  refine ds_set (i := 2) (de_call h_law_cell_at (hr.mono (by decide)) (by rfl) (da_cons (de_var (n := 0) rfl (pv 0)) (da_cons de_int da_nil)) ⟨_, _, rfl, ?g1, rfl⟩) (ps_set sc.nd rfl (.inl rfl) pe_w) ?_
  case g1 => exact hn
  refine ds_when (dt_and (dt_cmp (dc_eqI (de_mod (de_call h_law_cell_at (hr.mono (by decide)) (by rfl) (da_cons (de_var (n := 0) rfl (pv 0)) (da_cons de_int da_nil)) ⟨_, _, rfl, ?g2, rfl⟩) de_int ?g3) de_int)) (fun q1 => (dw_and1 (dt_cmp (dc_ge (de_var (n := 2) rfl (pv 2)) (de_powN (n := 10000000000000000000000000000000000000000) de_int de_int ⟨by decide, by decide, by decide⟩ (by decide +kernel))))))) (fun t1 => ?y1) (fun t1 => ?n1)
  case g2 => exact hn
  case g3 => decide
  case y1 =>
    try simp only [decide_eq_true_eq, decide_eq_false_iff_not, Bool.not_eq_true', Bool.not_eq_false', Bool.and_eq_true, Bool.or_eq_true, Bool.and_eq_false_iff, Bool.or_eq_false_iff, Bool.not_eq_true, Bool.not_eq_false, Decidable.not_not] at t1
    refine ds_for (fun i Γ => ∃ c, Γ = [.d (.list (ns.map PyData.int)), .d (.int k), .d (.int (gdiv (vCelN ns 1) i)), c]) (fun _ d => [(3, d)]) hpo rfl (di_r1 (by rfl) m_range (de_var (n := 1) rfl (pv 1)) ?g4) ?hg_1 ?h0_1 ?hb_1 ?hd_1
    case g4 => walk_at "hf_rng"
    case hg_1 =>
      exact fun i d _ => (dg_name (j := 3) (pg_name sc.nd rfl (.inl rfl)))
    case h0_1 =>
      exact ⟨_, rfl⟩
    case hb_1 =>
      rintro i d Γ' hi ⟨c, rfl⟩
      refine ds_set (i := 2) (de_fdiv (de_var (n := 2) rfl (pv 2)) (de_powN (n := 1000000000000000000000000000000000000000000000000000000000000) de_int de_int ⟨by decide, by decide, by decide⟩ (by decide +kernel)) ?g5) (ps_set sc.nd rfl (.inl rfl) pe_w) ?_
      case g5 => exact div_sm ⟨by decide, by decide⟩
      refine ds_nil ?_
      exact ⟨_, rfl⟩
    case hd_1 =>
      rintro Γ' ⟨c, rfl⟩
      rw [rng0_len]
      refine ds_when (dt_cmp (dc_gt (de_var (n := 2) rfl (pv 2)) de_int)) (fun t2 => ?y2) (fun t2 => ?n2)
      case y2 =>
        try simp only [decide_eq_true_eq, decide_eq_false_iff_not, Bool.not_eq_true', Bool.not_eq_false', Bool.and_eq_true, Bool.or_eq_true, Bool.and_eq_false_iff, Bool.or_eq_false_iff, Bool.not_eq_true, Bool.not_eq_false, Decidable.not_not] at t2
        refine ds_ret (de_mod (de_var (n := 2) rfl (pv 2)) (de_powN (n := 1000000000000000000000000000000000000000000000000000000000000) de_int de_int ⟨by decide, by decide, by decide⟩ (by decide +kernel)) ?g6) ?_
        case g6 => decide
        show Res.ok (.val (.int (vDrN ns k))) = _
        unfold vDrN
        first | rw [if_pos (by omega)] | rw [if_neg (by omega)]
      case n2 =>
        try simp only [decide_eq_true_eq, decide_eq_false_iff_not, Bool.not_eq_true', Bool.not_eq_false', Bool.and_eq_true, Bool.or_eq_true, Bool.and_eq_false_iff, Bool.or_eq_false_iff, Bool.not_eq_true, Bool.not_eq_false, Decidable.not_not] at t2
        refine ds_nil ?_
        refine ds_ret (de_call h_law_stir (hr.mono (by decide)) (by rfl) (da_cons (de_call h_law_cell_at (hr.mono (by decide)) (by rfl) (da_cons (de_var (n := 0) rfl (pv 0)) (da_cons (de_var (n := 1) rfl (pv 1)) da_nil)) ⟨_, _, rfl, ?g7, rfl⟩) (da_cons (de_var (n := 1) rfl (pv 1)) da_nil)) ⟨_, _, rfl, ?g8, ?g9, rfl⟩) ?_
        case g7 => exact hn
        case g8 => walk_at "hf_omega"
        case g9 => walk_at "hf_omega"
        show Res.ok (.val (.int (vDrN ns k))) = _
        unfold vDrN
        first | rw [if_pos (by omega)] | rw [if_neg (by omega)]
  case n1 =>
    try simp only [decide_eq_true_eq, decide_eq_false_iff_not, Bool.not_eq_true', Bool.not_eq_false', Bool.and_eq_true, Bool.or_eq_true, Bool.and_eq_false_iff, Bool.or_eq_false_iff, Bool.not_eq_true, Bool.not_eq_false, Decidable.not_not] at t1
    refine ds_ret (de_call h_law_stir (hr.mono (by decide)) (by rfl) (da_cons (de_call h_law_cell_at (hr.mono (by decide)) (by rfl) (da_cons (de_var (n := 0) rfl (pv 0)) (da_cons (de_var (n := 1) rfl (pv 1)) da_nil)) ⟨_, _, rfl, ?g10, rfl⟩) (da_cons (de_var (n := 1) rfl (pv 1)) da_nil)) ⟨_, _, rfl, ?g11, ?g12, rfl⟩) ?_
    case g10 => exact hn
    case g11 => walk_at "hf_omega"
    case g12 => walk_at "hf_omega"
    show Res.ok (.val (.int (vDrN ns k))) = _
    unfold vDrN
    first | rw [if_pos (by omega)] | rw [if_neg (by omega)]
theorem sc_law_divisor : FnScope ["_law_a", "_law_b", "_law_rest"] ["_law_a", "_law_b"] (defScope (topS 46)) := ⟨rfl, rfl, rfl, by decide +kernel, rfl, by decide +kernel, by decide +kernel⟩
theorem ok_law_divisor  {zf : Addr} {zfd : FuncData} (zF : Fun K "_law_divisor" "_law_divisor" (topS 46) zf zfd) (m_abs : mg "abs" = none)     : FnOk P w K mg base (L2N.CX P w) 1 zf zfd ["_law_a", "_law_b"] (spF K (S_law_divisor)) := by
  have sc := sc_law_divisor
  refine fn_ok zF sc (by rintro ds r ⟨a, b, rfl, rfl⟩; rfl) ?_
  rintro zcd zAr zou zs zH zE hr ds r ⟨a, b, rfl, rfl⟩
  have hpo : PassesOwn (model P w) (cxOf (L2N.CX P w) P w K mg base ["_law_a", "_law_b", "_law_rest"] "_law_divisor" (defScope (topS 46)) zf zcd zAr zou zs zH zE).A (cxOf (L2N.CX P w) P w K mg base ["_law_a", "_law_b", "_law_rest"] "_law_divisor" (defScope (topS 46)) zf zcd zAr zou zs zH zE).env (cxOf (L2N.CX P w) P w K mg base ["_law_a", "_law_b", "_law_rest"] "_law_divisor" (defScope (topS 46)) zf zcd zAr zou zs zH zE).xe := passes_of rfl
  have hu : Roomy (cxOf (L2N.CX P w) P w K mg base ["_law_a", "_law_b", "_law_rest"] "_law_divisor" (defScope (topS 46)) zf zcd zAr zou zs zH zE) := hr.units
  refine ds_set (i := 0) (de_abs (by rfl) m_abs (de_var (n := 0) rfl (pv 0))) (ps_set sc.nd rfl (.inl rfl) pe_w) ?_
  refine ds_set (i := 1) (de_abs (by rfl) m_abs (de_var (n := 1) rfl (pv 1))) (ps_set sc.nd rfl (.inl rfl) pe_w) ?_
  refine ds_while (fun m Γ => ∃ (x y : Int) (c : Cell), Γ = [.d (.int x), .d (.int y), c] ∧ 0 ≤ x ∧ 0 ≤ y ∧ y.toNat = m ∧ Int.gcd x y = Int.gcd a b) hpo (if b < 0 then -b else b).toNat ?w0_1 ?st_1
  case w0_1 =>
    refine ⟨_, _, _, rfl, by split <;> omega, by split <;> omega, rfl, ?_⟩
    split <;> split <;> simp
  case st_1 =>
    rintro m Γ' ⟨x, y, c, rfl, hx, hy, hm, hg⟩
    refine ⟨_, (dt_cmp (dc_gt (de_var (n := 1) rfl (pv 1)) de_int)), fun t => ?y_1, fun t => ?n_1⟩
    case y_1 =>
      have hy' : 0 < y := by simpa using t
      refine ds_set (i := 2) (de_mod (de_var (n := 0) rfl (pv 0)) (de_var (n := 1) rfl (pv 1)) ?g1) (ps_set sc.nd rfl (.inl rfl) pe_w) ?_
      case g1 => exact hy'
      refine ds_set (i := 0) (de_var (n := 1) rfl (pv 1)) (ps_set sc.nd rfl (.inl rfl) pe_w) ?_
      refine ds_set (i := 1) (de_var (n := 2) rfl (pv 2)) (ps_set sc.nd rfl (.inl rfl) pe_w) ?_
      refine ds_nil ?_
      refine ⟨_, ?_, y, x % y, _, rfl, by omega, Int.emod_nonneg _ (by omega), rfl, ?_⟩
      · have := Int.emod_lt_of_pos x hy'
        have := Int.emod_nonneg x (show y ≠ 0 by omega)
        omega
      · rw [gcd_turn x y, hg]
    case n_1 =>
      have hy' : y = 0 := by
        have : ¬ (0 < y) := by simpa using t
        omega
      subst hy'
      refine ds_ret (de_var (n := 0) rfl (pv 0)) ?_
      show Res.ok _ = Res.ok _
      rw [← hg, Int.gcd_zero_right, Int.natAbs_of_nonneg hx]
theorem sc_law_low : FnScope ["_law_top", "_law_bottom", "_law_by"] ["_law_top", "_law_bottom"] (defScope (topS 47)) := ⟨rfl, rfl, rfl, by decide +kernel, rfl, by decide +kernel, by decide +kernel⟩
theorem ok_law_low  {zf : Addr} {zfd : FuncData} (zF : Fun K "_law_low" "_law_low" (topS 47) zf zfd)   (h_law_divisor : Has P w K mg base "_law_divisor" 1 S_law_divisor)   : FnOk P w K mg base (L2N.CX P w) 2 zf zfd ["_law_top", "_law_bottom"] (spF K (S_law_low)) := by
  have sc := sc_law_low
  refine fn_ok zF sc (by rintro ds r ⟨t, b, rfl, hb, hz, rfl⟩; rfl) ?_
  rintro zcd zAr zou zs zH zE hr ds r ⟨t, b, rfl, hb, hz, rfl⟩
  have hpo : PassesOwn (model P w) (cxOf (L2N.CX P w) P w K mg base ["_law_top", "_law_bottom", "_law_by"] "_law_low" (defScope (topS 47)) zf zcd zAr zou zs zH zE).A (cxOf (L2N.CX P w) P w K mg base ["_law_top", "_law_bottom", "_law_by"] "_law_low" (defScope (topS 47)) zf zcd zAr zou zs zH zE).env (cxOf (L2N.CX P w) P w K mg base ["_law_top", "_law_bottom", "_law_by"] "_law_low" (defScope (topS 47)) zf zcd zAr zou zs zH zE).xe := passes_of rfl
  have hu : Roomy (cxOf (L2N.CX P w) P w K mg base ["_law_top", "_law_bottom", "_law_by"] "_law_low" (defScope (topS 47)) zf zcd zAr zou zs zH zE) := hr.units
  have gz := gcd_bt hb hz (t := t)
  have gn := gcd_bt (t := -t) (b := -b) (by omega) hz.neg
  have gp : (0 : Int) < (Int.gcd t b : Nat) := by have := Int.gcd_pos_of_ne_zero_right t hb; omega
  have gq : (0 : Int) < (Int.gcd (-t) (-b) : Nat) := by have := Int.gcd_pos_of_ne_zero_right (-t) (b := -b) (by omega); omega
  refine ds_when (dt_cmp (dc_lt (de_var (n := 1) rfl (pv 1)) de_int)) (fun t1 => ?y1) (fun t1 => ?n1)
  case y1 =>
    try simp only [decide_eq_true_eq, decide_eq_false_iff_not, Bool.not_eq_true', Bool.not_eq_false', Bool.and_eq_true, Bool.or_eq_true, Bool.and_eq_false_iff, Bool.or_eq_false_iff, Bool.not_eq_true, Bool.not_eq_false, Decidable.not_not] at t1
    refine ds_set (i := 0) (de_neg (de_var (n := 0) rfl (pv 0))) (ps_set sc.nd rfl (.inl rfl) pe_w) ?_
    refine ds_set (i := 1) (de_neg (de_var (n := 1) rfl (pv 1))) (ps_set sc.nd rfl (.inl rfl) pe_w) ?_
    refine ds_nil ?_
    refine ds_set (i := 2) (de_call h_law_divisor (hr.mono (by decide)) (by rfl) (da_cons (de_var (n := 0) rfl (pv 0)) (da_cons (de_var (n := 1) rfl (pv 1)) da_nil)) ⟨_, _, rfl, rfl⟩) (ps_set sc.nd rfl (.inl rfl) pe_w) ?_
    refine ds_ret (de_tup (da_cons (de_fdiv (de_var (n := 0) rfl (pv 0)) (de_var (n := 2) rfl (pv 2)) ?g1) (da_cons (de_fdiv (de_var (n := 1) rfl (pv 1)) (de_var (n := 2) rfl (pv 2)) ?g2) da_nil)) (Nat.le_of_ble_eq_true rfl)) ?_
    case g1 => exact div_ok gq gn (by decide)
    case g2 => exact div_ok gq gn (by decide)
    have key := low_parts (t := -t) (b := -b) (by omega)
    show Res.ok _ = Res.ok _
    rw [key.1, key.2, Rat.neg_divInt_neg]
  case n1 =>
    try simp only [decide_eq_true_eq, decide_eq_false_iff_not, Bool.not_eq_true', Bool.not_eq_false', Bool.and_eq_true, Bool.or_eq_true, Bool.and_eq_false_iff, Bool.or_eq_false_iff, Bool.not_eq_true, Bool.not_eq_false, Decidable.not_not] at t1
    refine ds_set (i := 2) (de_call h_law_divisor (hr.mono (by decide)) (by rfl) (da_cons (de_var (n := 0) rfl (pv 0)) (da_cons (de_var (n := 1) rfl (pv 1)) da_nil)) ⟨_, _, rfl, rfl⟩) (ps_set sc.nd rfl (.inl rfl) pe_w) ?_
    refine ds_ret (de_tup (da_cons (de_fdiv (de_var (n := 0) rfl (pv 0)) (de_var (n := 2) rfl (pv 2)) ?g3) (da_cons (de_fdiv (de_var (n := 1) rfl (pv 1)) (de_var (n := 2) rfl (pv 2)) ?g4) da_nil)) (Nat.le_of_ble_eq_true rfl)) ?_
    case g3 => exact div_ok gp gz (by decide)
    case g4 => exact div_ok gp gz (by decide)
    have key := low_parts (t := t) (b := b) (by omega)
    show Res.ok _ = Res.ok _
    rw [key.1, key.2]
theorem sc_law_number_by : FnScope ["_law_c"] ["_law_c"] (defScope (topS 51)) := ⟨rfl, rfl, rfl, by decide +kernel, rfl, by decide +kernel, by decide +kernel⟩
theorem ok_law_number_by  {zf : Addr} {zfd : FuncData} (zF : Fun K "_law_number_by" "_law_number_by" (topS 51) zf zfd)   (h_law_low : Has P w K mg base "_law_low" 2 S_law_low)   : FnOk P w K mg base (L2N.CX P w) 3 zf zfd ["_law_c"] (spF K (S_law_number_by)) := by
  have sc := sc_law_number_by
  refine fn_ok zF sc (by rintro ds r ⟨c, rfl, rfl⟩; rfl) ?_
  rintro zcd zAr zou zs zH zE hr ds r ⟨c, rfl, rfl⟩
  have hpo : PassesOwn (model P w) (cxOf (L2N.CX P w) P w K mg base ["_law_c"] "_law_number_by" (defScope (topS 51)) zf zcd zAr zou zs zH zE).A (cxOf (L2N.CX P w) P w K mg base ["_law_c"] "_law_number_by" (defScope (topS 51)) zf zcd zAr zou zs zH zE).env (cxOf (L2N.CX P w) P w K mg base ["_law_c"] "_law_number_by" (defScope (topS 51)) zf zcd zAr zou zs zH zE).xe := passes_of rfl
  have hu : Roomy (cxOf (L2N.CX P w) P w K mg base ["_law_c"] "_law_number_by" (defScope (topS 51)) zf zcd zAr zou zs zH zE) := hr.units
  refine ds_when (dt_cmp (dc_eqI (de_mod (de_var (n := 0) rfl (pv 0)) de_int ?g1) de_int)) (fun t1 => ?y1) (fun t1 => ?n1)
  case g1 => decide
  case y1 =>
    try simp only [decide_eq_true_eq, decide_eq_false_iff_not, Bool.not_eq_true', Bool.not_eq_false', Bool.and_eq_true, Bool.or_eq_true, Bool.and_eq_false_iff, Bool.or_eq_false_iff, Bool.not_eq_true, Bool.not_eq_false, Decidable.not_not] at t1
    refine ds_ret (de_frI (de_sub (de_mod (de_fdiv (de_var (n := 0) rfl (pv 0)) de_int ?g2) de_int ?g3) de_int)) ?_
    case g2 => exact div_sm ⟨by decide, by decide⟩
    case g3 => decide
    show Res.ok (.val (dFr (vNum c))) = Res.ok (.val (dFr _))
    unfold vNum
    first | rw [if_pos t1] | rw [if_neg t1]
    try first | rw [if_pos t2] | rw [if_neg t2]
    try first | rw [if_pos t3] | rw [if_neg t3]
  case n1 =>
    try simp only [decide_eq_true_eq, decide_eq_false_iff_not, Bool.not_eq_true', Bool.not_eq_false', Bool.and_eq_true, Bool.or_eq_true, Bool.and_eq_false_iff, Bool.or_eq_false_iff, Bool.not_eq_true, Bool.not_eq_false, Decidable.not_not] at t1
    refine ds_when (dt_cmp (dc_eqI (de_mod (de_var (n := 0) rfl (pv 0)) de_int ?g4) de_int)) (fun t2 => ?y2) (fun t2 => ?n2)
    case g4 => decide
    case y2 =>
      try simp only [decide_eq_true_eq, decide_eq_false_iff_not, Bool.not_eq_true', Bool.not_eq_false', Bool.and_eq_true, Bool.or_eq_true, Bool.and_eq_false_iff, Bool.or_eq_false_iff, Bool.not_eq_true, Bool.not_eq_false, Decidable.not_not] at t2
      refine ds_ret (de_call h_law_low (hr.mono (by decide)) (by rfl) (da_cons (de_sub (de_mod (de_fdiv (de_var (n := 0) rfl (pv 0)) de_int ?g5) de_int ?g6) de_int) (da_cons (de_add de_int (de_mod (de_fdiv (de_var (n := 0) rfl (pv 0)) de_int ?g7) de_int ?g8)) da_nil)) ⟨_, _, rfl, ?g9, ?g10, rfl⟩) ?_
      case g5 => exact div_sm ⟨by decide, by decide⟩
      case g6 => decide
      case g7 => exact div_sm ⟨by decide, by decide⟩
      case g8 => decide
      case g9 => omega
      case g10 => exact Bt.lit (n := 8999) (Nat.lt_trans (show _ < 2 ^ 300 by omega) (Nat.pow_lt_pow_right (by decide) (by decide)))
      show Res.ok (.val (dFr (vNum c))) = Res.ok (.val (dFr _))
      unfold vNum
      first | rw [if_pos t1] | rw [if_neg t1]
      try first | rw [if_pos t2] | rw [if_neg t2]
      try first | rw [if_pos t3] | rw [if_neg t3]
    case n2 =>
      try simp only [decide_eq_true_eq, decide_eq_false_iff_not, Bool.not_eq_true', Bool.not_eq_false', Bool.and_eq_true, Bool.or_eq_true, Bool.and_eq_false_iff, Bool.or_eq_false_iff, Bool.not_eq_true, Bool.not_eq_false, Decidable.not_not] at t2
      refine ds_when (dt_cmp (dc_eqI (de_mod (de_var (n := 0) rfl (pv 0)) de_int ?g11) de_int)) (fun t3 => ?y3) (fun t3 => ?n3)
      case g11 => decide
      case y3 =>
        try simp only [decide_eq_true_eq, decide_eq_false_iff_not, Bool.not_eq_true', Bool.not_eq_false', Bool.and_eq_true, Bool.or_eq_true, Bool.and_eq_false_iff, Bool.or_eq_false_iff, Bool.not_eq_true, Bool.not_eq_false, Decidable.not_not] at t3
        refine ds_ret (de_call h_law_low (hr.mono (by decide)) (by rfl) (da_cons (de_sub (de_mod (de_fdiv (de_var (n := 0) rfl (pv 0)) de_int ?g12) de_int ?g13) de_int) (da_cons (de_add de_int (de_mod (de_fdiv (de_var (n := 0) rfl (pv 0)) de_int ?g14) de_int ?g15)) da_nil)) ⟨_, _, rfl, ?g16, ?g17, rfl⟩) ?_
        case g12 => exact div_sm ⟨by decide, by decide⟩
        case g13 => decide
        case g14 => exact div_sm ⟨by decide, by decide⟩
        case g15 => decide
        case g16 => omega
        case g17 => exact Bt.lit (n := 8999) (Nat.lt_trans (show _ < 2 ^ 300 by omega) (Nat.pow_lt_pow_right (by decide) (by decide)))
        show Res.ok (.val (dFr (vNum c))) = Res.ok (.val (dFr _))
        unfold vNum
        first | rw [if_pos t1] | rw [if_neg t1]
        try first | rw [if_pos t2] | rw [if_neg t2]
        try first | rw [if_pos t3] | rw [if_neg t3]
      case n3 =>
        try simp only [decide_eq_true_eq, decide_eq_false_iff_not, Bool.not_eq_true', Bool.not_eq_false', Bool.and_eq_true, Bool.or_eq_true, Bool.and_eq_false_iff, Bool.or_eq_false_iff, Bool.not_eq_true, Bool.not_eq_false, Decidable.not_not] at t3
        refine ds_ret (de_call h_law_low (hr.mono (by decide)) (by rfl) (da_cons (de_sub (de_mod (de_fdiv (de_var (n := 0) rfl (pv 0)) de_int ?g18) (de_add (de_mulS de_int (de_powN (n := 100000000000000000000000000000) de_int de_int ⟨by decide, by decide, by decide⟩ (by decide +kernel)) (by first | exact .inr ⟨by decide, by decide⟩ | exact .inl ⟨by decide, by decide⟩)) de_int) ?g19) (de_powN (n := 100000000000000000000000000000) de_int de_int ⟨by decide, by decide, by decide⟩ (by decide +kernel))) (da_cons (de_add de_int (de_mod (de_fdiv (de_var (n := 0) rfl (pv 0)) de_int ?g20) (de_powN (n := 100000000000000000000000000000) de_int de_int ⟨by decide, by decide, by decide⟩ (by decide +kernel)) ?g21)) da_nil)) ⟨_, _, rfl, ?g22, ?g23, rfl⟩) ?_
        case g18 => exact div_sm ⟨by decide, by decide⟩
        case g19 => decide
        case g20 => exact div_sm ⟨by decide, by decide⟩
        case g21 => decide
        case g22 => omega
        case g23 => exact Bt.lit (n := 8999) (Nat.lt_trans (show _ < 2 ^ 300 by omega) (Nat.pow_lt_pow_right (by decide) (by decide)))
        show Res.ok (.val (dFr (vNum c))) = Res.ok (.val (dFr _))
        unfold vNum
        first | rw [if_pos t1] | rw [if_neg t1]
        try first | rw [if_pos t2] | rw [if_neg t2]
        try first | rw [if_pos t3] | rw [if_neg t3]
theorem sc_law_text : FnScope ["_law_a"] ["_law_a"] (defScope (topS 52)) := ⟨rfl, rfl, rfl, by decide +kernel, rfl, by decide +kernel, by decide +kernel⟩
theorem ok_law_text  {zf : Addr} {zfd : FuncData} (zF : Fun K "_law_text" "_law_text" (topS 52) zf zfd) (m_str : mg "str" = none)     : FnOk P w K mg base (L2N.CX P w) 1 zf zfd ["_law_a"] (spF K (S_law_text)) := by
  have sc := sc_law_text
  refine fn_ok zF sc (by rintro ds r ⟨q, rfl, hq, rfl⟩; rfl) ?_
  rintro zcd zAr zou zs zH zE hr ds r ⟨q, rfl, hq, rfl⟩
  have hpo : PassesOwn (model P w) (cxOf (L2N.CX P w) P w K mg base ["_law_a"] "_law_text" (defScope (topS 52)) zf zcd zAr zou zs zH zE).A (cxOf (L2N.CX P w) P w K mg base ["_law_a"] "_law_text" (defScope (topS 52)) zf zcd zAr zou zs zH zE).env (cxOf (L2N.CX P w) P w K mg base ["_law_a"] "_law_text" (defScope (topS 52)) zf zcd zAr zou zs zH zE).xe := passes_of rfl
  have hu : Roomy (cxOf (L2N.CX P w) P w K mg base ["_law_a"] "_law_text" (defScope (topS 52)) zf zcd zAr zou zs zH zE) := hr.units
  refine ds_when (dt_cmp (dc_eqI (de_ixT (de_var (n := 0) rfl (pv 0)) de_int rfl) de_int)) (fun t1 => ?y1) (fun t1 => ?n1)
  case y1 =>
    try simp only [decide_eq_true_eq, decide_eq_false_iff_not, Bool.not_eq_true', Bool.not_eq_false', Bool.and_eq_true, Bool.or_eq_true, Bool.and_eq_false_iff, Bool.or_eq_false_iff, Bool.not_eq_true, Bool.not_eq_false, Decidable.not_not] at t1
    refine ds_ret (de_strI (by rfl) m_str (de_ixT (de_var (n := 0) rfl (pv 0)) de_int rfl) ?g1) ?_
    case g1 => first | exact log_big hq.nu | exact log_big (n := q.den) hq.de
    show Res.ok (.val (.str (tS (wrL q)))) = Res.ok (.val (.str (tS _)))
    rw [wr_one t1]
  case n1 =>
    try simp only [decide_eq_true_eq, decide_eq_false_iff_not, Bool.not_eq_true', Bool.not_eq_false', Bool.and_eq_true, Bool.or_eq_true, Bool.and_eq_false_iff, Bool.or_eq_false_iff, Bool.not_eq_true, Bool.not_eq_false, Decidable.not_not] at t1
    refine ds_ret (de_catS (de_catS (de_strI (by rfl) m_str (de_ixT (de_var (n := 0) rfl (pv 0)) de_int rfl) ?g2) (DE.of de_str (show _ = PyData.str (tS [47]) from rfl)) ?g3) (de_strI (by rfl) m_str (de_ixT (de_var (n := 0) rfl (pv 0)) de_int rfl) ?g4) ?g5) ?_
    case g2 => first | exact log_big hq.nu | exact log_big (n := q.den) hq.de
    case g3 => first | exact wr_len1 hq | exact wr_len2 hq
    case g4 => first | exact log_big hq.nu | exact log_big (n := q.den) hq.de
    case g5 => first | exact wr_len1 hq | exact wr_len2 hq
    show Res.ok (.val (.str (tS (wrL q)))) = Res.ok (.val (.str (tS _)))
    rw [wr_two t1]
theorem sc_law_row_text : FnScope ["_law_numbers", "_law_number"] ["_law_numbers"] (defScope (topS 53)) := ⟨rfl, rfl, rfl, by decide +kernel, rfl, by decide +kernel, by decide +kernel⟩
theorem ok_law_row_text  {zf : Addr} {zfd : FuncData} (zF : Fun K "_law_row_text" "_law_row_text" (topS 53) zf zfd)   (h_law_text : Has P w K mg base "_law_text" 1 S_law_text)   : FnOk P w K mg base (L2N.CX P w) 2 zf zfd ["_law_numbers"] (spF K (S_law_row_text)) := by
  have sc := sc_law_row_text
  refine fn_ok zF sc (by rintro ds r ⟨f, rfl, hz, hl, rfl⟩; rfl) ?_
  rintro zcd zAr zou zs zH zE hr ds r ⟨f, rfl, hz, hl, rfl⟩
  have hpo : PassesOwn (model P w) (cxOf (L2N.CX P w) P w K mg base ["_law_numbers", "_law_number"] "_law_row_text" (defScope (topS 53)) zf zcd zAr zou zs zH zE).A (cxOf (L2N.CX P w) P w K mg base ["_law_numbers", "_law_number"] "_law_row_text" (defScope (topS 53)) zf zcd zAr zou zs zH zE).env (cxOf (L2N.CX P w) P w K mg base ["_law_numbers", "_law_number"] "_law_row_text" (defScope (topS 53)) zf zcd zAr zou zs zH zE).xe := passes_of rfl
  have hu : Roomy (cxOf (L2N.CX P w) P w K mg base ["_law_numbers", "_law_number"] "_law_row_text" (defScope (topS 53)) zf zcd zAr zou zs zH zE) := hr.units
  refine ds_ret (de_join (DE.of de_str (show _ = PyData.str (tS [32]) from rfl)) ((dn_lc (own := [("_law_number", 1)]) (rs := (wsD (f.map wrL))) rfl sc.nd (di_list (de_var (n := 0) rfl (pv 0))) (blkOk_by (N := ["_law_numbers", "_law_number"]) (sc := defScope (topS 53)) (by decide +kernel)) (fun _ d => [(1, d)]) ?g3 ?g4 ?g5 (fun i d hd s H C cl fp => ?g1_hg) ?g1_he)).dq ?g6 (pe_join pe_w pe_w)) ?_
  case g1_hg => exact (dg_name (j := 1) (pg_name sc.nd rfl (by first | exact .inl rfl | exact .inr rfl)))
  case g1_he =>
    rintro i d y hd hy s H C cl fp
    rw [List.getElem?_map] at hd
    obtain ⟨x, hx, rfl⟩ := Option.map_eq_some_iff.mp hd
    rw [List.getElem?_map, List.getElem?_map, hx] at hy
    cases hy
    refine DE.of (de_call h_law_text (hr.mono (by decide)) (by rfl) (da_cons (de_var (n := 1) rfl (pv 1)) da_nil) ⟨_, rfl, ?g2, rfl⟩) ?_
    case g2 => exact hz x (List.mem_of_getElem? hx)
    rfl
  case g3 => simp
  case g4 => simp; omega
  case g5 => walk_at "hf_hin"
  case g6 => exact (rw_len hz hl).2
  walk_at "hf_ret"
theorem sc_law_row_textT : FnScope ["_law_numbers", "_law_number"] ["_law_numbers"] (defScope (topS 53)) := ⟨rfl, rfl, rfl, by decide +kernel, rfl, by decide +kernel, by decide +kernel⟩
theorem ok_law_row_textT  {zf : Addr} {zfd : FuncData} (zF : Fun K "_law_row_text" "_law_row_text" (topS 53) zf zfd)   (h_law_text : Has P w K mg base "_law_text" 1 S_law_text)   : FnOk P w K mg base (L2N.CX P w) 2 zf zfd ["_law_numbers"] (spF K (S_law_row_textT)) := by
  have sc := sc_law_row_textT
  refine fn_ok zF sc (by rintro ds r ⟨f, rfl, hz, hl, rfl⟩; rfl) ?_
  rintro zcd zAr zou zs zH zE hr ds r ⟨f, rfl, hz, hl, rfl⟩
  have hpo : PassesOwn (model P w) (cxOf (L2N.CX P w) P w K mg base ["_law_numbers", "_law_number"] "_law_row_text" (defScope (topS 53)) zf zcd zAr zou zs zH zE).A (cxOf (L2N.CX P w) P w K mg base ["_law_numbers", "_law_number"] "_law_row_text" (defScope (topS 53)) zf zcd zAr zou zs zH zE).env (cxOf (L2N.CX P w) P w K mg base ["_law_numbers", "_law_number"] "_law_row_text" (defScope (topS 53)) zf zcd zAr zou zs zH zE).xe := passes_of rfl
  have hu : Roomy (cxOf (L2N.CX P w) P w K mg base ["_law_numbers", "_law_number"] "_law_row_text" (defScope (topS 53)) zf zcd zAr zou zs zH zE) := hr.units
  refine ds_ret (de_join (DE.of de_str (show _ = PyData.str (tS [32]) from rfl)) ((dn_lc (own := [("_law_number", 1)]) (rs := (wsD (f.map wrL))) rfl sc.nd (di_tup (de_var (n := 0) rfl (pv 0))) (blkOk_by (N := ["_law_numbers", "_law_number"]) (sc := defScope (topS 53)) (by decide +kernel)) (fun _ d => [(1, d)]) ?g3 ?g4 ?g5 (fun i d hd s H C cl fp => ?g1_hg) ?g1_he)).dq ?g6 (pe_join pe_w pe_w)) ?_
  case g1_hg => exact (dg_name (j := 1) (pg_name sc.nd rfl (by first | exact .inl rfl | exact .inr rfl)))
  case g1_he =>
    rintro i d y hd hy s H C cl fp
    rw [List.getElem?_map] at hd
    obtain ⟨x, hx, rfl⟩ := Option.map_eq_some_iff.mp hd
    rw [List.getElem?_map, List.getElem?_map, hx] at hy
    cases hy
    refine DE.of (de_call h_law_text (hr.mono (by decide)) (by rfl) (da_cons (de_var (n := 1) rfl (pv 1)) da_nil) ⟨_, rfl, ?g2, rfl⟩) ?_
    case g2 => exact hz x (List.mem_of_getElem? hx)
    rfl
  case g3 => simp
  case g4 => simp; omega
  case g5 => walk_at "hf_hin"
  case g6 => exact (rw_len hz hl).2
  walk_at "hf_ret"
theorem sc_law_weights_text : FnScope ["_law_levels", "_law_downs"] ["_law_levels", "_law_downs"] (defScope (topS 54)) := ⟨rfl, rfl, rfl, by decide +kernel, rfl, by decide +kernel, by decide +kernel⟩
theorem ok_law_weights_text  {zf : Addr} {zfd : FuncData} (zF : Fun K "_law_weights_text" "_law_weights_text" (topS 54) zf zfd) (m_len : mg "len" = none)  (h_law_row_text : Has P w K mg base "_law_row_text" 2 S_law_row_text)   : FnOk P w K mg base (L2N.CX P w) 3 zf zfd ["_law_levels", "_law_downs"] (spF K (S_law_weights_text)) := by
  have sc := sc_law_weights_text
  refine fn_ok zF sc (by rintro ds r ⟨lv, dn, rfl, hz1, l1, hz2, l2, rfl⟩; rfl) ?_
  rintro zcd zAr zou zs zH zE hr ds r ⟨lv, dn, rfl, hz1, l1, hz2, l2, rfl⟩
  have hpo : PassesOwn (model P w) (cxOf (L2N.CX P w) P w K mg base ["_law_levels", "_law_downs"] "_law_weights_text" (defScope (topS 54)) zf zcd zAr zou zs zH zE).A (cxOf (L2N.CX P w) P w K mg base ["_law_levels", "_law_downs"] "_law_weights_text" (defScope (topS 54)) zf zcd zAr zou zs zH zE).env (cxOf (L2N.CX P w) P w K mg base ["_law_levels", "_law_downs"] "_law_weights_text" (defScope (topS 54)) zf zcd zAr zou zs zH zE).xe := passes_of rfl
  have hu : Roomy (cxOf (L2N.CX P w) P w K mg base ["_law_levels", "_law_downs"] "_law_weights_text" (defScope (topS 54)) zf zcd zAr zou zs zH zE) := hr.units
  refine ds_when (dt_cmp (dc_eqI (de_lenL (by rfl) m_len (de_var (n := 1) rfl (pv 1))) de_int)) (fun t1 => ?y1) (fun t1 => ?n1)
  case y1 =>
    try simp only [decide_eq_true_eq, decide_eq_false_iff_not, Bool.not_eq_true', Bool.not_eq_false', Bool.and_eq_true, Bool.or_eq_true, Bool.and_eq_false_iff, Bool.or_eq_false_iff, Bool.not_eq_true, Bool.not_eq_false, Decidable.not_not] at t1
    refine ds_ret (de_call h_law_row_text (hr.mono (by decide)) (by rfl) (da_cons (de_var (n := 0) rfl (pv 0)) da_nil) ⟨_, rfl, ?g1, ?g2, rfl⟩) ?_
    case g1 => first | exact hz1 | exact hz2
    case g2 => first | exact l1 | exact l2
    show Res.ok (.val (.str (tS (wtL lv dn)))) = _
    rw [wt_0 t1]
  case n1 =>
    try simp only [decide_eq_true_eq, decide_eq_false_iff_not, Bool.not_eq_true', Bool.not_eq_false', Bool.and_eq_true, Bool.or_eq_true, Bool.and_eq_false_iff, Bool.or_eq_false_iff, Bool.not_eq_true, Bool.not_eq_false, Decidable.not_not] at t1
    refine ds_ret (de_catS (de_catS (de_call h_law_row_text (hr.mono (by decide)) (by rfl) (da_cons (de_var (n := 0) rfl (pv 0)) da_nil) ⟨_, rfl, ?g3, ?g4, rfl⟩) (DE.of de_str (show _ = PyData.str (tS [59, 32]) from rfl)) ?g5) (de_call h_law_row_text (hr.mono (by decide)) (by rfl) (da_cons (de_var (n := 1) rfl (pv 1)) da_nil) ⟨_, rfl, ?g6, ?g7, rfl⟩) ?g8) ?_
    case g3 => first | exact hz1 | exact hz2
    case g4 => first | exact l1 | exact l2
    case g5 => first | exact wt_len1 hz1 l1 | exact wt_len2 hz1 l1 hz2 l2
    case g6 => first | exact hz1 | exact hz2
    case g7 => first | exact l1 | exact l2
    case g8 => first | exact wt_len1 hz1 l1 | exact wt_len2 hz1 l1 hz2 l2
    show Res.ok (.val (.str (tS (wtL lv dn)))) = _
    rw [wt_1 t1]
theorem sc_law_small : FnScope ["_law_c"] ["_law_c"] (defScope (topS 55)) := ⟨rfl, rfl, rfl, by decide +kernel, rfl, by decide +kernel, by decide +kernel⟩
theorem ok_law_small  {zf : Addr} {zfd : FuncData} (zF : Fun K "_law_small" "_law_small" (topS 55) zf zfd)   (h_law_low : Has P w K mg base "_law_low" 2 S_law_low)   : FnOk P w K mg base (L2N.CX P w) 3 zf zfd ["_law_c"] (spF K (S_law_small)) := by
  have sc := sc_law_small
  refine fn_ok zF sc (by rintro ds r ⟨c, rfl, rfl⟩; rfl) ?_
  rintro zcd zAr zou zs zH zE hr ds r ⟨c, rfl, rfl⟩
  have hpo : PassesOwn (model P w) (cxOf (L2N.CX P w) P w K mg base ["_law_c"] "_law_small" (defScope (topS 55)) zf zcd zAr zou zs zH zE).A (cxOf (L2N.CX P w) P w K mg base ["_law_c"] "_law_small" (defScope (topS 55)) zf zcd zAr zou zs zH zE).env (cxOf (L2N.CX P w) P w K mg base ["_law_c"] "_law_small" (defScope (topS 55)) zf zcd zAr zou zs zH zE).xe := passes_of rfl
  have hu : Roomy (cxOf (L2N.CX P w) P w K mg base ["_law_c"] "_law_small" (defScope (topS 55)) zf zcd zAr zou zs zH zE) := hr.units
  refine ds_when (dt_cmp (dc_eqI (de_mod (de_var (n := 0) rfl (pv 0)) de_int ?g1) de_int)) (fun t1 => ?y1) (fun t1 => ?n1)
  case g1 => decide
  case y1 =>
    try simp only [decide_eq_true_eq, decide_eq_false_iff_not, Bool.not_eq_true', Bool.not_eq_false', Bool.and_eq_true, Bool.or_eq_true, Bool.and_eq_false_iff, Bool.or_eq_false_iff, Bool.not_eq_true, Bool.not_eq_false, Decidable.not_not] at t1
    refine ds_ret (de_frI (de_sub (de_mod (de_fdiv (de_var (n := 0) rfl (pv 0)) de_int ?g2) de_int ?g3) de_int)) ?_
    case g2 => exact div_sm ⟨by decide, by decide⟩
    case g3 => decide
    show Res.ok (.val (dFr (vSm c))) = Res.ok (.val (dFr _))
    unfold vSm
    first | rw [if_pos t1] | rw [if_neg t1]
  case n1 =>
    try simp only [decide_eq_true_eq, decide_eq_false_iff_not, Bool.not_eq_true', Bool.not_eq_false', Bool.and_eq_true, Bool.or_eq_true, Bool.and_eq_false_iff, Bool.or_eq_false_iff, Bool.not_eq_true, Bool.not_eq_false, Decidable.not_not] at t1
    refine ds_ret (de_call h_law_low (hr.mono (by decide)) (by rfl) (da_cons (de_sub (de_mod (de_fdiv (de_var (n := 0) rfl (pv 0)) de_int ?g4) de_int ?g5) de_int) (da_cons (de_add de_int (de_mod (de_fdiv (de_var (n := 0) rfl (pv 0)) de_int ?g6) de_int ?g7)) da_nil)) ⟨_, _, rfl, ?g8, ?g9, rfl⟩) ?_
    case g4 => exact div_sm ⟨by decide, by decide⟩
    case g5 => decide
    case g6 => exact div_sm ⟨by decide, by decide⟩
    case g7 => decide
    case g8 => omega
    case g9 => exact Bt.lit (n := 8999) (Nat.lt_trans (show _ < 2 ^ 300 by omega) (Nat.pow_lt_pow_right (by decide) (by decide)))
    show Res.ok (.val (dFr (vSm c))) = Res.ok (.val (dFr _))
    unfold vSm
    first | rw [if_pos t1] | rw [if_neg t1]
theorem sc_law_figures : FnScope ["_law_text_here", "_law_most", "_law_number", "_law_sign_here"] ["_law_text_here", "_law_most"] (defScope (topS 56)) := ⟨rfl, rfl, rfl, by decide +kernel, rfl, by decide +kernel, by decide +kernel⟩
theorem ok_law_figures  {zf : Addr} {zfd : FuncData} (zF : Fun K "_law_figures" "_law_figures" (topS 56) zf zfd) (m_len : mg "len" = none)     : FnOk P w K mg base (L2N.CX P w) 1 zf zfd ["_law_text_here", "_law_most"] (spF K (S_law_figures)) := by
  have sc := sc_law_figures
  refine fn_ok zF sc (by rintro ds r ⟨l, m, rfl, hl, rfl⟩; rfl) ?_
  rintro zcd zAr zou zs zH zE hr ds r ⟨l, m, rfl, hl, rfl⟩
  have hpo : PassesOwn (model P w) (cxOf (L2N.CX P w) P w K mg base ["_law_text_here", "_law_most", "_law_number", "_law_sign_here"] "_law_figures" (defScope (topS 56)) zf zcd zAr zou zs zH zE).A (cxOf (L2N.CX P w) P w K mg base ["_law_text_here", "_law_most", "_law_number", "_law_sign_here"] "_law_figures" (defScope (topS 56)) zf zcd zAr zou zs zH zE).env (cxOf (L2N.CX P w) P w K mg base ["_law_text_here", "_law_most", "_law_number", "_law_sign_here"] "_law_figures" (defScope (topS 56)) zf zcd zAr zou zs zH zE).xe := passes_of rfl
  have hu : Roomy (cxOf (L2N.CX P w) P w K mg base ["_law_text_here", "_law_most", "_law_number", "_law_sign_here"] "_law_figures" (defScope (topS 56)) zf zcd zAr zou zs zH zE) := hr.units
  refine ds_when (dt_or (dt_cmp (dc_eqI (de_lenS (by rfl) m_len (de_var (n := 0) rfl (pv 0)) ?g1) de_int)) (fun q1 => (dw_or (dt_cmp (dc_gt (de_lenS (by rfl) m_len (de_var (n := 0) rfl (pv 0)) ?g2) (de_var (n := 1) rfl (pv 1)))) (fun q2 => (dw_or1 (dt_and (dt_cmp (dc_eqS (de_ixS (de_var (n := 0) rfl (pv 0)) de_int ?g3 (at_head0 (of_decide_eq_false q1))) (DE.of de_str (show _ = PyData.str (tS [48]) from rfl)))) (fun q3 => (dw_and1 (dt_cmp (dc_gt (de_lenS (by rfl) m_len (de_var (n := 0) rfl (pv 0)) ?g5) de_int)))))))))) (fun t1 => ?y1) (fun t1 => ?n1)
  case g1 => exact Nat.le_trans hl (by decide)
  case g2 => exact Nat.le_trans hl (by decide)
  case g3 => exact Nat.le_trans hl (by decide)
  case g5 => exact Nat.le_trans hl (by decide)
  case y1 =>
    have h0 : whM0 m l = true := by rw [← wh0_eqM m l]; exact t1
    refine ds_ret de_non ?_
    show Res.ok (.val (oN (whM m l))) = _
    rw [wm_n0 h0]; rfl
  case n1 =>
    have h0 : whM0 m l = false := by rw [← wh0_eqM m l]; exact t1
    refine ds_set (i := 2) de_int (ps_set sc.nd rfl (.inl rfl) pe_w) ?_
    refine ds_for (fun i Γ' => ∃ c3, Γ' = [.d (.str (tS l)), .d (.int (m : Int)), .d (.int ((NumText.digitsVal (l.take i) : Nat) : Int)), c3] ∧ ∀ m, m < i → isF (l.getD m 0) = true) (fun _ d => [(3, d)]) hpo rfl (di_str (de_var (n := 0) rfl (pv 0))) ?hg_1 ?h0_1 ?hb_1 ?hd_1
    case hg_1 =>
      exact fun i d _ => (dg_name (j := 3) (pg_name sc.nd rfl (.inl rfl)))
    case h0_1 =>
      exact ⟨_, rfl, fun m h => absurd h (by omega)⟩
    case hb_1 =>
      rintro i d Γ' hi ⟨c3, rfl, hm⟩
      obtain ⟨c, hc, rfl⟩ := signs_tS hi
      refine ds_when (dt_cmp (dc_notinS (de_var (n := 3) rfl (pv 3)) (DE.of de_str (show _ = PyData.str (tS [48, 49, 50, 51, 52, 53, 54, 55, 56, 57]) from rfl)))) (fun t2 => ?y2) (fun t2 => ?n2)
      case y2 =>
        have h2 : isF c = false := by
          rw [← in_fig]
          have : (!decide (c ∈ [48, 49, 50, 51, 52, 53, 54, 55, 56, 57])) = true := t2
          generalize decide (c ∈ [48, 49, 50, 51, 52, 53, 54, 55, 56, 57]) = b at this ⊢
          cases b
          · rfl
          · cases this
        refine ds_ret de_non ?_
        show Res.ok (.val (oN (whM m l))) = _
        rw [wm_n1 hc h2]; rfl
      case n2 =>
        have h2 : isF c = true := by
          rw [← in_fig]
          have : (!decide (c ∈ [48, 49, 50, 51, 52, 53, 54, 55, 56, 57])) = false := t2
          generalize decide (c ∈ [48, 49, 50, 51, 52, 53, 54, 55, 56, 57]) = b at this ⊢
          cases b
          · cases this
          · rfl
        refine ds_set (i := 2) (de_add (de_mulS (de_var (n := 2) rfl (pv 2)) de_int (by first | exact .inr ⟨by decide, by decide⟩ | exact .inl ⟨by decide, by decide⟩)) (de_sindex (DE.of de_str (show _ = PyData.str (tS [48, 49, 50, 51, 52, 53, 54, 55, 56, 57]) from rfl)) (de_var (n := 3) rfl (pv 3)) (sidx10 h2) (pe_bm PySem.F.plainAttrs_str PySem.F.slot_str_index PySem.F.type_str_index mt_sindex pe_w (pa_cons pe_w pa_nil)))) (ps_set sc.nd rfl (.inl rfl) pe_w) ?_
        refine ds_nil ?_
        rw [dv_snoc hc]
        exact ⟨_, rfl, al_step hm hc h2⟩
    case hd_1 =>
      rintro Γ' ⟨c3, rfl, hm⟩
      rw [signs_len] at hm ⊢
      rw [List.take_length]
      refine ds_ret (de_var (n := 2) rfl (pv 2)) ?_
      show Res.ok (.val (oN (whM m l))) = _
      rw [wm_s h0 hm]; rfl
theorem sc_law_read_by : FnScope ["_law_word", "_law_most", "_law_bound", "_law_below", "_law_parts", "_law_top", "_law_bottom"] ["_law_word", "_law_most", "_law_bound"] (defScope (topS 57)) := ⟨rfl, rfl, rfl, by decide +kernel, rfl, by decide +kernel, by decide +kernel⟩
theorem ok_law_read_by  {zf : Addr} {zfd : FuncData} (zF : Fun K "_law_read_by" "_law_read_by" (topS 57) zf zfd) (m_int : mg "int" = none) (m_len : mg "len" = none)  (h_law_divisor : Has P w K mg base "_law_divisor" 1 S_law_divisor) (h_law_figures : Has P w K mg base "_law_figures" 1 S_law_figures)   : FnOk P w K mg base (L2N.CX P w) 2 zf zfd ["_law_word", "_law_most", "_law_bound"] (spF K (S_law_read_by)) := by
  have sc := sc_law_read_by
  refine fn_ok zF sc (by rintro ds r ⟨l, rfl, hl, rfl⟩; rfl) ?_
  rintro zcd zAr zou zs zH zE hr ds r ⟨l, rfl, hl, rfl⟩
  have hpo : PassesOwn (model P w) (cxOf (L2N.CX P w) P w K mg base ["_law_word", "_law_most", "_law_bound", "_law_below", "_law_parts", "_law_top", "_law_bottom"] "_law_read_by" (defScope (topS 57)) zf zcd zAr zou zs zH zE).A (cxOf (L2N.CX P w) P w K mg base ["_law_word", "_law_most", "_law_bound", "_law_below", "_law_parts", "_law_top", "_law_bottom"] "_law_read_by" (defScope (topS 57)) zf zcd zAr zou zs zH zE).env (cxOf (L2N.CX P w) P w K mg base ["_law_word", "_law_most", "_law_bound", "_law_below", "_law_parts", "_law_top", "_law_bottom"] "_law_read_by" (defScope (topS 57)) zf zcd zAr zou zs zH zE).xe := passes_of rfl
  have hu : Roomy (cxOf (L2N.CX P w) P w K mg base ["_law_word", "_law_most", "_law_bound", "_law_below", "_law_parts", "_law_top", "_law_bottom"] "_law_read_by" (defScope (topS 57)) zf zcd zAr zou zs zH zE) := hr.units
  refine ds_set (i := 3) (de_cmp (dc_eqS (de_slS (de_var (n := 0) rfl (pv 0)) do_none (do_some de_int) ?g1) (DE.of de_str (show _ = PyData.str (tS [45]) from rfl)))) (ps_set sc.nd rfl (.inl rfl) pe_w) ?_
  case g1 => exact Nat.le_trans hl (by decide)
  refine ds_setN (i := 4) (dn_split (de_slS (de_var (n := 0) rfl (pv 0)) (do_some (de_intB (by rfl) m_int (de_var (n := 3) rfl (pv 3)))) do_none ?g2) (DE.of de_str (show _ = PyData.str (tS [47]) from rfl)) (by decide) (by decide) ?g3 (pe_split pe_w pe_w)) (ps_set sc.nd rfl (.inl rfl) pe_w) ?_
  case g2 => exact Nat.le_trans hl (by decide)
  case g3 => exact Nat.le_trans (cut_le hl _ _) (by decide)
  rw [drM_cut, dsB_cut]
  obtain ⟨p, ps, hp⟩ := pts_ne (drM l)
  rcases ps with _ | ⟨c, _ | ⟨e, r⟩⟩
  ·
    obtain ⟨a, ha⟩ : ∃ a, a = p := ⟨_, rfl⟩
    rw [← ha] at hp
    have hla := pts_len (drM l) a (by rw [hp]; exact .head _)
    rw [show wsD (TL.spl [47] 0 [] (drM l)) = wsD (pts (drM l)) from rfl, hp]
    refine ds_when (dt_cmp (dc_gt (de_lenM (by rfl) m_len (dl_var (n := 4) rfl (pv 4))) de_int)) (fun t1 => ?y1) (fun t1 => ?n1)
    case y1 =>
      exact absurd t1 (by simp)
      skip
    case n1 =>
      skip
      refine ds_set (i := 5) (de_call h_law_figures (hr.mono (by decide)) (by rfl) (da_cons (de_ixM (dl_var (n := 4) rfl (pv 4)) de_int (rfl)) (da_cons (de_var (n := 1) rfl (pv 1)) da_nil)) ⟨_, 6, rfl, ?g5, rfl⟩) (ps_set sc.nd rfl (.inl rfl) pe_w) ?_
      case g5 => first | exact Nat.le_trans hla (Nat.le_trans (drM_len l) hl) | exact Nat.le_trans hlc (Nat.le_trans (drM_len l) hl)
      rcases hA : whM 6 a with _ | t
      ·
        refine ds_set (i := 6) de_int (ps_set sc.nd rfl (.inl rfl) pe_w) ?_
        refine ds_when (dt_cmp (dc_eqI (de_lenM (by rfl) m_len (dl_var (n := 4) rfl (pv 4))) de_int)) (fun t2 => ?y2) (fun t2 => ?n2)
        case y2 =>
          exact absurd t2 (by simp)
          skip
        case n2 =>
          skip
          refine ds_when (dt_or (n := true) (dt_cmp (dc_isN (de_var (n := 5) rfl (pv 5)))) (fun q1 => absurd q1 (by first | decide | simp [Hf.isNon] | (show ¬ (false = true); decide) | (show ¬ (true = false); decide)))) (fun t3 => ?y3) (fun t3 => ?n3)
          case y3 =>
            skip
            refine ds_ret de_non ?_
            show Res.ok (.val (oFr (smR l))) = _
            refine (congrArg (fun o => Res.ok (.val (oFr o))) (rs_a0 hp hA)).trans rfl
          case n3 =>
            exact absurd t3 (by first | decide | simp [Hf.isNon])
            skip
      ·
        refine ds_set (i := 6) de_int (ps_set sc.nd rfl (.inl rfl) pe_w) ?_
        refine ds_when (dt_cmp (dc_eqI (de_lenM (by rfl) m_len (dl_var (n := 4) rfl (pv 4))) de_int)) (fun t4 => ?y4) (fun t4 => ?n4)
        case y4 =>
          exact absurd t4 (by simp)
          skip
        case n4 =>
          skip
          refine ds_when (dt_or (dt_cmp (dc_isN (de_var (n := 5) rfl (pv 5)))) (fun q2 => (dw_or (dt_cmp (dc_isN (de_var (n := 6) rfl (pv 6)))) (fun q3 => (dw_or1 (dt_and (dt_val (de_var (n := 3) rfl (pv 3))) (fun q4 => (dw_and1 (dt_cmp (dc_eqI (de_var (n := 5) rfl (pv 5)) de_int)))))))))) (fun t5 => ?y5) (fun t5 => ?n5)
          case y5 =>
            have h0 : (dsB l && decide ((t : Int) = 0)) = true := t5
            refine ds_ret de_non ?_
            show Res.ok (.val (oFr (smR l))) = _
            refine (congrArg (fun o => Res.ok (.val (oFr o))) (rs_an hp hA h0)).trans rfl
          case n5 =>
            have h0 : (dsB l && decide ((t : Int) = 0)) = false := t5
            refine ds_when (dt_and (dt_cmp (dc_eqI (de_lenM (by rfl) m_len (dl_var (n := 4) rfl (pv 4))) de_int)) (fun q5 => (dw_and1 (dt_or (dt_cmp (dc_lt (de_var (n := 6) rfl (pv 6)) de_int)) (fun q6 => (dw_or (dt_cmp (dc_gt (de_var (n := 6) rfl (pv 6)) (de_var (n := 2) rfl (pv 2)))) (fun q7 => (dw_or1 (dt_cmp (dc_neI (de_call h_law_divisor (hr.mono (by decide)) (by rfl) (da_cons (de_var (n := 5) rfl (pv 5)) (da_cons (de_var (n := 6) rfl (pv 6)) da_nil)) ⟨_, _, rfl, rfl⟩) de_int)))))))))) (fun t6 => ?y6) (fun t6 => ?n6)
            case y6 =>
              exact absurd t6 (by simp)
              skip
            case n6 =>
              skip
              refine ds_when (dt_val (de_var (n := 3) rfl (pv 3))) (fun t7 => ?y7) (fun t7 => ?n7)
              case y7 =>
                try simp only [decide_eq_true_eq, decide_eq_false_iff_not, Bool.not_eq_true', Bool.not_eq_false', Bool.and_eq_true, Bool.or_eq_true, Bool.and_eq_false_iff, Bool.or_eq_false_iff, Bool.not_eq_true, Bool.not_eq_false, Decidable.not_not] at t7
                refine ds_ret (de_tup (da_cons (de_sub de_int (de_var (n := 5) rfl (pv 5))) (da_cons (de_var (n := 6) rfl (pv 6)) da_nil)) (Nat.le_of_ble_eq_true rfl)) ?_
                show Res.ok (.val (oFr (smR l))) = _
                rw [rs_ap hp hA h0]
                unfold sgT
                rw [if_pos (by assumption)]
                rfl
              case n7 =>
                try simp only [decide_eq_true_eq, decide_eq_false_iff_not, Bool.not_eq_true', Bool.not_eq_false', Bool.and_eq_true, Bool.or_eq_true, Bool.and_eq_false_iff, Bool.or_eq_false_iff, Bool.not_eq_true, Bool.not_eq_false, Decidable.not_not] at t7
                refine ds_ret (de_tup (da_cons (de_var (n := 5) rfl (pv 5)) (da_cons (de_var (n := 6) rfl (pv 6)) da_nil)) (Nat.le_of_ble_eq_true rfl)) ?_
                show Res.ok (.val (oFr (smR l))) = _
                rw [rs_ap hp hA h0]
                unfold sgT
                rw [if_neg (by rw [(by assumption : dsB l = false)]; decide)]
                rfl
  ·
    obtain ⟨a, ha⟩ : ∃ a, a = p := ⟨_, rfl⟩
    rw [← ha] at hp
    have hla := pts_len (drM l) a (by rw [hp]; exact .head _)
    have hlc := pts_len (drM l) c (by rw [hp]; exact .tail _ (.head _))
    rw [show wsD (TL.spl [47] 0 [] (drM l)) = wsD (pts (drM l)) from rfl, hp]
    refine ds_when (dt_cmp (dc_gt (de_lenM (by rfl) m_len (dl_var (n := 4) rfl (pv 4))) de_int)) (fun t8 => ?y8) (fun t8 => ?n8)
    case y8 =>
      exact absurd t8 (by simp)
      skip
    case n8 =>
      skip
      refine ds_set (i := 5) (de_call h_law_figures (hr.mono (by decide)) (by rfl) (da_cons (de_ixM (dl_var (n := 4) rfl (pv 4)) de_int (rfl)) (da_cons (de_var (n := 1) rfl (pv 1)) da_nil)) ⟨_, 6, rfl, ?g7, rfl⟩) (ps_set sc.nd rfl (.inl rfl) pe_w) ?_
      case g7 => first | exact Nat.le_trans hla (Nat.le_trans (drM_len l) hl) | exact Nat.le_trans hlc (Nat.le_trans (drM_len l) hl)
      rcases hA : whM 6 a with _ | t
      ·
        refine ds_set (i := 6) de_int (ps_set sc.nd rfl (.inl rfl) pe_w) ?_
        refine ds_when (dt_cmp (dc_eqI (de_lenM (by rfl) m_len (dl_var (n := 4) rfl (pv 4))) de_int)) (fun t9 => ?y9) (fun t9 => ?n9)
        case y9 =>
          skip
          refine ds_set (i := 6) (de_call h_law_figures (hr.mono (by decide)) (by rfl) (da_cons (de_ixM (dl_var (n := 4) rfl (pv 4)) de_int (rfl)) (da_cons de_int da_nil)) ⟨_, 30, rfl, ?g9, rfl⟩) (ps_set sc.nd rfl (.inl rfl) pe_w) ?_
          case g9 => first | exact Nat.le_trans hla (Nat.le_trans (drM_len l) hl) | exact Nat.le_trans hlc (Nat.le_trans (drM_len l) hl)
          refine ds_nil ?_
          refine ds_when (dt_or (n := true) (dt_cmp (dc_isN (de_var (n := 5) rfl (pv 5)))) (fun q8 => absurd q8 (by first | decide | simp [Hf.isNon] | (show ¬ (false = true); decide) | (show ¬ (true = false); decide)))) (fun t10 => ?y10) (fun t10 => ?n10)
          case y10 =>
            skip
            refine ds_ret de_non ?_
            show Res.ok (.val (oFr (smR l))) = _
            refine (congrArg (fun o => Res.ok (.val (oFr o))) (rs_c0 hp (.inl hA))).trans rfl
          case n10 =>
            exact absurd t10 (by first | decide | simp [Hf.isNon])
            skip
        case n9 =>
          exact absurd t9 (by simp)
          skip
      ·
        refine ds_set (i := 6) de_int (ps_set sc.nd rfl (.inl rfl) pe_w) ?_
        refine ds_when (dt_cmp (dc_eqI (de_lenM (by rfl) m_len (dl_var (n := 4) rfl (pv 4))) de_int)) (fun t11 => ?y11) (fun t11 => ?n11)
        case y11 =>
          skip
          refine ds_set (i := 6) (de_call h_law_figures (hr.mono (by decide)) (by rfl) (da_cons (de_ixM (dl_var (n := 4) rfl (pv 4)) de_int (rfl)) (da_cons de_int da_nil)) ⟨_, 30, rfl, ?g11, rfl⟩) (ps_set sc.nd rfl (.inl rfl) pe_w) ?_
          case g11 => first | exact Nat.le_trans hla (Nat.le_trans (drM_len l) hl) | exact Nat.le_trans hlc (Nat.le_trans (drM_len l) hl)
          refine ds_nil ?_
          rcases hC : whM 30 c with _ | n
          ·
            refine ds_when (dt_or (dt_cmp (dc_isN (de_var (n := 5) rfl (pv 5)))) (fun q9 => (dw_or (n := true) (dt_cmp (dc_isN (de_var (n := 6) rfl (pv 6)))) (fun q10 => absurd q10 (by first | decide | simp [Hf.isNon] | (show ¬ (false = true); decide) | (show ¬ (true = false); decide)))))) (fun t12 => ?y12) (fun t12 => ?n12)
            case y12 =>
              skip
              refine ds_ret de_non ?_
              show Res.ok (.val (oFr (smR l))) = _
              refine (congrArg (fun o => Res.ok (.val (oFr o))) (rs_c0 hp (.inr hC))).trans rfl
            case n12 =>
              exact absurd t12 (by first | decide | simp [Hf.isNon])
              skip
          ·
            refine ds_when (dt_or (dt_cmp (dc_isN (de_var (n := 5) rfl (pv 5)))) (fun q11 => (dw_or (dt_cmp (dc_isN (de_var (n := 6) rfl (pv 6)))) (fun q12 => (dw_or1 (dt_and (dt_val (de_var (n := 3) rfl (pv 3))) (fun q13 => (dw_and1 (dt_cmp (dc_eqI (de_var (n := 5) rfl (pv 5)) de_int)))))))))) (fun t13 => ?y13) (fun t13 => ?n13)
            case y13 =>
              have h0 : (dsB l && decide ((t : Int) = 0)) = true := t13
              refine ds_ret de_non ?_
              show Res.ok (.val (oFr (smR l))) = _
              refine (congrArg (fun o => Res.ok (.val (oFr o))) (rs_cn hp hA hC h0)).trans rfl
            case n13 =>
              have h0 : (dsB l && decide ((t : Int) = 0)) = false := t13
              refine ds_when (dt_and (dt_cmp (dc_eqI (de_lenM (by rfl) m_len (dl_var (n := 4) rfl (pv 4))) de_int)) (fun q14 => (dw_and1 (dt_or (dt_cmp (dc_lt (de_var (n := 6) rfl (pv 6)) de_int)) (fun q15 => (dw_or (dt_cmp (dc_gt (de_var (n := 6) rfl (pv 6)) (de_var (n := 2) rfl (pv 2)))) (fun q16 => (dw_or1 (dt_cmp (dc_neI (de_call h_law_divisor (hr.mono (by decide)) (by rfl) (da_cons (de_var (n := 5) rfl (pv 5)) (da_cons (de_var (n := 6) rfl (pv 6)) da_nil)) ⟨_, _, rfl, rfl⟩) de_int)))))))))) (fun t14 => ?y14) (fun t14 => ?n14)
              case y14 =>
                have h1 := gs_y t14
                refine ds_ret de_non ?_
                show Res.ok (.val (oFr (smR l))) = _
                refine (congrArg (fun o => Res.ok (.val (oFr o))) (rs_cb hp hA hC h0 h1)).trans rfl
              case n14 =>
                have h1 := gs_n t14
                refine ds_when (dt_val (de_var (n := 3) rfl (pv 3))) (fun t15 => ?y15) (fun t15 => ?n15)
                case y15 =>
                  try simp only [decide_eq_true_eq, decide_eq_false_iff_not, Bool.not_eq_true', Bool.not_eq_false', Bool.and_eq_true, Bool.or_eq_true, Bool.and_eq_false_iff, Bool.or_eq_false_iff, Bool.not_eq_true, Bool.not_eq_false, Decidable.not_not] at t15
                  refine ds_ret (de_tup (da_cons (de_sub de_int (de_var (n := 5) rfl (pv 5))) (da_cons (de_var (n := 6) rfl (pv 6)) da_nil)) (Nat.le_of_ble_eq_true rfl)) ?_
                  show Res.ok (.val (oFr (smR l))) = _
                  rw [rs_cp hp hA hC h0 h1]
                  unfold sgT
                  rw [if_pos (by assumption)]
                  rfl
                case n15 =>
                  try simp only [decide_eq_true_eq, decide_eq_false_iff_not, Bool.not_eq_true', Bool.not_eq_false', Bool.and_eq_true, Bool.or_eq_true, Bool.and_eq_false_iff, Bool.or_eq_false_iff, Bool.not_eq_true, Bool.not_eq_false, Decidable.not_not] at t15
                  refine ds_ret (de_tup (da_cons (de_var (n := 5) rfl (pv 5)) (da_cons (de_var (n := 6) rfl (pv 6)) da_nil)) (Nat.le_of_ble_eq_true rfl)) ?_
                  show Res.ok (.val (oFr (smR l))) = _
                  rw [rs_cp hp hA hC h0 h1]
                  unfold sgT
                  rw [if_neg (by rw [(by assumption : dsB l = false)]; decide)]
                  rfl
        case n11 =>
          exact absurd t11 (by simp)
          skip
  ·
    rw [show wsD (TL.spl [47] 0 [] (drM l)) = wsD (pts (drM l)) from rfl, hp]
    refine ds_when (dt_cmp (dc_gt (de_lenM (by rfl) m_len (dl_var (n := 4) rfl (pv 4))) de_int)) (fun t16 => ?y16) (fun t16 => ?n16)
    case y16 =>
      skip
      refine ds_ret de_non ?_
      show Res.ok (.val (oFr (smR l))) = _
      refine (congrArg (fun o => Res.ok (.val (oFr o))) (rs_long hp)).trans rfl
    case n16 =>
      exact absurd t16 (by simp; omega)
      skip
theorem sc_law_marks_NoText : FnScope ["_law_e", "_law_marks_here"] ["_law_e"] (defScope (topS 49)) := ⟨rfl, rfl, rfl, by decide +kernel, rfl, by decide +kernel, by decide +kernel⟩
theorem ok_law_marks_NoText {C_NoCount : Addr} {C_NoFamily : Addr} {C_NoFraction : Addr} {C_NoHistory : Addr} {C_NoLine : Addr} {C_NoMeeting : Addr} {C_NoMoments : Addr} {C_NoName : Addr} {C_NoNumber : Addr} {C_NoSeries : Addr} {C_NoText : Addr} {C_NoThing : Addr} {C_NoWay : Addr} {C_NoWeights : Addr} {C_TooFar : Addr} {C_TooHigh : Addr} {C_TooMany : Addr} {zf : Addr} {zfd : FuncData} (zF : Fun K "_law_marks" "_law_marks" (topS 49) zf zfd) (m_ValueError : mg "ValueError" = none) (m_isinstance : mg "isinstance" = none)    (tf_NoText : ExcC K C_NoText) (gf_NoFraction : mg "NoFraction" = some (.ref C_NoFraction)) (gf_TooMany : mg "TooMany" = some (.ref C_TooMany)) (gf_TooFar : mg "TooFar" = some (.ref C_TooFar)) (gf_NoNumber : mg "NoNumber" = some (.ref C_NoNumber)) (gf_NoWeights : mg "NoWeights" = some (.ref C_NoWeights)) (gf_NoSeries : mg "NoSeries" = some (.ref C_NoSeries)) (gf_NoMoments : mg "NoMoments" = some (.ref C_NoMoments)) (gf_NoFamily : mg "NoFamily" = some (.ref C_NoFamily)) (gf_NoMeeting : mg "NoMeeting" = some (.ref C_NoMeeting)) (gf_NoThing : mg "NoThing" = some (.ref C_NoThing)) (gf_NoLine : mg "NoLine" = some (.ref C_NoLine)) (gf_NoText : mg "NoText" = some (.ref C_NoText)) (gf_NoWay : mg "NoWay" = some (.ref C_NoWay)) (gf_TooHigh : mg "TooHigh" = some (.ref C_TooHigh)) (gf_NoHistory : mg "NoHistory" = some (.ref C_NoHistory)) (gf_NoCount : mg "NoCount" = some (.ref C_NoCount)) (gf_NoName : mg "NoName" = some (.ref C_NoName)) (qf_NoText_VE : PySem.W.kitOne K (.ref C_NoText) (.type "ValueError") = some true) (qf_NoText_NoFraction : PySem.W.kitOne K (.ref C_NoText) (.ref C_NoFraction) = some false) (qf_NoText_TooMany : PySem.W.kitOne K (.ref C_NoText) (.ref C_TooMany) = some false) (qf_NoText_TooFar : PySem.W.kitOne K (.ref C_NoText) (.ref C_TooFar) = some false) (qf_NoText_NoNumber : PySem.W.kitOne K (.ref C_NoText) (.ref C_NoNumber) = some false) (qf_NoText_NoWeights : PySem.W.kitOne K (.ref C_NoText) (.ref C_NoWeights) = some false) (qf_NoText_NoSeries : PySem.W.kitOne K (.ref C_NoText) (.ref C_NoSeries) = some false) (qf_NoText_NoMoments : PySem.W.kitOne K (.ref C_NoText) (.ref C_NoMoments) = some false) (qf_NoText_NoFamily : PySem.W.kitOne K (.ref C_NoText) (.ref C_NoFamily) = some false) (qf_NoText_NoMeeting : PySem.W.kitOne K (.ref C_NoText) (.ref C_NoMeeting) = some false) (qf_NoText_NoThing : PySem.W.kitOne K (.ref C_NoText) (.ref C_NoThing) = some false) (qf_NoText_NoLine : PySem.W.kitOne K (.ref C_NoText) (.ref C_NoLine) = some false) (qf_NoText_NoText : PySem.W.kitOne K (.ref C_NoText) (.ref C_NoText) = some true) (qf_NoText_NoWay : PySem.W.kitOne K (.ref C_NoText) (.ref C_NoWay) = some false) (qf_NoText_TooHigh : PySem.W.kitOne K (.ref C_NoText) (.ref C_TooHigh) = some false) (qf_NoText_NoHistory : PySem.W.kitOne K (.ref C_NoText) (.ref C_NoHistory) = some false) (qf_NoText_NoCount : PySem.W.kitOne K (.ref C_NoText) (.ref C_NoCount) = some false) (qf_NoText_NoName : PySem.W.kitOne K (.ref C_NoText) (.ref C_NoName) = some false) : FnP P w K mg base 1 zf zfd ["_law_e"] ((S_law_marks_NoText C_NoText)) := by
  have sc := sc_law_marks_NoText
  refine fnP_ok zF sc (by rintro a c d0 ds r ⟨x0, ep, rfl, rfl, rfl⟩; rfl) ?_
  rintro zcd zAr zou zs zH zE ⟨a, zoe⟩ c d0 hot hr ds r ⟨x0, ep, rfl, rfl, rfl⟩
  refine ds_setN (i := 1) (dn_lst (da_cons (de_isHB hot ep tf_NoText (by rfl) m_isinstance (de_var (n := 0) rfl (pv 0)) (by rfl) m_ValueError (by decide +kernel) qf_NoText_VE) (da_cons (de_isH hot ep tf_NoText (by rfl) m_isinstance (de_var (n := 0) rfl (pv 0)) (by rfl) gf_NoFraction qf_NoText_NoFraction) (da_cons (de_isH hot ep tf_NoText (by rfl) m_isinstance (de_var (n := 0) rfl (pv 0)) (by rfl) gf_TooMany qf_NoText_TooMany) da_nil))) (Nat.le_of_ble_eq_true rfl)) (ps_set sc.nd rfl (.inl rfl) pe_w) ?_
  refine ds_setN (i := 1) (dn_catQ ((dl_var (n := 1) rfl (pv 1))).dq ((dn_lst (da_cons (de_isH hot ep tf_NoText (by rfl) m_isinstance (de_var (n := 0) rfl (pv 0)) (by rfl) gf_TooFar qf_NoText_TooFar) (da_cons (de_isH hot ep tf_NoText (by rfl) m_isinstance (de_var (n := 0) rfl (pv 0)) (by rfl) gf_NoNumber qf_NoText_NoNumber) (da_cons (de_isH hot ep tf_NoText (by rfl) m_isinstance (de_var (n := 0) rfl (pv 0)) (by rfl) gf_NoWeights qf_NoText_NoWeights) da_nil))) (Nat.le_of_ble_eq_true rfl))).dq ?g1) (ps_set sc.nd rfl (.inl rfl) pe_w) ?_
  case g1 => decide
  refine ds_setN (i := 1) (dn_catQ ((dl_var (n := 1) rfl (pv 1))).dq ((dn_lst (da_cons (de_isH hot ep tf_NoText (by rfl) m_isinstance (de_var (n := 0) rfl (pv 0)) (by rfl) gf_NoSeries qf_NoText_NoSeries) (da_cons (de_isH hot ep tf_NoText (by rfl) m_isinstance (de_var (n := 0) rfl (pv 0)) (by rfl) gf_NoMoments qf_NoText_NoMoments) (da_cons (de_isH hot ep tf_NoText (by rfl) m_isinstance (de_var (n := 0) rfl (pv 0)) (by rfl) gf_NoFamily qf_NoText_NoFamily) da_nil))) (Nat.le_of_ble_eq_true rfl))).dq ?g2) (ps_set sc.nd rfl (.inl rfl) pe_w) ?_
  case g2 => decide
  refine ds_setN (i := 1) (dn_catQ ((dl_var (n := 1) rfl (pv 1))).dq ((dn_lst (da_cons (de_isH hot ep tf_NoText (by rfl) m_isinstance (de_var (n := 0) rfl (pv 0)) (by rfl) gf_NoMeeting qf_NoText_NoMeeting) (da_cons (de_isH hot ep tf_NoText (by rfl) m_isinstance (de_var (n := 0) rfl (pv 0)) (by rfl) gf_NoThing qf_NoText_NoThing) (da_cons (de_isH hot ep tf_NoText (by rfl) m_isinstance (de_var (n := 0) rfl (pv 0)) (by rfl) gf_NoLine qf_NoText_NoLine) da_nil))) (Nat.le_of_ble_eq_true rfl))).dq ?g3) (ps_set sc.nd rfl (.inl rfl) pe_w) ?_
  case g3 => decide
  refine ds_setN (i := 1) (dn_catQ ((dl_var (n := 1) rfl (pv 1))).dq ((dn_lst (da_cons (de_isH hot ep tf_NoText (by rfl) m_isinstance (de_var (n := 0) rfl (pv 0)) (by rfl) gf_NoText qf_NoText_NoText) (da_cons (de_isH hot ep tf_NoText (by rfl) m_isinstance (de_var (n := 0) rfl (pv 0)) (by rfl) gf_NoWay qf_NoText_NoWay) (da_cons (de_isH hot ep tf_NoText (by rfl) m_isinstance (de_var (n := 0) rfl (pv 0)) (by rfl) gf_TooHigh qf_NoText_TooHigh) da_nil))) (Nat.le_of_ble_eq_true rfl))).dq ?g4) (ps_set sc.nd rfl (.inl rfl) pe_w) ?_
  case g4 => decide
  refine ds_retN (dn_catQ ((dl_var (n := 1) rfl (pv 1))).dq ((dn_lst (da_cons (de_isH hot ep tf_NoText (by rfl) m_isinstance (de_var (n := 0) rfl (pv 0)) (by rfl) gf_NoHistory qf_NoText_NoHistory) (da_cons (de_isH hot ep tf_NoText (by rfl) m_isinstance (de_var (n := 0) rfl (pv 0)) (by rfl) gf_NoCount qf_NoText_NoCount) (da_cons (de_isH hot ep tf_NoText (by rfl) m_isinstance (de_var (n := 0) rfl (pv 0)) (by rfl) gf_NoName qf_NoText_NoName) da_nil))) (Nat.le_of_ble_eq_true rfl))).dq ?g5) ?_
  case g5 => decide
  walk_at "hf_ret"
theorem sc_law_marks_NoWeights : FnScope ["_law_e", "_law_marks_here"] ["_law_e"] (defScope (topS 49)) := ⟨rfl, rfl, rfl, by decide +kernel, rfl, by decide +kernel, by decide +kernel⟩
theorem ok_law_marks_NoWeights {C_NoCount : Addr} {C_NoFamily : Addr} {C_NoFraction : Addr} {C_NoHistory : Addr} {C_NoLine : Addr} {C_NoMeeting : Addr} {C_NoMoments : Addr} {C_NoName : Addr} {C_NoNumber : Addr} {C_NoSeries : Addr} {C_NoText : Addr} {C_NoThing : Addr} {C_NoWay : Addr} {C_NoWeights : Addr} {C_TooFar : Addr} {C_TooHigh : Addr} {C_TooMany : Addr} {zf : Addr} {zfd : FuncData} (zF : Fun K "_law_marks" "_law_marks" (topS 49) zf zfd) (m_ValueError : mg "ValueError" = none) (m_isinstance : mg "isinstance" = none)    (tf_NoWeights : ExcC K C_NoWeights) (gf_NoFraction : mg "NoFraction" = some (.ref C_NoFraction)) (gf_TooMany : mg "TooMany" = some (.ref C_TooMany)) (gf_TooFar : mg "TooFar" = some (.ref C_TooFar)) (gf_NoNumber : mg "NoNumber" = some (.ref C_NoNumber)) (gf_NoWeights : mg "NoWeights" = some (.ref C_NoWeights)) (gf_NoSeries : mg "NoSeries" = some (.ref C_NoSeries)) (gf_NoMoments : mg "NoMoments" = some (.ref C_NoMoments)) (gf_NoFamily : mg "NoFamily" = some (.ref C_NoFamily)) (gf_NoMeeting : mg "NoMeeting" = some (.ref C_NoMeeting)) (gf_NoThing : mg "NoThing" = some (.ref C_NoThing)) (gf_NoLine : mg "NoLine" = some (.ref C_NoLine)) (gf_NoText : mg "NoText" = some (.ref C_NoText)) (gf_NoWay : mg "NoWay" = some (.ref C_NoWay)) (gf_TooHigh : mg "TooHigh" = some (.ref C_TooHigh)) (gf_NoHistory : mg "NoHistory" = some (.ref C_NoHistory)) (gf_NoCount : mg "NoCount" = some (.ref C_NoCount)) (gf_NoName : mg "NoName" = some (.ref C_NoName)) (qf_NoWeights_VE : PySem.W.kitOne K (.ref C_NoWeights) (.type "ValueError") = some true) (qf_NoWeights_NoFraction : PySem.W.kitOne K (.ref C_NoWeights) (.ref C_NoFraction) = some false) (qf_NoWeights_TooMany : PySem.W.kitOne K (.ref C_NoWeights) (.ref C_TooMany) = some false) (qf_NoWeights_TooFar : PySem.W.kitOne K (.ref C_NoWeights) (.ref C_TooFar) = some false) (qf_NoWeights_NoNumber : PySem.W.kitOne K (.ref C_NoWeights) (.ref C_NoNumber) = some false) (qf_NoWeights_NoWeights : PySem.W.kitOne K (.ref C_NoWeights) (.ref C_NoWeights) = some true) (qf_NoWeights_NoSeries : PySem.W.kitOne K (.ref C_NoWeights) (.ref C_NoSeries) = some false) (qf_NoWeights_NoMoments : PySem.W.kitOne K (.ref C_NoWeights) (.ref C_NoMoments) = some false) (qf_NoWeights_NoFamily : PySem.W.kitOne K (.ref C_NoWeights) (.ref C_NoFamily) = some false) (qf_NoWeights_NoMeeting : PySem.W.kitOne K (.ref C_NoWeights) (.ref C_NoMeeting) = some false) (qf_NoWeights_NoThing : PySem.W.kitOne K (.ref C_NoWeights) (.ref C_NoThing) = some false) (qf_NoWeights_NoLine : PySem.W.kitOne K (.ref C_NoWeights) (.ref C_NoLine) = some false) (qf_NoWeights_NoText : PySem.W.kitOne K (.ref C_NoWeights) (.ref C_NoText) = some false) (qf_NoWeights_NoWay : PySem.W.kitOne K (.ref C_NoWeights) (.ref C_NoWay) = some false) (qf_NoWeights_TooHigh : PySem.W.kitOne K (.ref C_NoWeights) (.ref C_TooHigh) = some false) (qf_NoWeights_NoHistory : PySem.W.kitOne K (.ref C_NoWeights) (.ref C_NoHistory) = some false) (qf_NoWeights_NoCount : PySem.W.kitOne K (.ref C_NoWeights) (.ref C_NoCount) = some false) (qf_NoWeights_NoName : PySem.W.kitOne K (.ref C_NoWeights) (.ref C_NoName) = some false) : FnP P w K mg base 1 zf zfd ["_law_e"] ((S_law_marks_NoWeights C_NoWeights)) := by
  have sc := sc_law_marks_NoWeights
  refine fnP_ok zF sc (by rintro a c d0 ds r ⟨x0, ep, rfl, rfl, rfl⟩; rfl) ?_
  rintro zcd zAr zou zs zH zE ⟨a, zoe⟩ c d0 hot hr ds r ⟨x0, ep, rfl, rfl, rfl⟩
  refine ds_setN (i := 1) (dn_lst (da_cons (de_isHB hot ep tf_NoWeights (by rfl) m_isinstance (de_var (n := 0) rfl (pv 0)) (by rfl) m_ValueError (by decide +kernel) qf_NoWeights_VE) (da_cons (de_isH hot ep tf_NoWeights (by rfl) m_isinstance (de_var (n := 0) rfl (pv 0)) (by rfl) gf_NoFraction qf_NoWeights_NoFraction) (da_cons (de_isH hot ep tf_NoWeights (by rfl) m_isinstance (de_var (n := 0) rfl (pv 0)) (by rfl) gf_TooMany qf_NoWeights_TooMany) da_nil))) (Nat.le_of_ble_eq_true rfl)) (ps_set sc.nd rfl (.inl rfl) pe_w) ?_
  refine ds_setN (i := 1) (dn_catQ ((dl_var (n := 1) rfl (pv 1))).dq ((dn_lst (da_cons (de_isH hot ep tf_NoWeights (by rfl) m_isinstance (de_var (n := 0) rfl (pv 0)) (by rfl) gf_TooFar qf_NoWeights_TooFar) (da_cons (de_isH hot ep tf_NoWeights (by rfl) m_isinstance (de_var (n := 0) rfl (pv 0)) (by rfl) gf_NoNumber qf_NoWeights_NoNumber) (da_cons (de_isH hot ep tf_NoWeights (by rfl) m_isinstance (de_var (n := 0) rfl (pv 0)) (by rfl) gf_NoWeights qf_NoWeights_NoWeights) da_nil))) (Nat.le_of_ble_eq_true rfl))).dq ?g1) (ps_set sc.nd rfl (.inl rfl) pe_w) ?_
  case g1 => decide
  refine ds_setN (i := 1) (dn_catQ ((dl_var (n := 1) rfl (pv 1))).dq ((dn_lst (da_cons (de_isH hot ep tf_NoWeights (by rfl) m_isinstance (de_var (n := 0) rfl (pv 0)) (by rfl) gf_NoSeries qf_NoWeights_NoSeries) (da_cons (de_isH hot ep tf_NoWeights (by rfl) m_isinstance (de_var (n := 0) rfl (pv 0)) (by rfl) gf_NoMoments qf_NoWeights_NoMoments) (da_cons (de_isH hot ep tf_NoWeights (by rfl) m_isinstance (de_var (n := 0) rfl (pv 0)) (by rfl) gf_NoFamily qf_NoWeights_NoFamily) da_nil))) (Nat.le_of_ble_eq_true rfl))).dq ?g2) (ps_set sc.nd rfl (.inl rfl) pe_w) ?_
  case g2 => decide
  refine ds_setN (i := 1) (dn_catQ ((dl_var (n := 1) rfl (pv 1))).dq ((dn_lst (da_cons (de_isH hot ep tf_NoWeights (by rfl) m_isinstance (de_var (n := 0) rfl (pv 0)) (by rfl) gf_NoMeeting qf_NoWeights_NoMeeting) (da_cons (de_isH hot ep tf_NoWeights (by rfl) m_isinstance (de_var (n := 0) rfl (pv 0)) (by rfl) gf_NoThing qf_NoWeights_NoThing) (da_cons (de_isH hot ep tf_NoWeights (by rfl) m_isinstance (de_var (n := 0) rfl (pv 0)) (by rfl) gf_NoLine qf_NoWeights_NoLine) da_nil))) (Nat.le_of_ble_eq_true rfl))).dq ?g3) (ps_set sc.nd rfl (.inl rfl) pe_w) ?_
  case g3 => decide
  refine ds_setN (i := 1) (dn_catQ ((dl_var (n := 1) rfl (pv 1))).dq ((dn_lst (da_cons (de_isH hot ep tf_NoWeights (by rfl) m_isinstance (de_var (n := 0) rfl (pv 0)) (by rfl) gf_NoText qf_NoWeights_NoText) (da_cons (de_isH hot ep tf_NoWeights (by rfl) m_isinstance (de_var (n := 0) rfl (pv 0)) (by rfl) gf_NoWay qf_NoWeights_NoWay) (da_cons (de_isH hot ep tf_NoWeights (by rfl) m_isinstance (de_var (n := 0) rfl (pv 0)) (by rfl) gf_TooHigh qf_NoWeights_TooHigh) da_nil))) (Nat.le_of_ble_eq_true rfl))).dq ?g4) (ps_set sc.nd rfl (.inl rfl) pe_w) ?_
  case g4 => decide
  refine ds_retN (dn_catQ ((dl_var (n := 1) rfl (pv 1))).dq ((dn_lst (da_cons (de_isH hot ep tf_NoWeights (by rfl) m_isinstance (de_var (n := 0) rfl (pv 0)) (by rfl) gf_NoHistory qf_NoWeights_NoHistory) (da_cons (de_isH hot ep tf_NoWeights (by rfl) m_isinstance (de_var (n := 0) rfl (pv 0)) (by rfl) gf_NoCount qf_NoWeights_NoCount) (da_cons (de_isH hot ep tf_NoWeights (by rfl) m_isinstance (de_var (n := 0) rfl (pv 0)) (by rfl) gf_NoName qf_NoWeights_NoName) da_nil))) (Nat.le_of_ble_eq_true rfl))).dq ?g5) ?_
  case g5 => decide
  walk_at "hf_ret"
theorem sc_law_only : FnScope ["_law_at", "_law_k"] ["_law_at"] (defScope (topS 50)) := ⟨rfl, rfl, rfl, by decide +kernel, rfl, by decide +kernel, by decide +kernel⟩
theorem ok_law_only  {zf : Addr} {zfd : FuncData} (zF : Fun K "_law_only" "_law_only" (topS 50) zf zfd) (m_range : mg "range" = none)     : FnOk P w K mg base (L2N.CX P w) 1 zf zfd ["_law_at"] (spF K (S_law_only)) := by
  have sc := sc_law_only
  refine fn_ok zF sc (by rintro ds r ⟨j, rfl, rfl⟩; rfl) ?_
  rintro zcd zAr zou zs zH zE hr ds r ⟨j, rfl, rfl⟩
  have hpo : PassesOwn (model P w) (cxOf (L2N.CX P w) P w K mg base ["_law_at", "_law_k"] "_law_only" (defScope (topS 50)) zf zcd zAr zou zs zH zE).A (cxOf (L2N.CX P w) P w K mg base ["_law_at", "_law_k"] "_law_only" (defScope (topS 50)) zf zcd zAr zou zs zH zE).env (cxOf (L2N.CX P w) P w K mg base ["_law_at", "_law_k"] "_law_only" (defScope (topS 50)) zf zcd zAr zou zs zH zE).xe := passes_of rfl
  have hu : Roomy (cxOf (L2N.CX P w) P w K mg base ["_law_at", "_law_k"] "_law_only" (defScope (topS 50)) zf zcd zAr zou zs zH zE) := hr.units
  refine ds_retN (dn_lc (own := [("_law_k", 1)]) (rs := (onlyB j)) rfl sc.nd (di_r1 (by rfl) m_range de_int ?g1) (blkOk_by (N := ["_law_at", "_law_k"]) (sc := defScope (topS 50)) (by decide +kernel)) (fun _ d => [(1, d)]) ?g5 ?g6 ?g7 (fun i d hd s H C cl fp => ?g2_hg) ?g2_he) ?_
  case g2_hg => exact (dg_name (j := 1) (pg_name sc.nd rfl (by first | exact .inl rfl | exact .inr rfl)))
  case g2_he =>
    rintro i d y hd hy s H C cl fp
    obtain ⟨hi, rfl⟩ := rng0_some hd
    unfold onlyB at hy
    rw [List.getElem?_map, List.getElem?_range (by omega)] at hy
    cases hy
    refine DE.of (de_cmp (dc_in (de_var (n := 1) rfl (pv 1)) (de_tup (da_cons de_int (da_cons (de_var (n := 0) rfl (pv 0)) da_nil)) (Nat.le_of_ble_eq_true rfl)) (.inr rfl) ?g3 ?g4)) ?_
    case g3 => rfl
    case g4 => rfl
    rfl
  case g1 => decide
  case g5 => rfl
  case g6 => decide
  case g7 => walk_at "hf_hin"
  walk_at "hf_ret"
theorem sc_law_sign : FnScope ["_law_c", "_law_some"] ["_law_c"] (defScope (topS 58)) := ⟨rfl, rfl, rfl, by decide +kernel, rfl, by decide +kernel, by decide +kernel⟩
theorem ok_law_sign  {zf : Addr} {zfd : FuncData} (zF : Fun K "_law_sign" "_law_sign" (topS 58) zf zfd) (m_len : mg "len" = none)     : FnOk P w K mg base (L2N.CX P w) 1 zf zfd ["_law_c"] (spF K (S_law_sign)) := by
  have sc := sc_law_sign
  refine fn_ok zF sc (by rintro ds r ⟨c, rfl, rfl⟩; rfl) ?_
  rintro zcd zAr zou zs zH zE hr ds r ⟨c, rfl, rfl⟩
  have hpo : PassesOwn (model P w) (cxOf (L2N.CX P w) P w K mg base ["_law_c", "_law_some"] "_law_sign" (defScope (topS 58)) zf zcd zAr zou zs zH zE).A (cxOf (L2N.CX P w) P w K mg base ["_law_c", "_law_some"] "_law_sign" (defScope (topS 58)) zf zcd zAr zou zs zH zE).env (cxOf (L2N.CX P w) P w K mg base ["_law_c", "_law_some"] "_law_sign" (defScope (topS 58)) zf zcd zAr zou zs zH zE).xe := passes_of rfl
  have hu : Roomy (cxOf (L2N.CX P w) P w K mg base ["_law_c", "_law_some"] "_law_sign" (defScope (topS 58)) zf zcd zAr zou zs zH zE) := hr.units
  refine ds_set (i := 1) (DE.of de_str (show _ = PyData.str (tS [32, 33, 34, 35, 36, 38, 39, 40, 41, 42, 43, 44, 45, 46, 47, 48, 49, 50, 51, 52, 53, 54, 55, 56, 57, 58, 59, 60, 61, 62, 63, 64, 65, 66, 67, 68, 69, 70, 71, 72, 73, 74, 75, 76, 77, 78, 79, 80, 81, 82, 83, 84, 85, 86, 87, 88, 89, 90, 91, 92, 93, 94, 95, 96]) from rfl)) (ps_set sc.nd rfl (.inl rfl) pe_w) ?_
  refine ds_set (i := 1) (de_catS (de_var (n := 1) rfl (pv 1)) (DE.of de_str (show _ = PyData.str (tS [97, 98, 99, 100, 101, 102, 103, 104, 105, 106, 107, 108, 109, 110, 111, 112, 113, 114, 115, 116, 117, 118, 119, 120, 121, 122, 123, 124, 125, 126]) from rfl)) ?g1) (ps_set sc.nd rfl (.inl rfl) pe_w) ?_
  case g1 => decide
  refine ds_retA (de_ixS (de_var (n := 1) rfl (pv 1)) (de_mod (de_var (n := 0) rfl (pv 0)) (de_lenS (by rfl) m_len (de_var (n := 1) rfl (pv 1)) ?g2) ?g3) ?g4 (at_mod (z := 0) (List.cons_ne_nil _ _) _)) ?rp1 rfl
  case g2 => decide
  case g3 => decide
  case g4 => decide
  case rp1 =>
    exact ⟨_, rfl⟩
theorem sc_law_changed : FnScope ["_law_text_here", "_law_c", "_law_at", "_law_sign_here"] ["_law_text_here", "_law_c"] (defScope (topS 59)) := ⟨rfl, rfl, rfl, by decide +kernel, rfl, by decide +kernel, by decide +kernel⟩
theorem ok_law_changed  {zf : Addr} {zfd : FuncData} (zF : Fun K "_law_changed" "_law_changed" (topS 59) zf zfd) (m_len : mg "len" = none)  (h_law_sign : Has P w K mg base "_law_sign" 1 S_law_sign)   : FnOk P w K mg base (L2N.CX P w) 2 zf zfd ["_law_text_here", "_law_c"] (spF K (S_law_changed)) := by
  have sc := sc_law_changed
  refine fn_ok zF sc (by rintro ds r ⟨l, c, rfl, hl, rfl⟩; rfl) ?_
  rintro zcd zAr zou zs zH zE hr ds r ⟨l, c, rfl, hl, rfl⟩
  have hpo : PassesOwn (model P w) (cxOf (L2N.CX P w) P w K mg base ["_law_text_here", "_law_c", "_law_at", "_law_sign_here"] "_law_changed" (defScope (topS 59)) zf zcd zAr zou zs zH zE).A (cxOf (L2N.CX P w) P w K mg base ["_law_text_here", "_law_c", "_law_at", "_law_sign_here"] "_law_changed" (defScope (topS 59)) zf zcd zAr zou zs zH zE).env (cxOf (L2N.CX P w) P w K mg base ["_law_text_here", "_law_c", "_law_at", "_law_sign_here"] "_law_changed" (defScope (topS 59)) zf zcd zAr zou zs zH zE).xe := passes_of rfl
  have hu : Roomy (cxOf (L2N.CX P w) P w K mg base ["_law_text_here", "_law_c", "_law_at", "_law_sign_here"] "_law_changed" (defScope (topS 59)) zf zcd zAr zou zs zH zE) := hr.units
  refine ds_set (i := 2) (de_mod (de_fdiv (de_var (n := 1) rfl (pv 1)) de_int ?g1) (de_add (de_lenS (by rfl) m_len (de_var (n := 0) rfl (pv 0)) ?g2) de_int) ?g3) (ps_set sc.nd rfl (.inl rfl) pe_w) ?_
  case g1 => exact div_sm ⟨by decide, by decide⟩
  case g2 => first | decide | exact bl0 hl | exact bl1 hl | exact bl2 hl | exact bl3 hl
  case g3 => first | decide | (show (0 : Int) < ((l.length : Nat) : Int) + 1; omega) | (show ((l.length : Nat) : Int) + 1 ≠ 0; omega)
  refine ds_setA (i := 3) (dea_call h_law_sign (hr.mono (by decide)) (by rfl) (da_cons (de_fdiv (de_var (n := 1) rfl (pv 1)) de_int ?g4) da_nil) ⟨_, rfl, rfl⟩) (ps_set sc.nd rfl (.inl rfl) pe_w) ?_
  case g4 => exact div_sm ⟨by decide, by decide⟩
  rintro d ⟨n, rfl⟩
  refine ds_cut (fun Γ' => ∃ n : Nat, Γ' = [.d (.str (tS l)), .d (.int c), .d (.int (c / 3 % ((l.length : Int) + 1))), .d (.str (tS [n]))]) ?cu1 ?cr1
  case cu1 =>
    refine ds_when (dt_cmp (dc_eqI (de_mod (de_fdiv (de_var (n := 1) rfl (pv 1)) de_int ?g5) de_int ?g6) de_int)) (fun t1 => ?y1) (fun t1 => ?n1)
    case g5 => exact div_sm ⟨by decide, by decide⟩
    case g6 => first | decide | (show (0 : Int) < ((l.length : Nat) : Int) + 1; omega) | (show ((l.length : Nat) : Int) + 1 ≠ 0; omega)
    case y1 =>
      skip
      refine ds_set (i := 3) (de_ixS (DE.of de_str (show _ = PyData.str (tS [48, 49, 50, 51, 52, 53, 54, 55, 56, 57, 45, 47, 59, 32]) from rfl)) (de_mod (de_fdiv (de_var (n := 1) rfl (pv 1)) de_int ?g7) de_int ?g8) ?g9 (at_mod (z := 0) (List.cons_ne_nil _ _) _)) (ps_set sc.nd rfl (.inl rfl) pe_w) ?_
      case g7 => exact div_sm ⟨by decide, by decide⟩
      case g8 => first | decide | (show (0 : Int) < ((l.length : Nat) : Int) + 1; omega) | (show ((l.length : Nat) : Int) + 1 ≠ 0; omega)
      case g9 => first | decide | exact bl0 hl | exact bl1 hl | exact bl2 hl | exact bl3 hl
      refine ds_nil ?_
      refine ds_nil ?_
      exact ⟨_, rfl⟩
    case n1 =>
      skip
      refine ds_nil ?_
      exact ⟨_, rfl⟩
  case cr1 =>
    rintro Γ' ⟨n, rfl⟩
    refine ds_when (dt_cmp (dc_eqI (de_mod (de_var (n := 1) rfl (pv 1)) de_int ?g11) de_int)) (fun t2 => ?y2) (fun t2 => ?n2)
    case g11 => first | decide | (show (0 : Int) < ((l.length : Nat) : Int) + 1; omega) | (show ((l.length : Nat) : Int) + 1 ≠ 0; omega)
    case y2 =>
      try simp only [decide_eq_true_eq, decide_eq_false_iff_not, Bool.not_eq_true', Bool.not_eq_false', Bool.and_eq_true, Bool.or_eq_true, Bool.and_eq_false_iff, Bool.or_eq_false_iff, Bool.not_eq_true, Bool.not_eq_false, Decidable.not_not] at t2
      refine ds_retA (de_catS (de_catS (de_slS (de_var (n := 0) rfl (pv 0)) do_none (do_some (de_var (n := 2) rfl (pv 2))) ?g12) (de_var (n := 3) rfl (pv 3)) ?g13) (de_slS (de_var (n := 0) rfl (pv 0)) (do_some (de_var (n := 2) rfl (pv 2))) do_none ?g14) ?g15) ?rp1 rfl
      case g12 => first | decide | exact bl0 hl | exact bl1 hl | exact bl2 hl | exact bl3 hl
      case g13 => first | decide | exact bl0 hl | exact bl1 hl | exact bl2 hl | exact bl3 hl
      case g14 => first | decide | exact bl0 hl | exact bl1 hl | exact bl2 hl | exact bl3 hl
      case g15 => first | decide | exact bl0 hl | exact bl1 hl | exact bl2 hl | exact bl3 hl
      case rp1 =>
        exact ⟨_, rfl, (bl_len hl).1⟩
    case n2 =>
      try simp only [decide_eq_true_eq, decide_eq_false_iff_not, Bool.not_eq_true', Bool.not_eq_false', Bool.and_eq_true, Bool.or_eq_true, Bool.and_eq_false_iff, Bool.or_eq_false_iff, Bool.not_eq_true, Bool.not_eq_false, Decidable.not_not] at t2
      refine ds_when (dt_cmp (dc_eqI (de_mod (de_var (n := 1) rfl (pv 1)) de_int ?g16) de_int)) (fun t3 => ?y3) (fun t3 => ?n3)
      case g16 => first | decide | (show (0 : Int) < ((l.length : Nat) : Int) + 1; omega) | (show ((l.length : Nat) : Int) + 1 ≠ 0; omega)
      case y3 =>
        try simp only [decide_eq_true_eq, decide_eq_false_iff_not, Bool.not_eq_true', Bool.not_eq_false', Bool.and_eq_true, Bool.or_eq_true, Bool.and_eq_false_iff, Bool.or_eq_false_iff, Bool.not_eq_true, Bool.not_eq_false, Decidable.not_not] at t3
        refine ds_retA (de_catS (de_slS (de_var (n := 0) rfl (pv 0)) do_none (do_some (de_var (n := 2) rfl (pv 2))) ?g17) (de_slS (de_var (n := 0) rfl (pv 0)) (do_some (de_add (de_var (n := 2) rfl (pv 2)) de_int)) do_none ?g18) ?g19) ?rp2 rfl
        case g17 => first | decide | exact bl0 hl | exact bl1 hl | exact bl2 hl | exact bl3 hl
        case g18 => first | decide | exact bl0 hl | exact bl1 hl | exact bl2 hl | exact bl3 hl
        case g19 => first | decide | exact bl0 hl | exact bl1 hl | exact bl2 hl | exact bl3 hl
        case rp2 =>
          exact ⟨_, rfl, (bl_len hl (n := 0)).2⟩
      case n3 =>
        try simp only [decide_eq_true_eq, decide_eq_false_iff_not, Bool.not_eq_true', Bool.not_eq_false', Bool.and_eq_true, Bool.or_eq_true, Bool.and_eq_false_iff, Bool.or_eq_false_iff, Bool.not_eq_true, Bool.not_eq_false, Decidable.not_not] at t3
        refine ds_retA (de_catS (de_catS (de_slS (de_var (n := 0) rfl (pv 0)) do_none (do_some (de_var (n := 2) rfl (pv 2))) ?g20) (de_var (n := 3) rfl (pv 3)) ?g21) (de_slS (de_var (n := 0) rfl (pv 0)) (do_some (de_add (de_var (n := 2) rfl (pv 2)) de_int)) do_none ?g22) ?g23) ?rp3 rfl
        case g20 => first | decide | exact bl0 hl | exact bl1 hl | exact bl2 hl | exact bl3 hl
        case g21 => first | decide | exact bl0 hl | exact bl1 hl | exact bl2 hl | exact bl3 hl
        case g22 => first | decide | exact bl0 hl | exact bl1 hl | exact bl2 hl | exact bl3 hl
        case g23 => first | decide | exact bl0 hl | exact bl1 hl | exact bl2 hl | exact bl3 hl
        case rp3 =>
          exact ⟨_, rfl, (bl_len hl).1⟩
theorem sc_law_due_t : FnScope ["_law_text_here", "_law_parts", "_law_rows", "_law_k", "_law_row", "_law_word"] ["_law_text_here"] (defScope (topS 60)) := ⟨rfl, rfl, rfl, by decide +kernel, rfl, by decide +kernel, by decide +kernel⟩
theorem ok_law_due_t  {zf : Addr} {zfd : FuncData} (zF : Fun K "_law_due" "_law_due" (topS 60) zf zfd) (m_len : mg "len" = none) (m_range : mg "range" = none) (m_tuple : mg "tuple" = none)  (h_law_read_by : Has P w K mg base "_law_read_by" 2 S_law_read_by)   : FnOk P w K mg base (L2N.CX P w) 3 zf zfd ["_law_text_here"] (spF K (S_law_due_t)) := by
  have sc := sc_law_due_t
  refine fn_ok zF sc (by rintro ds r ⟨l, lv, dn, rfl, hl, ⟨ho, h1, h7⟩, rfl⟩; rfl) ?_
  rintro zcd zAr zou zs zH zE hr ds r ⟨l, lv, dn, rfl, hl, ⟨ho, h1, h7⟩, rfl⟩
  have hpo : PassesOwn (model P w) (cxOf (L2N.CX P w) P w K mg base ["_law_text_here", "_law_parts", "_law_rows", "_law_k", "_law_row", "_law_word"] "_law_due" (defScope (topS 60)) zf zcd zAr zou zs zH zE).A (cxOf (L2N.CX P w) P w K mg base ["_law_text_here", "_law_parts", "_law_rows", "_law_k", "_law_row", "_law_word"] "_law_due" (defScope (topS 60)) zf zcd zAr zou zs zH zE).env (cxOf (L2N.CX P w) P w K mg base ["_law_text_here", "_law_parts", "_law_rows", "_law_k", "_law_row", "_law_word"] "_law_due" (defScope (topS 60)) zf zcd zAr zou zs zH zE).xe := passes_of rfl
  have hu : Roomy (cxOf (L2N.CX P w) P w K mg base ["_law_text_here", "_law_parts", "_law_rows", "_law_k", "_law_row", "_law_word"] "_law_due" (defScope (topS 60)) zf zcd zAr zou zs zH zE) := hr.units
  refine ds_setN (i := 1) (dn_split (de_var (n := 0) rfl (pv 0)) (DE.of de_str (show _ = PyData.str (tS [59, 32]) from rfl)) (by decide) (by decide) ?g1 (pe_split pe_w pe_w)) (ps_set sc.nd rfl (.inl rfl) pe_w) ?_
  case g1 => first | exact Nat.le_trans hl (by decide) | exact Nat.le_trans hw9 (by decide)
  rw [show wsD (TL.spl [59, 32] 0 [] l) = wsD (wpt l) from rfl]
  refine ds_when (dt_cmp (dc_gt (de_lenM (by rfl) m_len (dl_var (n := 1) rfl (pv 1))) de_int)) (fun t1 => ?y1) (fun t1 => ?n1)
  case y1 =>
    exact absurd t1 (by have := ok_2 ho; simp [wsD]; omega)
    skip
  case n1 =>
    skip
    refine ds_setN (i := 2) (dn_lst da_nil (Nat.le_of_ble_eq_true rfl)) (ps_set sc.nd rfl (.inl rfl) pe_w) ?_
    refine ds_for (fun i Γ' => ∃ c4 c5, (Γ' = [.d (.str (tS l)), .ml (wsD (wpt l)), .ml (rwtD (wpt l) i), c4, c5, .no])) (fun _ d => [(3, d)]) hpo rfl (di_r1 (by rfl) m_range (de_lenM (by rfl) m_len (dl_var (n := 1) rfl (pv 1))) ?g2) ?hg_1 ?h0_1 ?hb_1 ?hd_1
    case g2 => exact wp_rng hl
    case hg_1 =>
      exact fun i d _ => (dg_name (j := 3) (pg_name sc.nd rfl (.inl rfl)))
    case h0_1 =>
      exact ⟨_, _, rfl⟩
    case hb_1 =>
      rintro i d Γ' hi ⟨c4, c5, rfl⟩
      obtain ⟨hlt, rfl⟩ := rng0_some hi
      rw [Int.toNat_natCast, show (wsD (wpt l)).length = (wpt l).length from List.length_map _] at hlt
      obtain ⟨w, hw⟩ : ∃ w, (wpt l)[i]? = some w := ⟨_, List.getElem?_eq_getElem hlt⟩
      have hw9 : w.length ≤ 90000 := Nat.le_trans (spl_len _ _ _ (List.mem_of_getElem? hw)) hl
      have hwc := spl_count [32] w
      refine ds_setLc (i := 4) (own := [("_law_word", 5)]) (rs := ((rowO w).map oFr)) rfl sc.nd rfl rfl (sw_true rfl rfl rfl (by decide +kernel)) (di_list (dn_split (de_ixM (dl_var (n := 1) rfl (pv 1)) (de_var (n := 3) rfl (pv 3)) ((by first | rfl | exact ws_at hw))) (DE.of de_str (show _ = PyData.str (tS [32]) from rfl)) (by decide) (by decide) ?g4 (pe_split pe_w pe_w)).de) (blkOk_by (N := ["_law_text_here", "_law_parts", "_law_rows", "_law_k", "_law_row", "_law_word"]) (sc := defScope (topS 60)) (by decide +kernel)) (fun _ d => [(5, d)]) ?g7 ?g8 ?g9 (fun i d hd s H C cl fp => ?g5_hg) ?g5_he ?_
      case g5_hg => exact (dg_name (j := 5) (pg_name sc.nd rfl (by first | exact .inl rfl | exact .inr rfl)))
      case g5_he =>
        rintro i d y hd hy s H C cl fp
        obtain ⟨v, hv, rfl⟩ := ws_some hd
        replace hy := row_at hv hy
        subst hy
        have hv9 : v.length ≤ 90000 := Nat.le_trans (spl_len _ _ _ (List.mem_of_getElem? hv)) hw9
        refine DE.of (de_call h_law_read_by (hr.mono (by decide)) (by rfl) (da_cons (de_var (n := 5) rfl (pv 5)) (da_cons de_int (da_cons de_int da_nil))) ⟨_, rfl, ?g6, rfl⟩) ?_
        case g6 => first | exact hv9
        rfl
      case g4 => first | exact Nat.le_trans hl (by decide) | exact Nat.le_trans hw9 (by decide)
      case g7 => rw [row_len, List.length_map]; rfl
      case g8 => first | (rw [row_len]; exact rc_len hw9) | exact rwt_len hl _ | (simp; done) | (simp; omega)
      case g9 => walk_at "hf_hin"
      refine ds_when (dt_cmp (dc_inV (units65 hr) de_non.v (dl_var (n := 4) rfl (pv 4)).v ?g10 ?g11)) (fun t2 => ?y2) (fun t2 => ?n2)
      case g10 => first | rfl | exact sh_row _
      case g11 => first | rfl | exact sh_row _
      case y2 =>
        have hin : none ∈ rowO w := by
          rw [inDD_none] at t2
          exact of_decide_eq_true t2
        exact absurd hin (ok_no ho hw)
        skip
      case n2 =>
        have hno : none ∉ rowO w := by
          rw [inDD_none] at t2
          exact of_decide_eq_false t2
        refine ds_app (i := 2) rfl (pv 2) (de_tupleM (by rfl) m_tuple (dl_var (n := 4) rfl (pv 4))) ?g12 (ps_expr (pe_bm PySem.F.plainAttrs_list PySem.F.slot_list_append PySem.F.type_list_append mt_append pe_w (pa_cons pe_w pa_nil))) ?_
        case g12 => first | (rw [row_len]; exact rc_len hw9) | exact rwt_len hl _ | (simp; done) | (simp; omega)
        refine ds_nil ?_
        rw [rwt_s hw]
        exact ⟨_, _, rfl⟩
    case hd_1 =>
      rintro Γ' ⟨c4, c5, rfl⟩
      rw [rng0_len, Int.toNat_natCast, show (wsD (wpt l)).length = (wpt l).length from List.length_map _]
      obtain ⟨ps, hps, hr⟩ := ho
      rcases hr with ⟨a, rfl, ha, rfl⟩ | ⟨a, b, rfl, ha, hb⟩
      ·
        rw [hps, show rwtD [a] ([a] : List (List Nat)).length = [.tuple ((rowO a).map oFr)] from rfl, row_frT ha]
        refine ds_when (dt_cmp (dc_eqI (de_lenM (by rfl) m_len (dl_var (n := 2) rfl (pv 2))) de_int)) (fun t3 => ?y3) (fun t3 => ?n3)
        case y3 =>
          skip
          refine ds_app (i := 2) rfl (pv 2) (DE.of (de_tup da_nil (Nat.le_of_ble_eq_true rfl)) (show _ = dPo [] from rfl)) ?g13 (ps_expr (pe_bm PySem.F.plainAttrs_list PySem.F.slot_list_append PySem.F.type_list_append mt_append pe_w (pa_cons pe_w pa_nil))) ?_
          case g13 => first | (rw [row_len]; exact rc_len hw9) | exact rwt_len hl _ | (simp; done) | (simp; omega)
          refine ds_nil ?_
          refine ds_when (dt_or (dt_cmp (dc_gt (de_lenT (by rfl) m_len (de_ixM (dl_var (n := 2) rfl (pv 2)) de_int ((by first | rfl | exact ws_at hw)))) de_int)) (fun q1 => (dw_or1 (dt_cmp (dc_neI (de_lenT (by rfl) m_len (de_ixM (dl_var (n := 2) rfl (pv 2)) de_int ((by first | rfl | exact ws_at hw)))) (de_add (de_lenT (by rfl) m_len (de_ixM (dl_var (n := 2) rfl (pv 2)) de_int ((by first | rfl | exact ws_at hw)))) de_int)))))) (fun t4 => ?y4) (fun t4 => ?n4)
          case y4 =>
            exact absurd t4 (by simp at h1 h7 ⊢; omega)
            skip
          case n4 =>
            skip
            refine ds_ret (de_tup (da_cons (de_ixM (dl_var (n := 2) rfl (pv 2)) de_int ((by first | rfl | exact ws_at hw))) (da_cons (de_ixM (dl_var (n := 2) rfl (pv 2)) de_int ((by first | rfl | exact ws_at hw))) da_nil)) (Nat.le_of_ble_eq_true rfl)) ?_
            exact rfl
        case n3 =>
          exact absurd t3 (by simp)
          skip
      ·
        rw [hps, show rwtD [a, b] ([a, b] : List (List Nat)).length = [.tuple ((rowO a).map oFr), .tuple ((rowO b).map oFr)] from rfl, row_frT ha, row_frT hb]
        refine ds_when (dt_cmp (dc_eqI (de_lenM (by rfl) m_len (dl_var (n := 2) rfl (pv 2))) de_int)) (fun t5 => ?y5) (fun t5 => ?n5)
        case y5 =>
          exact absurd t5 (by simp)
          skip
        case n5 =>
          skip
          refine ds_when (dt_or (dt_cmp (dc_gt (de_lenT (by rfl) m_len (de_ixM (dl_var (n := 2) rfl (pv 2)) de_int ((by first | rfl | exact ws_at hw)))) de_int)) (fun q2 => (dw_or1 (dt_cmp (dc_neI (de_lenT (by rfl) m_len (de_ixM (dl_var (n := 2) rfl (pv 2)) de_int ((by first | rfl | exact ws_at hw)))) (de_add (de_lenT (by rfl) m_len (de_ixM (dl_var (n := 2) rfl (pv 2)) de_int ((by first | rfl | exact ws_at hw)))) de_int)))))) (fun t6 => ?y6) (fun t6 => ?n6)
          case y6 =>
            exact absurd t6 (by simp at h1 h7 ⊢; omega)
            skip
          case n6 =>
            skip
            refine ds_ret (de_tup (da_cons (de_ixM (dl_var (n := 2) rfl (pv 2)) de_int ((by first | rfl | exact ws_at hw))) (da_cons (de_ixM (dl_var (n := 2) rfl (pv 2)) de_int ((by first | rfl | exact ws_at hw))) da_nil)) (Nat.le_of_ble_eq_true rfl)) ?_
            exact rfl
theorem sc_law_due_w : FnScope ["_law_text_here", "_law_parts", "_law_rows", "_law_k", "_law_row", "_law_word"] ["_law_text_here"] (defScope (topS 60)) := ⟨rfl, rfl, rfl, by decide +kernel, rfl, by decide +kernel, by decide +kernel⟩
theorem ok_law_due_w  {zf : Addr} {zfd : FuncData} (zF : Fun K "_law_due" "_law_due" (topS 60) zf zfd) (m_len : mg "len" = none) (m_range : mg "range" = none) (m_tuple : mg "tuple" = none)  (h_law_read_by : Has P w K mg base "_law_read_by" 2 S_law_read_by) (h_law_only : Has P w K mg base "_law_only" 1 S_law_only)   : FnOk P w K mg base (L2N.CX P w) 3 zf zfd ["_law_text_here"] (spF K (S_law_due_w)) := by
  have sc := sc_law_due_w
  refine fn_ok zF sc (by rintro ds r ⟨l, lv, dn, rfl, hl, ⟨ho, h1⟩, rfl⟩; rfl) ?_
  rintro zcd zAr zou zs zH zE hr ds r ⟨l, lv, dn, rfl, hl, ⟨ho, h1⟩, rfl⟩
  have hpo : PassesOwn (model P w) (cxOf (L2N.CX P w) P w K mg base ["_law_text_here", "_law_parts", "_law_rows", "_law_k", "_law_row", "_law_word"] "_law_due" (defScope (topS 60)) zf zcd zAr zou zs zH zE).A (cxOf (L2N.CX P w) P w K mg base ["_law_text_here", "_law_parts", "_law_rows", "_law_k", "_law_row", "_law_word"] "_law_due" (defScope (topS 60)) zf zcd zAr zou zs zH zE).env (cxOf (L2N.CX P w) P w K mg base ["_law_text_here", "_law_parts", "_law_rows", "_law_k", "_law_row", "_law_word"] "_law_due" (defScope (topS 60)) zf zcd zAr zou zs zH zE).xe := passes_of rfl
  have hu : Roomy (cxOf (L2N.CX P w) P w K mg base ["_law_text_here", "_law_parts", "_law_rows", "_law_k", "_law_row", "_law_word"] "_law_due" (defScope (topS 60)) zf zcd zAr zou zs zH zE) := hr.units
  refine ds_setN (i := 1) (dn_split (de_var (n := 0) rfl (pv 0)) (DE.of de_str (show _ = PyData.str (tS [59, 32]) from rfl)) (by decide) (by decide) ?g1 (pe_split pe_w pe_w)) (ps_set sc.nd rfl (.inl rfl) pe_w) ?_
  case g1 => first | exact Nat.le_trans hl (by decide) | exact Nat.le_trans hw9 (by decide)
  rw [show wsD (TL.spl [59, 32] 0 [] l) = wsD (wpt l) from rfl]
  refine ds_when (dt_cmp (dc_gt (de_lenM (by rfl) m_len (dl_var (n := 1) rfl (pv 1))) de_int)) (fun t1 => ?y1) (fun t1 => ?n1)
  case y1 =>
    exact absurd t1 (by have := ok_2 ho; simp [wsD]; omega)
    skip
  case n1 =>
    skip
    refine ds_setN (i := 2) (dn_lst da_nil (Nat.le_of_ble_eq_true rfl)) (ps_set sc.nd rfl (.inl rfl) pe_w) ?_
    refine ds_for (fun i Γ' => ∃ c4 c5, (Γ' = [.d (.str (tS l)), .ml (wsD (wpt l)), .ml (rwtD (wpt l) i), c4, c5, .no])) (fun _ d => [(3, d)]) hpo rfl (di_r1 (by rfl) m_range (de_lenM (by rfl) m_len (dl_var (n := 1) rfl (pv 1))) ?g2) ?hg_1 ?h0_1 ?hb_1 ?hd_1
    case g2 => exact wp_rng hl
    case hg_1 =>
      exact fun i d _ => (dg_name (j := 3) (pg_name sc.nd rfl (.inl rfl)))
    case h0_1 =>
      exact ⟨_, _, rfl⟩
    case hb_1 =>
      rintro i d Γ' hi ⟨c4, c5, rfl⟩
      obtain ⟨hlt, rfl⟩ := rng0_some hi
      rw [Int.toNat_natCast, show (wsD (wpt l)).length = (wpt l).length from List.length_map _] at hlt
      obtain ⟨w, hw⟩ : ∃ w, (wpt l)[i]? = some w := ⟨_, List.getElem?_eq_getElem hlt⟩
      have hw9 : w.length ≤ 90000 := Nat.le_trans (spl_len _ _ _ (List.mem_of_getElem? hw)) hl
      have hwc := spl_count [32] w
      refine ds_setLc (i := 4) (own := [("_law_word", 5)]) (rs := ((rowO w).map oFr)) rfl sc.nd rfl rfl (sw_true rfl rfl rfl (by decide +kernel)) (di_list (dn_split (de_ixM (dl_var (n := 1) rfl (pv 1)) (de_var (n := 3) rfl (pv 3)) ((by first | rfl | exact ws_at hw))) (DE.of de_str (show _ = PyData.str (tS [32]) from rfl)) (by decide) (by decide) ?g4 (pe_split pe_w pe_w)).de) (blkOk_by (N := ["_law_text_here", "_law_parts", "_law_rows", "_law_k", "_law_row", "_law_word"]) (sc := defScope (topS 60)) (by decide +kernel)) (fun _ d => [(5, d)]) ?g7 ?g8 ?g9 (fun i d hd s H C cl fp => ?g5_hg) ?g5_he ?_
      case g5_hg => exact (dg_name (j := 5) (pg_name sc.nd rfl (by first | exact .inl rfl | exact .inr rfl)))
      case g5_he =>
        rintro i d y hd hy s H C cl fp
        obtain ⟨v, hv, rfl⟩ := ws_some hd
        replace hy := row_at hv hy
        subst hy
        have hv9 : v.length ≤ 90000 := Nat.le_trans (spl_len _ _ _ (List.mem_of_getElem? hv)) hw9
        refine DE.of (de_call h_law_read_by (hr.mono (by decide)) (by rfl) (da_cons (de_var (n := 5) rfl (pv 5)) (da_cons de_int (da_cons de_int da_nil))) ⟨_, rfl, ?g6, rfl⟩) ?_
        case g6 => first | exact hv9
        rfl
      case g4 => first | exact Nat.le_trans hl (by decide) | exact Nat.le_trans hw9 (by decide)
      case g7 => rw [row_len, List.length_map]; rfl
      case g8 => first | (rw [row_len]; exact rc_len hw9) | exact rwt_len hl _ | (simp; done) | (simp; omega)
      case g9 => walk_at "hf_hin"
      refine ds_when (dt_cmp (dc_inV (units65 hr) de_non.v (dl_var (n := 4) rfl (pv 4)).v ?g10 ?g11)) (fun t2 => ?y2) (fun t2 => ?n2)
      case g10 => first | rfl | exact sh_row _
      case g11 => first | rfl | exact sh_row _
      case y2 =>
        have hin : none ∈ rowO w := by
          rw [inDD_none] at t2
          exact of_decide_eq_true t2
        exact absurd hin (ok_no ho hw)
        skip
      case n2 =>
        have hno : none ∉ rowO w := by
          rw [inDD_none] at t2
          exact of_decide_eq_false t2
        refine ds_app (i := 2) rfl (pv 2) (de_tupleM (by rfl) m_tuple (dl_var (n := 4) rfl (pv 4))) ?g12 (ps_expr (pe_bm PySem.F.plainAttrs_list PySem.F.slot_list_append PySem.F.type_list_append mt_append pe_w (pa_cons pe_w pa_nil))) ?_
        case g12 => first | (rw [row_len]; exact rc_len hw9) | exact rwt_len hl _ | (simp; done) | (simp; omega)
        refine ds_nil ?_
        rw [rwt_s hw]
        exact ⟨_, _, rfl⟩
    case hd_1 =>
      rintro Γ' ⟨c4, c5, rfl⟩
      rw [rng0_len, Int.toNat_natCast, show (wsD (wpt l)).length = (wpt l).length from List.length_map _]
      obtain ⟨ps, hps, hr⟩ := ho
      rcases hr with ⟨a, rfl, ha, rfl⟩ | ⟨a, b, rfl, ha, hb⟩
      ·
        rw [hps, show rwtD [a] ([a] : List (List Nat)).length = [.tuple ((rowO a).map oFr)] from rfl, row_frT ha]
        refine ds_when (dt_cmp (dc_eqI (de_lenM (by rfl) m_len (dl_var (n := 2) rfl (pv 2))) de_int)) (fun t3 => ?y3) (fun t3 => ?n3)
        case y3 =>
          skip
          refine ds_app (i := 2) rfl (pv 2) (DE.of (de_tup da_nil (Nat.le_of_ble_eq_true rfl)) (show _ = dPo [] from rfl)) ?g13 (ps_expr (pe_bm PySem.F.plainAttrs_list PySem.F.slot_list_append PySem.F.type_list_append mt_append pe_w (pa_cons pe_w pa_nil))) ?_
          case g13 => first | (rw [row_len]; exact rc_len hw9) | exact rwt_len hl _ | (simp; done) | (simp; omega)
          refine ds_nil ?_
          refine ds_when (dt_or (dt_cmp (dc_gt (de_lenT (by rfl) m_len (de_ixM (dl_var (n := 2) rfl (pv 2)) de_int ((by first | rfl | exact ws_at hw)))) de_int)) (fun q1 => (dw_or1 (dt_cmp (dc_neI (de_lenT (by rfl) m_len (de_ixM (dl_var (n := 2) rfl (pv 2)) de_int ((by first | rfl | exact ws_at hw)))) (de_add (de_lenT (by rfl) m_len (de_ixM (dl_var (n := 2) rfl (pv 2)) de_int ((by first | rfl | exact ws_at hw)))) de_int)))))) (fun t4 => ?y4) (fun t4 => ?n4)
          case y4 =>
            skip
            refine ds_ret (de_tup (da_cons (dn_call h_law_only (hr.mono (by decide)) (by rfl) (da_cons de_int da_nil) ⟨_, rfl, rfl⟩).de (da_cons de_non da_nil)) (Nat.le_of_ble_eq_true rfl)) ?_
            exact rfl
          case n4 =>
            exact absurd t4 (by simp at h1 ⊢; omega)
            skip
        case n3 =>
          exact absurd t3 (by simp)
          skip
      ·
        rw [hps, show rwtD [a, b] ([a, b] : List (List Nat)).length = [.tuple ((rowO a).map oFr), .tuple ((rowO b).map oFr)] from rfl, row_frT ha, row_frT hb]
        refine ds_when (dt_cmp (dc_eqI (de_lenM (by rfl) m_len (dl_var (n := 2) rfl (pv 2))) de_int)) (fun t5 => ?y5) (fun t5 => ?n5)
        case y5 =>
          exact absurd t5 (by simp)
          skip
        case n5 =>
          skip
          refine ds_when (dt_or (dt_cmp (dc_gt (de_lenT (by rfl) m_len (de_ixM (dl_var (n := 2) rfl (pv 2)) de_int ((by first | rfl | exact ws_at hw)))) de_int)) (fun q2 => (dw_or1 (dt_cmp (dc_neI (de_lenT (by rfl) m_len (de_ixM (dl_var (n := 2) rfl (pv 2)) de_int ((by first | rfl | exact ws_at hw)))) (de_add (de_lenT (by rfl) m_len (de_ixM (dl_var (n := 2) rfl (pv 2)) de_int ((by first | rfl | exact ws_at hw)))) de_int)))))) (fun t6 => ?y6) (fun t6 => ?n6)
          case y6 =>
            skip
            refine ds_ret (de_tup (da_cons (dn_call h_law_only (hr.mono (by decide)) (by rfl) (da_cons de_int da_nil) ⟨_, rfl, rfl⟩).de (da_cons de_non da_nil)) (Nat.le_of_ble_eq_true rfl)) ?_
            exact rfl
          case n6 =>
            exact absurd t6 (by simp at h1 ⊢; omega)
            skip
theorem sc_law_due_n : FnScope ["_law_text_here", "_law_parts", "_law_rows", "_law_k", "_law_row", "_law_word"] ["_law_text_here"] (defScope (topS 60)) := ⟨rfl, rfl, rfl, by decide +kernel, rfl, by decide +kernel, by decide +kernel⟩
theorem ok_law_due_n  {zf : Addr} {zfd : FuncData} (zF : Fun K "_law_due" "_law_due" (topS 60) zf zfd) (m_len : mg "len" = none) (m_range : mg "range" = none) (m_tuple : mg "tuple" = none)  (h_law_read_by : Has P w K mg base "_law_read_by" 2 S_law_read_by) (h_law_only : Has P w K mg base "_law_only" 1 S_law_only)   : FnOk P w K mg base (L2N.CX P w) 3 zf zfd ["_law_text_here"] (spF K (S_law_due_n)) := by
  have sc := sc_law_due_n
  refine fn_ok zF sc (by rintro ds r ⟨l, p, rfl, hl, hp, rfl⟩; rfl) ?_
  rintro zcd zAr zou zs zH zE hr ds r ⟨l, p, rfl, hl, hp, rfl⟩
  have hpo : PassesOwn (model P w) (cxOf (L2N.CX P w) P w K mg base ["_law_text_here", "_law_parts", "_law_rows", "_law_k", "_law_row", "_law_word"] "_law_due" (defScope (topS 60)) zf zcd zAr zou zs zH zE).A (cxOf (L2N.CX P w) P w K mg base ["_law_text_here", "_law_parts", "_law_rows", "_law_k", "_law_row", "_law_word"] "_law_due" (defScope (topS 60)) zf zcd zAr zou zs zH zE).env (cxOf (L2N.CX P w) P w K mg base ["_law_text_here", "_law_parts", "_law_rows", "_law_k", "_law_row", "_law_word"] "_law_due" (defScope (topS 60)) zf zcd zAr zou zs zH zE).xe := passes_of rfl
  have hu : Roomy (cxOf (L2N.CX P w) P w K mg base ["_law_text_here", "_law_parts", "_law_rows", "_law_k", "_law_row", "_law_word"] "_law_due" (defScope (topS 60)) zf zcd zAr zou zs zH zE) := hr.units
  refine ds_setN (i := 1) (dn_split (de_var (n := 0) rfl (pv 0)) (DE.of de_str (show _ = PyData.str (tS [59, 32]) from rfl)) (by decide) (by decide) ?g1 (pe_split pe_w pe_w)) (ps_set sc.nd rfl (.inl rfl) pe_w) ?_
  case g1 => first | exact Nat.le_trans hl (by decide) | exact Nat.le_trans hw9 (by decide)
  rw [show wsD (TL.spl [59, 32] 0 [] l) = wsD (wpt l) from rfl]
  refine ds_when (dt_cmp (dc_gt (de_lenM (by rfl) m_len (dl_var (n := 1) rfl (pv 1))) de_int)) (fun t1 => ?y1) (fun t1 => ?n1)
  case y1 =>
    have h2 : 2 < (wpt l).length := by
      simp [wsD] at t1
      omega
    obtain rfl : p = 2 := by
      rcases hp with ⟨_, h⟩ | ⟨h, _⟩
      · exact h
      · omega
    refine ds_ret (de_tup (da_cons (dn_call h_law_only (hr.mono (by decide)) (by rfl) (da_cons de_int da_nil) ⟨_, rfl, rfl⟩).de (da_cons de_int da_nil)) (Nat.le_of_ble_eq_true rfl)) ?_
    exact rfl
  case n1 =>
    have h2 : ¬ 2 < (wpt l).length := by
      simp [wsD] at t1
      omega
    refine ds_setN (i := 2) (dn_lst da_nil (Nat.le_of_ble_eq_true rfl)) (ps_set sc.nd rfl (.inl rfl) pe_w) ?_
    refine ds_for (fun i Γ' => ∃ c4 c5, (Γ' = [.d (.str (tS l)), .ml (wsD (wpt l)), .ml (rwtD (wpt l) i), c4, c5, .no]) ∧ ∀ m, m < i → none ∉ rowO ((wpt l).getD m [])) (fun _ d => [(3, d)]) hpo rfl (di_r1 (by rfl) m_range (de_lenM (by rfl) m_len (dl_var (n := 1) rfl (pv 1))) ?g2) ?hg_1 ?h0_1 ?hb_1 ?hd_1
    case g2 => exact wp_rng hl
    case hg_1 =>
      exact fun i d _ => (dg_name (j := 3) (pg_name sc.nd rfl (.inl rfl)))
    case h0_1 =>
      exact ⟨_, _, rfl, fun m h => absurd h (by omega)⟩
    case hb_1 =>
      rintro i d Γ' hi ⟨c4, c5, rfl, hm⟩
      obtain ⟨hlt, rfl⟩ := rng0_some hi
      rw [Int.toNat_natCast, show (wsD (wpt l)).length = (wpt l).length from List.length_map _] at hlt
      obtain ⟨w, hw⟩ : ∃ w, (wpt l)[i]? = some w := ⟨_, List.getElem?_eq_getElem hlt⟩
      have hw9 : w.length ≤ 90000 := Nat.le_trans (spl_len _ _ _ (List.mem_of_getElem? hw)) hl
      have hwc := spl_count [32] w
      refine ds_setLc (i := 4) (own := [("_law_word", 5)]) (rs := ((rowO w).map oFr)) rfl sc.nd rfl rfl (sw_true rfl rfl rfl (by decide +kernel)) (di_list (dn_split (de_ixM (dl_var (n := 1) rfl (pv 1)) (de_var (n := 3) rfl (pv 3)) ((by first | rfl | exact ws_at hw))) (DE.of de_str (show _ = PyData.str (tS [32]) from rfl)) (by decide) (by decide) ?g4 (pe_split pe_w pe_w)).de) (blkOk_by (N := ["_law_text_here", "_law_parts", "_law_rows", "_law_k", "_law_row", "_law_word"]) (sc := defScope (topS 60)) (by decide +kernel)) (fun _ d => [(5, d)]) ?g7 ?g8 ?g9 (fun i d hd s H C cl fp => ?g5_hg) ?g5_he ?_
      case g5_hg => exact (dg_name (j := 5) (pg_name sc.nd rfl (by first | exact .inl rfl | exact .inr rfl)))
      case g5_he =>
        rintro i d y hd hy s H C cl fp
        obtain ⟨v, hv, rfl⟩ := ws_some hd
        replace hy := row_at hv hy
        subst hy
        have hv9 : v.length ≤ 90000 := Nat.le_trans (spl_len _ _ _ (List.mem_of_getElem? hv)) hw9
        refine DE.of (de_call h_law_read_by (hr.mono (by decide)) (by rfl) (da_cons (de_var (n := 5) rfl (pv 5)) (da_cons de_int (da_cons de_int da_nil))) ⟨_, rfl, ?g6, rfl⟩) ?_
        case g6 => first | exact hv9
        rfl
      case g4 => first | exact Nat.le_trans hl (by decide) | exact Nat.le_trans hw9 (by decide)
      case g7 => rw [row_len, List.length_map]; rfl
      case g8 => first | (rw [row_len]; exact rc_len hw9) | exact rwt_len hl _ | (simp; done) | (simp; omega)
      case g9 => walk_at "hf_hin"
      refine ds_when (dt_cmp (dc_inV (units65 hr) de_non.v (dl_var (n := 4) rfl (pv 4)).v ?g10 ?g11)) (fun t2 => ?y2) (fun t2 => ?n2)
      case g10 => first | rfl | exact sh_row _
      case g11 => first | rfl | exact sh_row _
      case y2 =>
        have hin : none ∈ rowO w := by
          rw [inDD_none] at t2
          exact of_decide_eq_true t2
        obtain rfl := wtno_at hp h2 hw hm hin
        refine ds_ret (de_tup (da_cons (dn_call h_law_only (hr.mono (by decide)) (by rfl) (da_cons de_int da_nil) ⟨_, rfl, rfl⟩).de (da_cons (de_var (n := 3) rfl (pv 3)) da_nil)) (Nat.le_of_ble_eq_true rfl)) ?_
        exact rfl
      case n2 =>
        have hno : none ∉ rowO w := by
          rw [inDD_none] at t2
          exact of_decide_eq_false t2
        refine ds_app (i := 2) rfl (pv 2) (de_tupleM (by rfl) m_tuple (dl_var (n := 4) rfl (pv 4))) ?g12 (ps_expr (pe_bm PySem.F.plainAttrs_list PySem.F.slot_list_append PySem.F.type_list_append mt_append pe_w (pa_cons pe_w pa_nil))) ?_
        case g12 => first | (rw [row_len]; exact rc_len hw9) | exact rwt_len hl _ | (simp; done) | (simp; omega)
        refine ds_nil ?_
        rw [rwt_s hw]
        exact ⟨_, _, rfl, no_step hm hw hno⟩
    case hd_1 =>
      rintro Γ' ⟨c4, c5, rfl, hm⟩
      rw [rng0_len, Int.toNat_natCast, show (wsD (wpt l)).length = (wpt l).length from List.length_map _] at hm ⊢
      exact (wtno_end hp h2 hm).elim
theorem sc_law_asked_t : FnScope ["_law_text_here", "_law_found", "_law_e"] ["_law_text_here"] (defScope (topS 61)) := ⟨rfl, rfl, rfl, by decide +kernel, rfl, by decide +kernel, by decide +kernel⟩
theorem ok_law_asked_t {C_HeightError : Addr} {C_NoText : Addr} {zf : Addr} {zfd : FuncData} (zF : Fun K "_law_asked" "_law_asked" (topS 61) zf zfd)   (h_weights_read : Has P w K mg base "weights_read" 7 S_weights_read)  (gf_HeightError : mg "HeightError" = some (.ref C_HeightError)) (gf_NoText : mg "NoText" = some (.ref C_NoText)) : FnOk P w K mg base (L2N.CX P w) 8 zf zfd ["_law_text_here"] (spF K (S_law_asked_t)) := by
  have sc := sc_law_asked_t
  refine fn_ok zF sc (by rintro ds r ⟨l, lv, dn, rfl, hl, ho, rfl⟩; rfl) ?_
  rintro zcd zAr zou zs zH zE hr ds r ⟨l, lv, dn, rfl, hl, ho, rfl⟩
  have hpo : PassesOwn (model P w) (cxOf (L2N.CX P w) P w K mg base ["_law_text_here", "_law_found", "_law_e"] "_law_asked" (defScope (topS 61)) zf zcd zAr zou zs zH zE).A (cxOf (L2N.CX P w) P w K mg base ["_law_text_here", "_law_found", "_law_e"] "_law_asked" (defScope (topS 61)) zf zcd zAr zou zs zH zE).env (cxOf (L2N.CX P w) P w K mg base ["_law_text_here", "_law_found", "_law_e"] "_law_asked" (defScope (topS 61)) zf zcd zAr zou zs zH zE).xe := passes_of rfl
  have hu : Roomy (cxOf (L2N.CX P w) P w K mg base ["_law_text_here", "_law_found", "_law_e"] "_law_asked" (defScope (topS 61)) zf zcd zAr zou zs zH zE) := hr.units
  refine ds_set (i := 1) de_non (ps_set sc.nd rfl (.inl rfl) pe_w) ?_
  refine ds_try (i := 2) (fun _ _ _ => False) rfl rfl sc.nd rfl rfl (HdsL.cons ⟨by rfl, by decide, .inl gf_NoText⟩ (HdsL.cons ⟨by rfl, by decide, .inl gf_HeightError⟩ HdsL.nil)) ?tb_1 ?ts_1
  case tb_1 =>
    intro pn xe
    refine ds_set (i := 1) (de_call h_weights_read (hr.mono (by decide)) (by rfl) (da_cons (de_var (n := 0) rfl (pv 0)) da_nil) ⟨_, lv, dn, rfl, hl, ho, rfl⟩) (ps_set sc.nd rfl (.inl rfl) pe_w) ?_
    refine ds_nil ?_
    refine ds_ret (de_var (n := 1) rfl (pv 1)) ?_
    walk_at "hf_ret"
  case ts_1 =>
    exact fun C fs Γ z => z.elim
theorem sc_law_asked_n : FnScope ["_law_text_here", "_law_found", "_law_e"] ["_law_text_here"] (defScope (topS 61)) := ⟨rfl, rfl, rfl, by decide +kernel, rfl, by decide +kernel, by decide +kernel⟩
theorem ok_law_asked_n {C_HeightError : Addr} {C_NoText : Addr} {zf : Addr} {zfd : FuncData} (zF : Fun K "_law_asked" "_law_asked" (topS 61) zf zfd)   (h_weights_read_x : Has P w K mg base "weights_read" 7 (S_weights_read_x C_NoText)) (h_law_marks_NoText : HasP P w K mg base "_law_marks" 1 (S_law_marks_NoText C_NoText))  (gf_HeightError : mg "HeightError" = some (.ref C_HeightError)) (gf_NoText : mg "NoText" = some (.ref C_NoText)) (mf_NoText_NoText : PySem.W.exmOne K (.ref C_NoText) (.ref C_NoText) = some true) (af_NoText : XfC K C_NoText) (nf_NoText : PySem.W.findIn K (.ref C_NoText) "part" = some none) : FnOk P w K mg base (L2N.CX P w) 8 zf zfd ["_law_text_here"] (spF K ((S_law_asked_n C_NoText))) := by
  have sc := sc_law_asked_n
  refine fn_ok zF sc (by rintro ds r ⟨l, p, rfl, hl, hp, rfl⟩; rfl) ?_
  rintro zcd zAr zou zs zH zE hr ds r ⟨l, p, rfl, hl, hp, rfl⟩
  have hpo : PassesOwn (model P w) (cxOf (L2N.CX P w) P w K mg base ["_law_text_here", "_law_found", "_law_e"] "_law_asked" (defScope (topS 61)) zf zcd zAr zou zs zH zE).A (cxOf (L2N.CX P w) P w K mg base ["_law_text_here", "_law_found", "_law_e"] "_law_asked" (defScope (topS 61)) zf zcd zAr zou zs zH zE).env (cxOf (L2N.CX P w) P w K mg base ["_law_text_here", "_law_found", "_law_e"] "_law_asked" (defScope (topS 61)) zf zcd zAr zou zs zH zE).xe := passes_of rfl
  have hu : Roomy (cxOf (L2N.CX P w) P w K mg base ["_law_text_here", "_law_found", "_law_e"] "_law_asked" (defScope (topS 61)) zf zcd zAr zou zs zH zE) := hr.units
  refine ds_set (i := 1) de_non (ps_set sc.nd rfl (.inl rfl) pe_w) ?_
  refine ds_try (i := 2) (fun (C : Addr) (fs : List (Str × D)) Γ' => C = C_NoText ∧ fs = ([("part", .int (p : Int))] : List (Str × D)) ∧ Γ' = [.d (.str (tS l)), .d .none, .no]) rfl rfl sc.nd rfl rfl (HdsL.cons ⟨by rfl, by decide, .inl gf_NoText⟩ (HdsL.cons ⟨by rfl, by decide, .inl gf_HeightError⟩ HdsL.nil)) ?tb_1 ?ts_1
  case tb_1 =>
    intro pn xe
    refine ds_setX (i := 1) (dx_call h_weights_read_x (hr.mono (by decide)) (by rfl) (da_cons (de_var (n := 0) rfl (pv 0)) da_nil) ⟨_, p, rfl, hl, hp, rfl⟩) (ps_set sc.nd rfl (.inl rfl) pe_w) ?_
    exact ⟨rfl, rfl, rfl⟩
  case ts_1 =>
    rintro C fs Γ' ⟨rfl, rfl, rfl⟩
    refine Caught.yes mf_NoText_NoText (SuD.x fun a dd oe pn hot => ?_)
    refine ds_set (i := 1) (de_tup (da_cons (dn_callP h_law_marks_NoText hot (room_hot hr (by decide)) (by rfl) (da_cons (de_var (n := 2) rfl (pv 2)) da_nil) ⟨_, (by first | exact .n | exact .x), rfl, rfl, rfl⟩).de (da_cons (de_xf hot af_NoText nf_NoText (de_var (n := 2) rfl (pv 2))) da_nil)) (Nat.le_of_ble_eq_true rfl)) (ps_set sc.nd rfl (.inl rfl) pe_w) ?_
    refine ds_nil ?_
    refine ds_ret (de_var (n := 1) rfl (pv 1)) ?_
    walk_at "hf_ret"
theorem sc_law_asked_w : FnScope ["_law_text_here", "_law_found", "_law_e"] ["_law_text_here"] (defScope (topS 61)) := ⟨rfl, rfl, rfl, by decide +kernel, rfl, by decide +kernel, by decide +kernel⟩
theorem ok_law_asked_w {C_HeightError : Addr} {C_NoText : Addr} {C_NoWeights : Addr} {zf : Addr} {zfd : FuncData} (zF : Fun K "_law_asked" "_law_asked" (topS 61) zf zfd)   (h_weights_read_w : Has P w K mg base "weights_read" 7 (S_weights_read_w C_NoWeights)) (h_law_marks_NoWeights : HasP P w K mg base "_law_marks" 1 (S_law_marks_NoWeights C_NoWeights))  (gf_HeightError : mg "HeightError" = some (.ref C_HeightError)) (gf_NoText : mg "NoText" = some (.ref C_NoText)) (mf_NoWeights_NoText : PySem.W.exmOne K (.ref C_NoWeights) (.ref C_NoText) = some false) (mf_NoWeights_HeightError : PySem.W.exmOne K (.ref C_NoWeights) (.ref C_HeightError) = some true) : FnOk P w K mg base (L2N.CX P w) 8 zf zfd ["_law_text_here"] (spF K ((S_law_asked_w C_NoWeights))) := by
  have sc := sc_law_asked_w
  refine fn_ok zF sc (by rintro ds r ⟨l, lv, dn, rfl, hl, hp, rfl⟩; rfl) ?_
  rintro zcd zAr zou zs zH zE hr ds r ⟨l, lv, dn, rfl, hl, hp, rfl⟩
  have hpo : PassesOwn (model P w) (cxOf (L2N.CX P w) P w K mg base ["_law_text_here", "_law_found", "_law_e"] "_law_asked" (defScope (topS 61)) zf zcd zAr zou zs zH zE).A (cxOf (L2N.CX P w) P w K mg base ["_law_text_here", "_law_found", "_law_e"] "_law_asked" (defScope (topS 61)) zf zcd zAr zou zs zH zE).env (cxOf (L2N.CX P w) P w K mg base ["_law_text_here", "_law_found", "_law_e"] "_law_asked" (defScope (topS 61)) zf zcd zAr zou zs zH zE).xe := passes_of rfl
  have hu : Roomy (cxOf (L2N.CX P w) P w K mg base ["_law_text_here", "_law_found", "_law_e"] "_law_asked" (defScope (topS 61)) zf zcd zAr zou zs zH zE) := hr.units
  refine ds_set (i := 1) de_non (ps_set sc.nd rfl (.inl rfl) pe_w) ?_
  refine ds_try (i := 2) (fun (C : Addr) (fs : List (Str × D)) Γ' => C = C_NoWeights ∧ fs = ([] : List (Str × D)) ∧ Γ' = [.d (.str (tS l)), .d .none, .no]) rfl rfl sc.nd rfl rfl (HdsL.cons ⟨by rfl, by decide, .inl gf_NoText⟩ (HdsL.cons ⟨by rfl, by decide, .inl gf_HeightError⟩ HdsL.nil)) ?tb_1 ?ts_1
  case tb_1 =>
    intro pn xe
    refine ds_setX (i := 1) (dx_call h_weights_read_w (hr.mono (by decide)) (by rfl) (da_cons (de_var (n := 0) rfl (pv 0)) da_nil) ⟨_, lv, dn, rfl, hl, hp, rfl⟩) (ps_set sc.nd rfl (.inl rfl) pe_w) ?_
    exact ⟨rfl, rfl, rfl⟩
  case ts_1 =>
    rintro C fs Γ' ⟨rfl, rfl, rfl⟩
    refine Caught.no mf_NoWeights_NoText (Caught.yes mf_NoWeights_HeightError (SuD.n fun a oe pn hot => ?_))
    refine ds_set (i := 1) (de_tup (da_cons (dn_callP h_law_marks_NoWeights hot (room_hot hr (by decide)) (by rfl) (da_cons (de_var (n := 2) rfl (pv 2)) da_nil) ⟨_, (by first | exact .n | exact .x), rfl, rfl, rfl⟩).de (da_cons de_non da_nil)) (Nat.le_of_ble_eq_true rfl)) (ps_set sc.nd rfl (.inl rfl) pe_w) ?_
    refine ds_nil ?_
    refine ds_ret (de_var (n := 1) rfl (pv 1)) ?_
    walk_at "hf_ret"
theorem sc_poly_of : FnScope ["numbers", "many"] ["numbers"] (defScope (topS 40)) := ⟨rfl, rfl, rfl, by decide +kernel, rfl, by decide +kernel, by decide +kernel⟩
theorem ok_poly_of  {zf : Addr} {zfd : FuncData} (zF : Fun K "poly_of" "poly_of" (topS 40) zf zfd) (m_len : mg "len" = none) (m_tuple : mg "tuple" = none) (k_NOUGHT : Kst K mg "NOUGHT" (dFr 0))    : FnOk P w K mg base (L2N.CX P w) 1 zf zfd ["numbers"] (spF K (S_poly_of)) := by
  have sc := sc_poly_of
  refine fn_ok zF sc (by rintro ds r ⟨f, rfl, hl, rfl⟩; rfl) ?_
  rintro zcd zAr zou zs zH zE hr ds r ⟨f, rfl, hl, rfl⟩
  have hpo : PassesOwn (model P w) (cxOf (L2N.CX P w) P w K mg base ["numbers", "many"] "poly_of" (defScope (topS 40)) zf zcd zAr zou zs zH zE).A (cxOf (L2N.CX P w) P w K mg base ["numbers", "many"] "poly_of" (defScope (topS 40)) zf zcd zAr zou zs zH zE).env (cxOf (L2N.CX P w) P w K mg base ["numbers", "many"] "poly_of" (defScope (topS 40)) zf zcd zAr zou zs zH zE).xe := passes_of rfl
  have hu : Roomy (cxOf (L2N.CX P w) P w K mg base ["numbers", "many"] "poly_of" (defScope (topS 40)) zf zcd zAr zou zs zH zE) := hr.units
  refine ds_set (i := 1) (de_lenL (by rfl) m_len (de_var (n := 0) rfl (pv 0))) (ps_set sc.nd rfl (.inl rfl) pe_w) ?_
  refine ds_while (fun m Γ => Γ = [.d (.list (dFrs f)), .d (.int (m : Int))] ∧ m ≤ f.length ∧ trim (f.take m) = trim f) hpo f.length ?w0_1 ?st_1
  case w0_1 =>
    exact ⟨by simp only [List.length_map]; rfl, Nat.le_refl _, by rw [List.take_length]⟩
  case st_1 =>
    rintro m Γ' ⟨rfl, hm, ht⟩
    refine ⟨_, (dt_and (dt_cmp (dc_gt (de_var (n := 1) rfl (pv 1)) de_int)) (fun q1 => (dw_and1 (dt_cmp (dc_eq hu (de_ixL (de_var (n := 0) rfl (pv 0)) (de_sub (de_var (n := 1) rfl (pv 1)) de_int) (at_map (n := m - 1) (x := f.getD (m - 1) 0) (by simp only [decide_eq_true_eq] at q1; omega) (getD_at (by simp only [decide_eq_true_eq] at q1; omega)))) (k_NOUGHT.de (by rfl)) ?g2 ?g3))))), fun t => ?y_1, fun t => ?n_1⟩
    case g2 => walk_at "hf_shape"
    case g3 => walk_at "hf_shape"
    case y_1 =>
      simp only [decide_eq_true_eq, decide_eq_false_iff_not, Bool.not_eq_true', Bool.not_eq_false', Bool.and_eq_true, Bool.or_eq_true, Bool.and_eq_false_iff, Bool.or_eq_false_iff, Bool.not_eq_true, Bool.not_eq_false, Decidable.not_not] at t
      obtain ⟨k, rfl⟩ : ∃ k, m = k + 1 := ⟨m - 1, by omega⟩
      have e1 : f[k]? = some 0 := by
        have h2 := t.2
        rw [Nat.add_sub_cancel] at h2
        rw [eqv_fr, decide_eq_true_eq] at h2
        rw [getD_at (show k < f.length by omega), h2]
      refine ds_set (i := 1) (de_sub (de_var (n := 1) rfl (pv 1)) de_int) (ps_set sc.nd rfl (.inl rfl) pe_w) ?_
      refine ds_nil ?_
      refine ⟨k, by omega, ?_, by omega, ?_⟩
      · rw [show ((k + 1 : Nat) : Int) - 1 = (k : Int) by omega]; rfl
      · rw [← ht, trim_take e1]
    case n_1 =>
      have hx : trim (f.take m) = f.take m := by
        cases m with
        | zero => rfl
        | succ k =>
          refine trim_stop (a := f.getD k 0) (getD_at (by omega)) fun z => ?_
          rw [Nat.add_sub_cancel, z] at t
          simp [eqv_fr] at t
      refine ds_ret (de_tuple (by rfl) m_tuple ((dn_slL (de_var (n := 0) rfl (pv 0)) do_none (do_some (de_var (n := 1) rfl (pv 1))))).de (.inl rfl)) ?_
      show Res.ok (.val (.tuple _)) = Res.ok (.val (.tuple _))
      rw [cut_take _ _ (by simp; omega), ← List.map_take, ← hx, ht]
theorem sc_poly_ofT : FnScope ["numbers", "many"] ["numbers"] (defScope (topS 40)) := ⟨rfl, rfl, rfl, by decide +kernel, rfl, by decide +kernel, by decide +kernel⟩
theorem ok_poly_ofT  {zf : Addr} {zfd : FuncData} (zF : Fun K "poly_of" "poly_of" (topS 40) zf zfd) (m_len : mg "len" = none) (m_tuple : mg "tuple" = none) (k_NOUGHT : Kst K mg "NOUGHT" (dFr 0))    : FnOk P w K mg base (L2N.CX P w) 1 zf zfd ["numbers"] (spF K (S_poly_ofT)) := by
  have sc := sc_poly_ofT
  refine fn_ok zF sc (by rintro ds r ⟨f, rfl, hl, rfl⟩; rfl) ?_
  rintro zcd zAr zou zs zH zE hr ds r ⟨f, rfl, hl, rfl⟩
  have hpo : PassesOwn (model P w) (cxOf (L2N.CX P w) P w K mg base ["numbers", "many"] "poly_of" (defScope (topS 40)) zf zcd zAr zou zs zH zE).A (cxOf (L2N.CX P w) P w K mg base ["numbers", "many"] "poly_of" (defScope (topS 40)) zf zcd zAr zou zs zH zE).env (cxOf (L2N.CX P w) P w K mg base ["numbers", "many"] "poly_of" (defScope (topS 40)) zf zcd zAr zou zs zH zE).xe := passes_of rfl
  have hu : Roomy (cxOf (L2N.CX P w) P w K mg base ["numbers", "many"] "poly_of" (defScope (topS 40)) zf zcd zAr zou zs zH zE) := hr.units
  refine ds_set (i := 1) (de_lenT (by rfl) m_len (de_var (n := 0) rfl (pv 0))) (ps_set sc.nd rfl (.inl rfl) pe_w) ?_
  refine ds_while (fun m Γ => Γ = [.d (.tuple (dFrs f)), .d (.int (m : Int))] ∧ m ≤ f.length ∧ trim (f.take m) = trim f) hpo f.length ?w0_1 ?st_1
  case w0_1 =>
    exact ⟨by simp only [List.length_map]; rfl, Nat.le_refl _, by rw [List.take_length]⟩
  case st_1 =>
    rintro m Γ' ⟨rfl, hm, ht⟩
    refine ⟨_, (dt_and (dt_cmp (dc_gt (de_var (n := 1) rfl (pv 1)) de_int)) (fun q1 => (dw_and1 (dt_cmp (dc_eq hu (de_ixT (de_var (n := 0) rfl (pv 0)) (de_sub (de_var (n := 1) rfl (pv 1)) de_int) (at_map (n := m - 1) (x := f.getD (m - 1) 0) (by simp only [decide_eq_true_eq] at q1; omega) (getD_at (by simp only [decide_eq_true_eq] at q1; omega)))) (k_NOUGHT.de (by rfl)) ?g2 ?g3))))), fun t => ?y_1, fun t => ?n_1⟩
    case g2 => walk_at "hf_shape"
    case g3 => walk_at "hf_shape"
    case y_1 =>
      simp only [decide_eq_true_eq, decide_eq_false_iff_not, Bool.not_eq_true', Bool.not_eq_false', Bool.and_eq_true, Bool.or_eq_true, Bool.and_eq_false_iff, Bool.or_eq_false_iff, Bool.not_eq_true, Bool.not_eq_false, Decidable.not_not] at t
      obtain ⟨k, rfl⟩ : ∃ k, m = k + 1 := ⟨m - 1, by omega⟩
      have e1 : f[k]? = some 0 := by
        have h2 := t.2
        rw [Nat.add_sub_cancel] at h2
        rw [eqv_fr, decide_eq_true_eq] at h2
        rw [getD_at (show k < f.length by omega), h2]
      refine ds_set (i := 1) (de_sub (de_var (n := 1) rfl (pv 1)) de_int) (ps_set sc.nd rfl (.inl rfl) pe_w) ?_
      refine ds_nil ?_
      refine ⟨k, by omega, ?_, by omega, ?_⟩
      · rw [show ((k + 1 : Nat) : Int) - 1 = (k : Int) by omega]; rfl
      · rw [← ht, trim_take e1]
    case n_1 =>
      have hx : trim (f.take m) = f.take m := by
        cases m with
        | zero => rfl
        | succ k =>
          refine trim_stop (a := f.getD k 0) (getD_at (by omega)) fun z => ?_
          rw [Nat.add_sub_cancel, z] at t
          simp [eqv_fr] at t
      refine ds_ret (de_tuple (by rfl) m_tuple (de_slT (de_var (n := 0) rfl (pv 0)) do_none (do_some (de_var (n := 1) rfl (pv 1)))) (.inr rfl)) ?_
      show Res.ok (.val (.tuple _)) = Res.ok (.val (.tuple _))
      rw [cut_take _ _ (by simp; omega), ← List.map_take, ← hx, ht]
theorem sc_law_spoilt : FnScope ["_law_levels", "_law_downs", "_law_c", "_law_odd", "_law_words", "_law_text_here", "_law_number"] ["_law_levels", "_law_downs", "_law_c"] (defScope (topS 62)) := ⟨rfl, rfl, rfl, by decide +kernel, rfl, by decide +kernel, by decide +kernel⟩
theorem ok_law_spoilt  {zf : Addr} {zfd : FuncData} (zF : Fun K "_law_spoilt" "_law_spoilt" (topS 62) zf zfd) (m_len : mg "len" = none)  (h_law_text : Has P w K mg base "_law_text" 1 S_law_text) (h_law_row_text : Has P w K mg base "_law_row_text" 2 S_law_row_text) (h_law_weights_text : Has P w K mg base "_law_weights_text" 3 S_law_weights_text) (h_law_changed : Has P w K mg base "_law_changed" 2 S_law_changed)   : FnOk P w K mg base (L2N.CX P w) 4 zf zfd ["_law_levels", "_law_downs", "_law_c"] (spF K (S_law_spoilt)) := by
  have sc := sc_law_spoilt
  refine fn_ok zF sc (by rintro ds r ⟨lv, dn, c, rfl, hz1, l1, lp, hz2, l2, rfl⟩; rfl) ?_
  rintro zcd zAr zou zs zH zE hr ds r ⟨lv, dn, c, rfl, hz1, l1, lp, hz2, l2, rfl⟩
  have hpo : PassesOwn (model P w) (cxOf (L2N.CX P w) P w K mg base ["_law_levels", "_law_downs", "_law_c", "_law_odd", "_law_words", "_law_text_here", "_law_number"] "_law_spoilt" (defScope (topS 62)) zf zcd zAr zou zs zH zE).A (cxOf (L2N.CX P w) P w K mg base ["_law_levels", "_law_downs", "_law_c", "_law_odd", "_law_words", "_law_text_here", "_law_number"] "_law_spoilt" (defScope (topS 62)) zf zcd zAr zou zs zH zE).env (cxOf (L2N.CX P w) P w K mg base ["_law_levels", "_law_downs", "_law_c", "_law_odd", "_law_words", "_law_text_here", "_law_number"] "_law_spoilt" (defScope (topS 62)) zf zcd zAr zou zs zH zE).xe := passes_of rfl
  have hu : Roomy (cxOf (L2N.CX P w) P w K mg base ["_law_levels", "_law_downs", "_law_c", "_law_odd", "_law_words", "_law_text_here", "_law_number"] "_law_spoilt" (defScope (topS 62)) zf zcd zAr zou zs zH zE) := hr.units
  obtain ⟨o, ho, hol⟩ := at_txt (ls := od11) 9 (by decide) (by decide) (c / 4)
  refine ds_set (i := 3) (de_ixL ((dn_lst (da_cons (DE.of de_str (show _ = PyData.str (tS [49, 48, 48, 48, 48, 48, 48]) from rfl)) (da_cons (DE.of de_str (show _ = PyData.str (tS [45, 49, 48, 48, 48, 48, 48, 48]) from rfl)) (da_cons (DE.of de_str (show _ = PyData.str (tS [49, 47, 49, 51]) from rfl)) (da_cons (DE.of de_str (show _ = PyData.str (tS [50, 47, 52]) from rfl)) (da_cons (DE.of de_str (show _ = PyData.str (tS [48, 49]) from rfl)) (da_cons (DE.of de_str (show _ = PyData.str (tS [45, 48]) from rfl)) (da_cons (DE.of de_str (show _ = PyData.str (tS [120]) from rfl)) (da_cons (DE.of de_str (show _ = PyData.str (tS []) from rfl)) (da_cons (DE.of de_str (show _ = PyData.str (tS [49, 47, 49]) from rfl)) (da_cons (DE.of de_str (show _ = PyData.str (tS [57, 57, 57, 57, 57, 57, 47, 49, 49]) from rfl)) (da_cons (DE.of de_str (show _ = PyData.str (tS [43, 49]) from rfl)) da_nil))))))))))) (Nat.le_of_ble_eq_true rfl))).de (de_mod (de_fdiv (de_var (n := 2) rfl (pv 2)) de_int ?g1) de_int ?g2) ((by first | exact ho | exact ho2))) (ps_set sc.nd rfl (.inl rfl) pe_w) ?_
  case g1 => exact div_sm ⟨by decide, by decide⟩
  case g2 => first | decide | (simp; omega)
  refine ds_setLc (i := 4) (own := [("_law_number", 6)]) (rs := (wsD (lv.map wrL))) rfl sc.nd rfl rfl (sw_true rfl rfl rfl (by decide +kernel)) (di_list (de_var (n := 0) rfl (pv 0))) (blkOk_by (N := ["_law_levels", "_law_downs", "_law_c", "_law_odd", "_law_words", "_law_text_here", "_law_number"]) (sc := defScope (topS 62)) (by decide +kernel)) (fun _ d => [(6, d)]) ?g6 ?g7 ?g8 (fun i d hd s H C cl fp => ?g4_hg) ?g4_he ?_
  case g4_hg => exact (dg_name (j := 6) (pg_name sc.nd rfl (by first | exact .inl rfl | exact .inr rfl)))
  case g4_he =>
    rintro i d y hd hy s H C cl fp
    rw [List.getElem?_map] at hd
    obtain ⟨x, hx, rfl⟩ := Option.map_eq_some_iff.mp hd
    rw [List.getElem?_map, List.getElem?_map, hx] at hy
    cases hy
    refine DE.of (de_call h_law_text (hr.mono (by decide)) (by rfl) (da_cons (de_var (n := 6) rfl (pv 6)) da_nil) ⟨_, rfl, ?g5, rfl⟩) ?_
    case g5 => exact (hz1 x (List.mem_of_getElem? hx)).mono (by decide)
    rfl
  case g6 => simp
  case g7 => simp; omega
  case g8 => walk_at "hf_hin"
  refine ds_put (i := 4) rfl (pv 4) (de_var (n := 3) rfl (pv 3)) (de_mod (de_fdiv (de_var (n := 2) rfl (pv 2)) de_int ?g9) (de_lenM (by rfl) m_len (dl_var (n := 4) rfl (pv 4))) ?g10) (ixN_mod (by rw [List.length_map, List.length_map]; exact lp) _) (ps_asg pe_w (pg_sub pe_w pe_w set_list)) ?_
  case g9 => exact div_sm ⟨by decide, by decide⟩
  case g10 => first | decide | (simp; omega)
  rw [set_ws]
  refine ds_set (i := 5) (de_call h_law_weights_text (hr.mono (by decide)) (by rfl) (da_cons (de_var (n := 0) rfl (pv 0)) (da_cons (de_var (n := 1) rfl (pv 1)) da_nil)) ⟨_, _, rfl, ?g12, ?g13, ?g14, ?g15, rfl⟩) (ps_set sc.nd rfl (.inl rfl) pe_w) ?_
  case g12 => first | exact hz1.mono (by decide) | exact hz2.mono (by decide)
  case g13 => first | exact Nat.le_trans l1 (by decide) | exact Nat.le_trans l2 (by decide)
  case g14 => first | exact hz1.mono (by decide) | exact hz2.mono (by decide)
  case g15 => first | exact Nat.le_trans l1 (by decide) | exact Nat.le_trans l2 (by decide)
  refine ds_when (dt_cmp (dc_eqI (de_mod (de_var (n := 2) rfl (pv 2)) de_int ?g16) de_int)) (fun t1 => ?y1) (fun t1 => ?n1)
  case g16 => first | decide | (simp; omega)
  case y1 =>
    skip
    refine ds_frz 4 rfl ?_
    refine ds_retA (de_catS (de_join (DE.of de_str (show _ = PyData.str (tS [32]) from rfl)) ((de_var (n := 4) rfl (pv 4))).dq ?g17 (pe_join pe_w pe_w)) (de_slS (de_var (n := 5) rfl (pv 5)) (do_some (de_lenS (by rfl) m_len (de_call h_law_row_text (hr.mono (by decide)) (by rfl) (da_cons (de_var (n := 0) rfl (pv 0)) da_nil) ⟨_, rfl, ?g18, ?g19, rfl⟩) ?g20)) do_none ?g21) ?g22) ?rp1 rfl
    case g17 => exact (jn_ok hz1 l1 hol)
    case g18 => first | exact hz1.mono (by decide) | exact hz2.mono (by decide)
    case g19 => first | exact Nat.le_trans l1 (by decide) | exact Nat.le_trans l2 (by decide)
    case g20 => (have h1 := wt_len9 hz1 l1 hz2 l2; have h2 := jn_len9 (o := o) (j := (c / 44 % ((wsD (lv.map wrL)).length : Int)).toNat) hz1 l1 hol; have h3 := cut_le (l := wtL lv dn) (Nat.le_refl _) (some (((tS (rwL lv)).length : Nat) : Int)) none; have h4 := rw_len9 hz1 l1; first | (show (rwL lv).length ≤ 100000; omega) | (show (wtL lv dn).length ≤ 100000; omega) | ((try simp only [List.length_append, List.length_cons, List.length_nil]); omega))
    case g21 => (have h1 := wt_len9 hz1 l1 hz2 l2; have h2 := jn_len9 (o := o) (j := (c / 44 % ((wsD (lv.map wrL)).length : Int)).toNat) hz1 l1 hol; have h3 := cut_le (l := wtL lv dn) (Nat.le_refl _) (some (((tS (rwL lv)).length : Nat) : Int)) none; have h4 := rw_len9 hz1 l1; first | (show (rwL lv).length ≤ 100000; omega) | (show (wtL lv dn).length ≤ 100000; omega) | ((try simp only [List.length_append, List.length_cons, List.length_nil]); omega))
    case g22 => (have h1 := wt_len9 hz1 l1 hz2 l2; have h2 := jn_len9 (o := o) (j := (c / 44 % ((wsD (lv.map wrL)).length : Int)).toNat) hz1 l1 hol; have h3 := cut_le (l := wtL lv dn) (Nat.le_refl _) (some (((tS (rwL lv)).length : Nat) : Int)) none; have h4 := rw_len9 hz1 l1; first | (show (rwL lv).length ≤ 100000; omega) | (show (wtL lv dn).length ≤ 100000; omega) | ((try simp only [List.length_append, List.length_cons, List.length_nil]); omega))
    case rp1 =>
      exact ⟨_, rfl, by have h1 := wt_len9 hz1 l1 hz2 l2; have h2 := jn_len9 (o := o) (j := (c / 44 % ((wsD (lv.map wrL)).length : Int)).toNat) hz1 l1 hol; have h3 := cut_le (l := wtL lv dn) (Nat.le_refl _) (some (((tS (rwL lv)).length : Nat) : Int)) none; simp only [List.length_append, List.length_cons, List.length_nil]; omega⟩
  case n1 =>
    skip
    refine ds_when (dt_and (dt_cmp (dc_eqI (de_mod (de_var (n := 2) rfl (pv 2)) de_int ?g23) de_int)) (fun q1 => (dw_and1 (dt_cmp (dc_eqI (de_mod (de_fdiv (de_var (n := 2) rfl (pv 2)) de_int ?g24) de_int ?g25) de_int))))) (fun t2 => ?y2) (fun t2 => ?n2)
    case g23 => first | decide | (simp; omega)
    case g24 => exact div_sm ⟨by decide, by decide⟩
    case g25 => first | decide | (simp; omega)
    case y2 =>
      skip
      refine ds_frz 4 rfl ?_
      refine ds_retA (de_catS (de_join (DE.of de_str (show _ = PyData.str (tS [32]) from rfl)) ((de_var (n := 4) rfl (pv 4))).dq ?g26 (pe_join pe_w pe_w)) (DE.of de_str (show _ = PyData.str (tS [59, 32, 49, 59, 32, 50]) from rfl)) ?g27) ?rp2 rfl
      case g26 => exact (jn_ok hz1 l1 hol)
      case g27 => (have h1 := wt_len9 hz1 l1 hz2 l2; have h2 := jn_len9 (o := o) (j := (c / 44 % ((wsD (lv.map wrL)).length : Int)).toNat) hz1 l1 hol; have h3 := cut_le (l := wtL lv dn) (Nat.le_refl _) (some (((tS (rwL lv)).length : Nat) : Int)) none; have h4 := rw_len9 hz1 l1; first | (show (rwL lv).length ≤ 100000; omega) | (show (wtL lv dn).length ≤ 100000; omega) | ((try simp only [List.length_append, List.length_cons, List.length_nil]); omega))
      case rp2 =>
        exact ⟨_, rfl, by have h1 := wt_len9 hz1 l1 hz2 l2; have h2 := jn_len9 (o := o) (j := (c / 44 % ((wsD (lv.map wrL)).length : Int)).toNat) hz1 l1 hol; have h3 := cut_le (l := wtL lv dn) (Nat.le_refl _) (some (((tS (rwL lv)).length : Nat) : Int)) none; simp only [List.length_append, List.length_cons, List.length_nil]; omega⟩
    case n2 =>
      skip
      refine ds_when (dt_cmp (dc_eqI (de_mod (de_var (n := 2) rfl (pv 2)) de_int ?g28) de_int)) (fun t3 => ?y3) (fun t3 => ?n3)
      case g28 => first | decide | (simp; omega)
      case y3 =>
        skip
        obtain ⟨o2, ho2, hol2⟩ := at_txt (ls := od4) 7 (by decide) (by decide) (c / 4)
        refine ds_retA (de_catS (de_var (n := 5) rfl (pv 5)) (de_ixL ((dn_lst (da_cons (DE.of de_str (show _ = PyData.str (tS [59, 32, 49]) from rfl)) (da_cons (DE.of de_str (show _ = PyData.str (tS [59, 32]) from rfl)) (da_cons (DE.of de_str (show _ = PyData.str (tS [32]) from rfl)) (da_cons (DE.of de_str (show _ = PyData.str (tS [59, 32, 49, 59, 32, 50]) from rfl)) da_nil)))) (Nat.le_of_ble_eq_true rfl))).de (de_mod (de_fdiv (de_var (n := 2) rfl (pv 2)) de_int ?g29) de_int ?g30) ((by first | exact ho | exact ho2))) ?g32) ?rp3 rfl
        case g29 => exact div_sm ⟨by decide, by decide⟩
        case g30 => first | decide | (simp; omega)
        case g32 => (have h1 := wt_len9 hz1 l1 hz2 l2; have h2 := jn_len9 (o := o) (j := (c / 44 % ((wsD (lv.map wrL)).length : Int)).toNat) hz1 l1 hol; have h3 := cut_le (l := wtL lv dn) (Nat.le_refl _) (some (((tS (rwL lv)).length : Nat) : Int)) none; have h4 := rw_len9 hz1 l1; first | (show (rwL lv).length ≤ 100000; omega) | (show (wtL lv dn).length ≤ 100000; omega) | ((try simp only [List.length_append, List.length_cons, List.length_nil]); omega))
        case rp3 =>
          exact ⟨_, rfl, by have h1 := wt_len9 hz1 l1 hz2 l2; have h2 := jn_len9 (o := o) (j := (c / 44 % ((wsD (lv.map wrL)).length : Int)).toNat) hz1 l1 hol; have h3 := cut_le (l := wtL lv dn) (Nat.le_refl _) (some (((tS (rwL lv)).length : Nat) : Int)) none; simp only [List.length_append, List.length_cons, List.length_nil]; omega⟩
      case n3 =>
        skip
        refine ds_when (dt_cmp (dc_eqI (de_mod (de_var (n := 2) rfl (pv 2)) de_int ?g33) de_int)) (fun t4 => ?y4) (fun t4 => ?n4)
        case g33 => first | decide | (simp; omega)
        case y4 =>
          skip
          refine ds_frz 4 rfl ?_
          refine ds_retA (de_catS (de_catS (de_var (n := 5) rfl (pv 5)) (DE.of de_str (show _ = PyData.str (tS [59, 32]) from rfl)) ?g34) (de_join (DE.of de_str (show _ = PyData.str (tS [32]) from rfl)) ((de_var (n := 4) rfl (pv 4))).dq ?g35 (pe_join pe_w pe_w)) ?g36) ?rp4 rfl
          case g34 => (have h1 := wt_len9 hz1 l1 hz2 l2; have h2 := jn_len9 (o := o) (j := (c / 44 % ((wsD (lv.map wrL)).length : Int)).toNat) hz1 l1 hol; have h3 := cut_le (l := wtL lv dn) (Nat.le_refl _) (some (((tS (rwL lv)).length : Nat) : Int)) none; have h4 := rw_len9 hz1 l1; first | (show (rwL lv).length ≤ 100000; omega) | (show (wtL lv dn).length ≤ 100000; omega) | ((try simp only [List.length_append, List.length_cons, List.length_nil]); omega))
          case g35 => exact (jn_ok hz1 l1 hol)
          case g36 => (have h1 := wt_len9 hz1 l1 hz2 l2; have h2 := jn_len9 (o := o) (j := (c / 44 % ((wsD (lv.map wrL)).length : Int)).toNat) hz1 l1 hol; have h3 := cut_le (l := wtL lv dn) (Nat.le_refl _) (some (((tS (rwL lv)).length : Nat) : Int)) none; have h4 := rw_len9 hz1 l1; first | (show (rwL lv).length ≤ 100000; omega) | (show (wtL lv dn).length ≤ 100000; omega) | ((try simp only [List.length_append, List.length_cons, List.length_nil]); omega))
          case rp4 =>
            exact ⟨_, rfl, by have h1 := wt_len9 hz1 l1 hz2 l2; have h2 := jn_len9 (o := o) (j := (c / 44 % ((wsD (lv.map wrL)).length : Int)).toNat) hz1 l1 hol; have h3 := cut_le (l := wtL lv dn) (Nat.le_refl _) (some (((tS (rwL lv)).length : Nat) : Int)) none; simp only [List.length_append, List.length_cons, List.length_nil]; omega⟩
        case n4 =>
          skip
          refine ds_retAA (dea_call h_law_changed (hr.mono (by decide)) (by rfl) (da_cons (de_var (n := 5) rfl (pv 5)) (da_cons (de_fdiv (de_var (n := 2) rfl (pv 2)) de_int ?g37) da_nil)) ⟨_, _, rfl, ?g38, rfl⟩) ?rp5 rfl
          case g37 => exact div_sm ⟨by decide, by decide⟩
          case g38 => exact Nat.le_trans (wt_len9 hz1 l1 hz2 l2) (by decide)
          case rp5 =>
            exact fun d h => h
theorem sc_law : FnScope ["_law_script", "_law_c", "_law_many", "_law_more", "_law_levels", "_law_downs", "_law_text_here", "_law_other", "_law_words", "_law_numbers", "_law_poly", "_law_due_here", "_law_k"] ["_law_script"] (defScope (topS 63)) := ⟨rfl, rfl, rfl, by decide +kernel, rfl, by decide +kernel, by decide +kernel⟩
theorem ok_law {C_NoText : Addr} {C_NoWeights : Addr} {zf : Addr} {zfd : FuncData} (zF : Fun K "law" "law" (topS 63) zf zfd) (m_range : mg "range" = none) (m_tuple : mg "tuple" = none)  (h_weights_text : Has P w K mg base "weights_text" 3 S_weights_text) (h_poly_text : Has P w K mg base "poly_text" 3 S_poly_text) (h_law_drawn : Has P w K mg base "_law_drawn" 2 S_law_drawn) (h_law_number_by : Has P w K mg base "_law_number_by" 3 S_law_number_by) (h_law_row_textT : Has P w K mg base "_law_row_text" 2 S_law_row_textT) (h_law_weights_text : Has P w K mg base "_law_weights_text" 3 S_law_weights_text) (h_law_small : Has P w K mg base "_law_small" 3 S_law_small) (h_law_due_t : Has P w K mg base "_law_due" 3 S_law_due_t) (h_law_due_w : Has P w K mg base "_law_due" 3 S_law_due_w) (h_law_due_n : Has P w K mg base "_law_due" 3 S_law_due_n) (h_law_asked_t : Has P w K mg base "_law_asked" 8 S_law_asked_t) (h_law_asked_n : Has P w K mg base "_law_asked" 8 (S_law_asked_n C_NoText)) (h_law_asked_w : Has P w K mg base "_law_asked" 8 (S_law_asked_w C_NoWeights)) (h_poly_of : Has P w K mg base "poly_of" 1 S_poly_of) (h_law_spoilt : Has P w K mg base "_law_spoilt" 4 S_law_spoilt)  (af_NoText : XfC K C_NoText) : FnOk P w K mg base (L2N.CX P w) 9 zf zfd ["_law_script"] (spF K (S_law)) := by
  have sc := sc_law
  refine fn_ok zF sc (by rintro ds r ⟨ns, rfl, hn, rfl⟩; rfl) ?_
  rintro zcd zAr zou zs zH zE hr ds r ⟨ns, rfl, hn, rfl⟩
  have hpo : PassesOwn (model P w) (cxOf (L2N.CX P w) P w K mg base ["_law_script", "_law_c", "_law_many", "_law_more", "_law_levels", "_law_downs", "_law_text_here", "_law_other", "_law_words", "_law_numbers", "_law_poly", "_law_due_here", "_law_k"] "law" (defScope (topS 63)) zf zcd zAr zou zs zH zE).A (cxOf (L2N.CX P w) P w K mg base ["_law_script", "_law_c", "_law_many", "_law_more", "_law_levels", "_law_downs", "_law_text_here", "_law_other", "_law_words", "_law_numbers", "_law_poly", "_law_due_here", "_law_k"] "law" (defScope (topS 63)) zf zcd zAr zou zs zH zE).env (cxOf (L2N.CX P w) P w K mg base ["_law_script", "_law_c", "_law_many", "_law_more", "_law_levels", "_law_downs", "_law_text_here", "_law_other", "_law_words", "_law_numbers", "_law_poly", "_law_due_here", "_law_k"] "law" (defScope (topS 63)) zf zcd zAr zou zs zH zE).xe := passes_of rfl
  have hu : Roomy (cxOf (L2N.CX P w) P w K mg base ["_law_script", "_law_c", "_law_many", "_law_more", "_law_levels", "_law_downs", "_law_text_here", "_law_other", "_law_words", "_law_numbers", "_law_poly", "_law_due_here", "_law_k"] "law" (defScope (topS 63)) zf zcd zAr zou zs zH zE) := hr.units
  refine ds_set (i := 1) (de_call h_law_drawn (hr.mono (by decide)) (by rfl) (da_cons (de_var (n := 0) rfl (pv 0)) (da_cons de_int da_nil)) ⟨_, _, rfl, ?g1, ?g2, ?g3, rfl⟩) (ps_set sc.nd rfl (.inl rfl) pe_w) ?_
  case g1 => exact hn
  case g2 => omega
  case g3 => omega
  have c0 := (vDrN_bd ns 0).1
  obtain ⟨c, hc⟩ : ∃ c, c = vDrN ns 0 := ⟨_, rfl⟩
  rw [← hc] at c0 ⊢
  refine ds_set (i := 2) (de_add de_int (de_mod (de_var (n := 1) rfl (pv 1)) de_int ?g4)) (ps_set sc.nd rfl (.inl rfl) pe_w) ?_
  case g4 => decide
  obtain ⟨mo, hmo, hm0, hm9⟩ := at_int4 (a := 1 + c % 9 - 1) (b := c / 9 % 10) (c / 90) ⟨by omega, by omega⟩ ⟨by omega, by omega⟩
  refine ds_set (i := 3) (de_ixL ((dn_lst (da_cons (de_sub (de_var (n := 2) rfl (pv 2)) de_int) (da_cons (de_sub (de_var (n := 2) rfl (pv 2)) de_int) (da_cons (de_sub (de_var (n := 2) rfl (pv 2)) de_int) (da_cons (de_mod (de_fdiv (de_var (n := 1) rfl (pv 1)) de_int ?g5) de_int ?g6) da_nil)))) (Nat.le_of_ble_eq_true rfl))).de (de_mod (de_fdiv (de_var (n := 1) rfl (pv 1)) de_int ?g7) de_int ?g8) (hmo)) (ps_set sc.nd rfl (.inl rfl) pe_w) ?_
  case g5 => exact div_sm ⟨by decide, by decide⟩
  case g6 => decide
  case g7 => exact div_sm ⟨by decide, by decide⟩
  case g8 => decide
  refine ds_setLc (i := 4) (own := [("_law_k", 12)]) (rs := dFrs (lvN ns 1 (1 + c % 9).toNat)) rfl sc.nd rfl rfl (sw_true rfl rfl rfl (by decide +kernel)) (di_r1 (by rfl) m_range (de_var (n := 2) rfl (pv 2)) ?g10) (blkOk_by (N := ["_law_script", "_law_c", "_law_many", "_law_more", "_law_levels", "_law_downs", "_law_text_here", "_law_other", "_law_words", "_law_numbers", "_law_poly", "_law_due_here", "_law_k"]) (sc := defScope (topS 63)) (by decide +kernel)) (fun _ d => [(12, d)]) ?g15 ?g16 ?g17 (fun i d hd s H C cl fp => ?g11_hg) ?g11_he ?_
  case g11_hg => exact (dg_name (j := 12) (pg_name sc.nd rfl (by first | exact .inl rfl | exact .inr rfl)))
  case g11_he =>
    rintro i d y hd hy s H C cl fp
    obtain ⟨hi, rfl⟩ := rng0_some hd
    unfold lvN dFrs at hy
    rw [List.map_map, List.getElem?_map, List.getElem?_range hi] at hy
    cases hy
    refine DE.of (de_call h_law_small (hr.mono (by decide)) (by rfl) (da_cons (de_call h_law_drawn (hr.mono (by decide)) (by rfl) (da_cons (de_var (n := 0) rfl (pv 0)) (da_cons (de_add de_int (de_var (n := 12) rfl (pv 12))) da_nil)) ⟨_, _, rfl, ?g12, ?g13, ?g14, rfl⟩) da_nil) ⟨_, rfl, rfl⟩) ?_
    case g12 => exact hn
    case g13 => omega
    case g14 => omega
    rfl
  case g10 => omega
  case g15 => simp [lvN, nbN, rng0_len]
  case g16 => simp [rng0_len]; omega
  case g17 => walk_at "hf_hin"
  refine ds_setLc (i := 5) (own := [("_law_k", 12)]) (rs := dFrs (lvN ns 11 mo.toNat)) rfl sc.nd rfl rfl (sw_true rfl rfl rfl (by decide +kernel)) (di_r1 (by rfl) m_range (de_var (n := 3) rfl (pv 3)) ?g18) (blkOk_by (N := ["_law_script", "_law_c", "_law_many", "_law_more", "_law_levels", "_law_downs", "_law_text_here", "_law_other", "_law_words", "_law_numbers", "_law_poly", "_law_due_here", "_law_k"]) (sc := defScope (topS 63)) (by decide +kernel)) (fun _ d => [(12, d)]) ?g23 ?g24 ?g25 (fun i d hd s H C cl fp => ?g19_hg) ?g19_he ?_
  case g19_hg => exact (dg_name (j := 12) (pg_name sc.nd rfl (by first | exact .inl rfl | exact .inr rfl)))
  case g19_he =>
    rintro i d y hd hy s H C cl fp
    obtain ⟨hi, rfl⟩ := rng0_some hd
    unfold lvN dFrs at hy
    rw [List.map_map, List.getElem?_map, List.getElem?_range hi] at hy
    cases hy
    refine DE.of (de_call h_law_small (hr.mono (by decide)) (by rfl) (da_cons (de_call h_law_drawn (hr.mono (by decide)) (by rfl) (da_cons (de_var (n := 0) rfl (pv 0)) (da_cons (de_add de_int (de_var (n := 12) rfl (pv 12))) da_nil)) ⟨_, _, rfl, ?g20, ?g21, ?g22, rfl⟩) da_nil) ⟨_, rfl, rfl⟩) ?_
    case g20 => exact hn
    case g21 => omega
    case g22 => omega
    rfl
  case g18 => omega
  case g23 => simp [lvN, nbN, rng0_len]
  case g24 => simp [rng0_len]; omega
  case g25 => walk_at "hf_hin"
  have z1 := lvN_sz ns 1 (1 + c % 9).toNat
  have z2 := lvN_sz ns 11 mo.toNat
  have k1 : (lvN ns 1 (1 + c % 9).toNat).length = (1 + c % 9).toNat := by simp [lvN]
  have k2 : (lvN ns 11 mo.toNat).length = mo.toNat := by simp [lvN]
  refine ds_frz 5 rfl ?_
  refine ds_frz 4 rfl ?_
  refine ds_set (i := 6) (de_call h_law_weights_text (hr.mono (by decide)) (by rfl) (da_cons (de_var (n := 4) rfl (pv 4)) (da_cons (de_var (n := 5) rfl (pv 5)) da_nil)) ⟨_, _, rfl, ?g26, ?g27, ?g28, ?g29, rfl⟩) (ps_set sc.nd rfl (.inl rfl) pe_w) ?_
  case g26 => first | exact z1 | exact z2 | exact z1.mono (by decide) | exact z2.mono (by decide) | exact z3.trim.mono (by decide)
  case g27 => first | omega | (have := trim_len (nbN ns (c / 37 % 10).toNat); omega)
  case g28 => first | exact z1 | exact z2 | exact z1.mono (by decide) | exact z2.mono (by decide) | exact z3.trim.mono (by decide)
  case g29 => first | omega | (have := trim_len (nbN ns (c / 37 % 10).toNat); omega)
  refine ds_when (dt_and (dt_cmp (dc_eqI (de_var (n := 3) rfl (pv 3)) (de_sub (de_var (n := 2) rfl (pv 2)) de_int))) (fun q1 => (dw_and (dt_cmp (dc_lt (de_var (n := 2) rfl (pv 2)) de_int)) (fun q2 => (dw_and1 (dt_cmp (dc_neS (de_call h_weights_text (hr.mono (by decide)) (by rfl) (da_cons (de_tup (da_cons (de_tuple (by rfl) m_tuple (de_var (n := 4) rfl (pv 4)) (.inl rfl)) (da_cons (de_tuple (by rfl) m_tuple (de_var (n := 5) rfl (pv 5)) (.inl rfl)) da_nil)) (Nat.le_of_ble_eq_true rfl)) da_nil) ⟨_, _, rfl, ?g30, ?g31, ?g32, ?g33, rfl⟩) (de_var (n := 6) rfl (pv 6))))))))) (fun t1 => ?y1) (fun t1 => ?n1)
  case g30 => first | exact z1 | exact z2 | exact z1.mono (by decide) | exact z2.mono (by decide) | exact z3.trim.mono (by decide)
  case g31 => first | omega | (have := trim_len (nbN ns (c / 37 % 10).toNat); omega)
  case g32 => first | exact z1 | exact z2 | exact z1.mono (by decide) | exact z2.mono (by decide) | exact z3.trim.mono (by decide)
  case g33 => first | omega | (have := trim_len (nbN ns (c / 37 % 10).toNat); omega)
  case y1 =>
    exact absurd t1 (by simp)
    skip
  case n1 =>
    skip
    refine ds_setA (i := 7) (dea_call h_law_spoilt (hr.mono (by decide)) (by rfl) (da_cons (de_var (n := 4) rfl (pv 4)) (da_cons (de_var (n := 5) rfl (pv 5)) (da_cons (de_fdiv (de_var (n := 1) rfl (pv 1)) de_int ?g34) da_nil))) ⟨_, _, _, rfl, ?g35, ?g36, ?g37, ?g38, ?g39, rfl⟩) (ps_set sc.nd rfl (.inl rfl) pe_w) ?_
    case g34 => exact div_sm ⟨by decide, by decide⟩
    case g35 => first | exact z1 | exact z2 | exact z1.mono (by decide) | exact z2.mono (by decide) | exact z3.trim.mono (by decide)
    case g36 => first | omega | (have := trim_len (nbN ns (c / 37 % 10).toNat); omega)
    case g37 => omega
    case g38 => first | exact z1 | exact z2 | exact z1.mono (by decide) | exact z2.mono (by decide) | exact z3.trim.mono (by decide)
    case g39 => first | omega | (have := trim_len (nbN ns (c / 37 % 10).toNat); omega)
    rintro d ⟨w0, rfl, hw0⟩
    refine ds_for (fun i Γ' => ∃ c9 : Cell, Γ' = [.d (.list (ns.map PyData.int)), .d (.int c), .d (.int (1 + c % 9)), .d (.int mo), .d (.list (dFrs (lvN ns 1 (1 + c % 9).toNat))), .d (.list (dFrs (lvN ns 11 mo.toNat))), .d (.str (tS (wtL (lvN ns 1 (1 + c % 9).toNat) (lvN ns 11 mo.toNat)))), .d (.str (tS w0)), c9, .no, .no, .no, .no]) (fun _ d => [(8, d)]) hpo rfl (di_tup (de_tup (da_cons (de_var (n := 6) rfl (pv 6)) (da_cons (de_var (n := 7) rfl (pv 7)) (da_cons (de_var (n := 6) rfl (pv 6)) da_nil))) (Nat.le_of_ble_eq_true rfl))) ?hg_1 ?h0_1 ?hb_1 ?hd_1
    case hg_1 =>
      exact fun i d _ => (dg_name (j := 8) (pg_name sc.nd rfl (.inl rfl)))
    case h0_1 =>
      exact ⟨_, rfl⟩
    case hb_1 =>
      rintro i d Γ' hi ⟨c9, rfl⟩
      obtain ⟨w, rfl, hw⟩ := tri_some hi
      have hw9 : w.length ≤ 90000 := by
        rcases hw with rfl | rfl
        · exact Nat.le_trans (wt_len9 z1 (by omega) z2 (by omega)) (by decide)
        · exact hw0
      rcases wt_cases w with ⟨p, hp⟩ | ⟨lv2, dn2, hp⟩ | ⟨lv2, dn2, hp⟩
      ·
        refine ds_when (dt_cmp (dc_ne hu (de_call h_law_asked_n (hr.mono (by decide)) (by rfl) (da_cons (de_var (n := 8) rfl (pv 8)) da_nil) ⟨_, p, rfl, hw9, hp, rfl⟩) (de_call h_law_due_n (hr.mono (by decide)) (by rfl) (da_cons (de_var (n := 8) rfl (pv 8)) da_nil) ⟨_, p, rfl, hw9, hp, rfl⟩) ?g40 ?g41)) (fun t2 => ?y2) (fun t2 => ?n2)
        case g40 => first | exact sh_pp _ _ | exact sh_pl [_, _, _, _, _, _, _, _, _, _, _, _, _, _, _, _, _, _] _ | exact sh_frsT _ | decide +kernel | rfl
        case g41 => first | exact sh_pp _ _ | exact sh_pl [_, _, _, _, _, _, _, _, _, _, _, _, _, _, _, _, _, _] _ | exact sh_frsT _ | decide +kernel | rfl
        case y2 =>
          exact absurd t2 (by rw [tup_eqv (by decide +kernel) rfl]; decide)
          skip
        case n2 =>
          skip
          refine ds_nil ?_
          exact ⟨_, rfl⟩
      ·
        refine ds_when (dt_cmp (dc_ne hu (de_call h_law_asked_t (hr.mono (by decide)) (by rfl) (da_cons (de_var (n := 8) rfl (pv 8)) da_nil) ⟨_, lv2, dn2, rfl, hw9, hp, rfl⟩) (de_call h_law_due_t (hr.mono (by decide)) (by rfl) (da_cons (de_var (n := 8) rfl (pv 8)) da_nil) ⟨_, lv2, dn2, rfl, hw9, hp, rfl⟩) ?g42 ?g43)) (fun t3 => ?y3) (fun t3 => ?n3)
        case g42 => first | exact sh_pp _ _ | exact sh_pl [_, _, _, _, _, _, _, _, _, _, _, _, _, _, _, _, _, _] _ | exact sh_frsT _ | decide +kernel | rfl
        case g43 => first | exact sh_pp _ _ | exact sh_pl [_, _, _, _, _, _, _, _, _, _, _, _, _, _, _, _, _, _] _ | exact sh_frsT _ | decide +kernel | rfl
        case y3 =>
          exact absurd t3 (by rw [eqv_wtE lv2 dn2]; decide)
          skip
        case n3 =>
          skip
          refine ds_nil ?_
          exact ⟨_, rfl⟩
      ·
        refine ds_when (dt_cmp (dc_ne hu (de_call h_law_asked_w (hr.mono (by decide)) (by rfl) (da_cons (de_var (n := 8) rfl (pv 8)) da_nil) ⟨_, lv2, dn2, rfl, hw9, hp, rfl⟩) (de_call h_law_due_w (hr.mono (by decide)) (by rfl) (da_cons (de_var (n := 8) rfl (pv 8)) da_nil) ⟨_, lv2, dn2, rfl, hw9, hp, rfl⟩) ?g44 ?g45)) (fun t4 => ?y4) (fun t4 => ?n4)
        case g44 => first | exact sh_pp _ _ | exact sh_pl [_, _, _, _, _, _, _, _, _, _, _, _, _, _, _, _, _, _] _ | exact sh_frsT _ | decide +kernel | rfl
        case g45 => first | exact sh_pp _ _ | exact sh_pl [_, _, _, _, _, _, _, _, _, _, _, _, _, _, _, _, _, _] _ | exact sh_frsT _ | decide +kernel | rfl
        case y4 =>
          exact absurd t4 (by decide +kernel)
          skip
        case n4 =>
          skip
          refine ds_nil ?_
          exact ⟨_, rfl⟩
    case hd_1 =>
      rintro Γ' ⟨c9, rfl⟩
      refine ds_setLc (i := 9) (own := [("_law_k", 12)]) (rs := dFrs (nbN ns (c / 37 % 10).toNat)) rfl sc.nd rfl rfl (sw_true rfl rfl rfl (by decide +kernel)) (di_r1 (by rfl) m_range (de_mod (de_fdiv (de_var (n := 1) rfl (pv 1)) de_int ?g46) de_int ?g47) ?g48) (blkOk_by (N := ["_law_script", "_law_c", "_law_many", "_law_more", "_law_levels", "_law_downs", "_law_text_here", "_law_other", "_law_words", "_law_numbers", "_law_poly", "_law_due_here", "_law_k"]) (sc := defScope (topS 63)) (by decide +kernel)) (fun _ d => [(12, d)]) ?g54 ?g55 ?g56 (fun i d hd s H C cl fp => ?g49_hg) ?g49_he ?_
      case g49_hg => exact (dg_name (j := 12) (pg_name sc.nd rfl (by first | exact .inl rfl | exact .inr rfl)))
      case g49_he =>
        rintro i d y hd hy s H C cl fp
        obtain ⟨hi, rfl⟩ := rng0_some hd
        unfold nbN dFrs at hy
        rw [List.map_map, List.getElem?_map, List.getElem?_range hi] at hy
        cases hy
        refine DE.of (de_call h_law_number_by (hr.mono (by decide)) (by rfl) (da_cons (de_fdiv (de_call h_law_drawn (hr.mono (by decide)) (by rfl) (da_cons (de_var (n := 0) rfl (pv 0)) (da_cons (de_add de_int (de_var (n := 12) rfl (pv 12))) da_nil)) ⟨_, _, rfl, ?g50, ?g51, ?g52, rfl⟩) de_int ?g53) da_nil) ⟨_, rfl, rfl⟩) ?_
        case g50 => exact hn
        case g51 => omega
        case g52 => omega
        case g53 => exact div_sm ⟨by decide, by decide⟩
        rfl
      case g46 => exact div_sm ⟨by decide, by decide⟩
      case g47 => decide
      case g48 => omega
      case g54 => simp [lvN, nbN, rng0_len]
      case g55 => simp [rng0_len]; omega
      case g56 => walk_at "hf_hin"
      have z3 := nbN_sz ns (c / 37 % 10).toNat
      have k3 : (nbN ns (c / 37 % 10).toNat).length = (c / 37 % 10).toNat := by simp [nbN]
      refine ds_frz 9 rfl ?_
      refine ds_set (i := 10) (de_call h_poly_of (hr.mono (by decide)) (by rfl) (da_cons (de_var (n := 9) rfl (pv 9)) da_nil) ⟨_, rfl, ?g57, rfl⟩) (ps_set sc.nd rfl (.inl rfl) pe_w) ?_
      case g57 => omega
      refine ds_set (i := 11) (de_call h_law_row_textT (hr.mono (by decide)) (by rfl) (da_cons (de_var (n := 10) rfl (pv 10)) da_nil) ⟨_, rfl, ?g58, ?g59, rfl⟩) (ps_set sc.nd rfl (.inl rfl) pe_w) ?_
      case g58 => first | exact z1 | exact z2 | exact z1.mono (by decide) | exact z2.mono (by decide) | exact z3.trim.mono (by decide)
      case g59 => first | omega | (have := trim_len (nbN ns (c / 37 % 10).toNat); omega)
      refine ds_when (dt_cmp (dc_eq hu (de_var (n := 10) rfl (pv 10)) (DE.of (de_tup da_nil (Nat.le_of_ble_eq_true rfl)) (show _ = dPo [] from rfl)) ?g60 ?g61)) (fun t5 => ?y5) (fun t5 => ?n5)
      case g60 => first | exact sh_pp _ _ | exact sh_pl [_, _, _, _, _, _, _, _, _, _, _, _, _, _, _, _, _, _] _ | exact sh_frsT _ | decide +kernel | rfl
      case g61 => first | exact sh_pp _ _ | exact sh_pl [_, _, _, _, _, _, _, _, _, _, _, _, _, _, _, _, _, _] _ | exact sh_frsT _ | decide +kernel | rfl
      case y5 =>
        skip
        refine ds_set (i := 11) (DE.of de_str (show _ = PyData.str (tS [48]) from rfl)) (ps_set sc.nd rfl (.inl rfl) pe_w) ?_
        refine ds_nil ?_
        refine ds_ret (de_cmp (dc_eqS (de_call h_poly_text (hr.mono (by decide)) (by rfl) (da_cons (de_var (n := 10) rfl (pv 10)) da_nil) ⟨_, rfl, ?g62, ?g63, rfl⟩) (de_var (n := 11) rfl (pv 11)))) ?_
        case g62 => first | exact z1 | exact z2 | exact z1.mono (by decide) | exact z2.mono (by decide) | exact z3.trim.mono (by decide)
        case g63 => first | omega | (have := trim_len (nbN ns (c / 37 % 10).toNat); omega)
        show Res.ok (.val (.bool true)) = Res.ok (.val (.bool (decide (tS (plL _) = tS _))))
        first | rw [pl_0 (by assumption)] | rw [pl_1 (by assumption)]
        rw [decide_eq_true rfl]
      case n5 =>
        skip
        refine ds_ret (de_cmp (dc_eqS (de_call h_poly_text (hr.mono (by decide)) (by rfl) (da_cons (de_var (n := 10) rfl (pv 10)) da_nil) ⟨_, rfl, ?g64, ?g65, rfl⟩) (de_var (n := 11) rfl (pv 11)))) ?_
        case g64 => first | exact z1 | exact z2 | exact z1.mono (by decide) | exact z2.mono (by decide) | exact z3.trim.mono (by decide)
        case g65 => first | omega | (have := trim_len (nbN ns (c / 37 % 10).toNat); omega)
        show Res.ok (.val (.bool true)) = Res.ok (.val (.bool (decide (tS (plL _) = tS _))))
        first | rw [pl_0 (by assumption)] | rw [pl_1 (by assumption)]
        rw [decide_eq_true rfl]
end
theorem all_mk {l : PySem.W.OpenLaw} {w : World} {K : PySem.W.Frag} {h : Heap} {mg : Str → Option Value} {fa : Addr} (X : K.In h) (G : h.Ns mainGlobals mg) (hfa : mg "law" = some (.ref fa))
    {f_shared_by : Addr} {oc_shared_by kV_shared_by dc_shared_by pm_shared_by cd_shared_by ct_shared_by : Value} {od_shared_by an_shared_by : Option Addr} {sl_shared_by : Array (Option Value)} {f_written : Addr} {oc_written kV_written dc_written pm_written cd_written ct_written : Value} {od_written an_written : Option Addr} {sl_written : Array (Option Value)} {f_whole_read : Addr} {oc_whole_read kV_whole_read dc_whole_read pm_whole_read cd_whole_read ct_whole_read : Value} {od_whole_read an_whole_read : Option Addr} {sl_whole_read : Array (Option Value)} {f_top_read : Addr} {oc_top_read kV_top_read dc_top_read pm_top_read cd_top_read ct_top_read : Value} {od_top_read an_top_read : Option Addr} {sl_top_read : Array (Option Value)} {f_fraction_read : Addr} {oc_fraction_read kV_fraction_read dc_fraction_read pm_fraction_read cd_fraction_read ct_fraction_read : Value} {od_fraction_read an_fraction_read : Option Addr} {sl_fraction_read : Array (Option Value)} {f_weights_of : Addr} {oc_weights_of kV_weights_of dc_weights_of pm_weights_of cd_weights_of ct_weights_of : Value} {od_weights_of an_weights_of : Option Addr} {sl_weights_of : Array (Option Value)} {f_row_text : Addr} {oc_row_text kV_row_text dc_row_text pm_row_text cd_row_text ct_row_text : Value} {od_row_text an_row_text : Option Addr} {sl_row_text : Array (Option Value)} {f_weights_text : Addr} {oc_weights_text kV_weights_text dc_weights_text pm_weights_text cd_weights_text ct_weights_text : Value} {od_weights_text an_weights_text : Option Addr} {sl_weights_text : Array (Option Value)} {f_poly_text : Addr} {oc_poly_text kV_poly_text dc_poly_text pm_poly_text cd_poly_text ct_poly_text : Value} {od_poly_text an_poly_text : Option Addr} {sl_poly_text : Array (Option Value)} {f_small_read : Addr} {oc_small_read kV_small_read dc_small_read pm_small_read cd_small_read ct_small_read : Value} {od_small_read an_small_read : Option Addr} {sl_small_read : Array (Option Value)} {f_weights_read : Addr} {oc_weights_read kV_weights_read dc_weights_read pm_weights_read cd_weights_read ct_weights_read : Value} {od_weights_read an_weights_read : Option Addr} {sl_weights_read : Array (Option Value)} {f_law_cell_at : Addr} {oc_law_cell_at kV_law_cell_at dc_law_cell_at pm_law_cell_at cd_law_cell_at ct_law_cell_at : Value} {od_law_cell_at an_law_cell_at : Option Addr} {sl_law_cell_at : Array (Option Value)} {f_law_stir : Addr} {oc_law_stir kV_law_stir dc_law_stir pm_law_stir cd_law_stir ct_law_stir : Value} {od_law_stir an_law_stir : Option Addr} {sl_law_stir : Array (Option Value)} {f_law_drawn : Addr} {oc_law_drawn kV_law_drawn dc_law_drawn pm_law_drawn cd_law_drawn ct_law_drawn : Value} {od_law_drawn an_law_drawn : Option Addr} {sl_law_drawn : Array (Option Value)} {f_law_divisor : Addr} {oc_law_divisor kV_law_divisor dc_law_divisor pm_law_divisor cd_law_divisor ct_law_divisor : Value} {od_law_divisor an_law_divisor : Option Addr} {sl_law_divisor : Array (Option Value)} {f_law_low : Addr} {oc_law_low kV_law_low dc_law_low pm_law_low cd_law_low ct_law_low : Value} {od_law_low an_law_low : Option Addr} {sl_law_low : Array (Option Value)} {f_law_number_by : Addr} {oc_law_number_by kV_law_number_by dc_law_number_by pm_law_number_by cd_law_number_by ct_law_number_by : Value} {od_law_number_by an_law_number_by : Option Addr} {sl_law_number_by : Array (Option Value)} {f_law_text : Addr} {oc_law_text kV_law_text dc_law_text pm_law_text cd_law_text ct_law_text : Value} {od_law_text an_law_text : Option Addr} {sl_law_text : Array (Option Value)} {f_law_row_text : Addr} {oc_law_row_text kV_law_row_text dc_law_row_text pm_law_row_text cd_law_row_text ct_law_row_text : Value} {od_law_row_text an_law_row_text : Option Addr} {sl_law_row_text : Array (Option Value)} {f_law_weights_text : Addr} {oc_law_weights_text kV_law_weights_text dc_law_weights_text pm_law_weights_text cd_law_weights_text ct_law_weights_text : Value} {od_law_weights_text an_law_weights_text : Option Addr} {sl_law_weights_text : Array (Option Value)} {f_law_small : Addr} {oc_law_small kV_law_small dc_law_small pm_law_small cd_law_small ct_law_small : Value} {od_law_small an_law_small : Option Addr} {sl_law_small : Array (Option Value)} {f_law_figures : Addr} {oc_law_figures kV_law_figures dc_law_figures pm_law_figures cd_law_figures ct_law_figures : Value} {od_law_figures an_law_figures : Option Addr} {sl_law_figures : Array (Option Value)} {f_law_read_by : Addr} {oc_law_read_by kV_law_read_by dc_law_read_by pm_law_read_by cd_law_read_by ct_law_read_by : Value} {od_law_read_by an_law_read_by : Option Addr} {sl_law_read_by : Array (Option Value)} {f_law_marks : Addr} {oc_law_marks kV_law_marks dc_law_marks pm_law_marks cd_law_marks ct_law_marks : Value} {od_law_marks an_law_marks : Option Addr} {sl_law_marks : Array (Option Value)} {f_law_only : Addr} {oc_law_only kV_law_only dc_law_only pm_law_only cd_law_only ct_law_only : Value} {od_law_only an_law_only : Option Addr} {sl_law_only : Array (Option Value)} {f_law_sign : Addr} {oc_law_sign kV_law_sign dc_law_sign pm_law_sign cd_law_sign ct_law_sign : Value} {od_law_sign an_law_sign : Option Addr} {sl_law_sign : Array (Option Value)} {f_law_changed : Addr} {oc_law_changed kV_law_changed dc_law_changed pm_law_changed cd_law_changed ct_law_changed : Value} {od_law_changed an_law_changed : Option Addr} {sl_law_changed : Array (Option Value)} {f_law_due : Addr} {oc_law_due kV_law_due dc_law_due pm_law_due cd_law_due ct_law_due : Value} {od_law_due an_law_due : Option Addr} {sl_law_due : Array (Option Value)} {f_law_asked : Addr} {oc_law_asked kV_law_asked dc_law_asked pm_law_asked cd_law_asked ct_law_asked : Value} {od_law_asked an_law_asked : Option Addr} {sl_law_asked : Array (Option Value)} {f_poly_of : Addr} {oc_poly_of kV_poly_of dc_poly_of pm_poly_of cd_poly_of ct_poly_of : Value} {od_poly_of an_poly_of : Option Addr} {sl_poly_of : Array (Option Value)} {f_law_spoilt : Addr} {oc_law_spoilt kV_law_spoilt dc_law_spoilt pm_law_spoilt cd_law_spoilt ct_law_spoilt : Value} {od_law_spoilt an_law_spoilt : Option Addr} {sl_law_spoilt : Array (Option Value)} {f_law : Addr} {oc_law kV_law dc_law pm_law cd_law ct_law : Value} {od_law an_law : Option Addr} {sl_law : Array (Option Value)}  {C_HeightError : Addr} {C_NoCount : Addr} {C_NoFamily : Addr} {C_NoFraction : Addr} {C_NoHistory : Addr} {C_NoLine : Addr} {C_NoMeeting : Addr} {C_NoMoments : Addr} {C_NoName : Addr} {C_NoNumber : Addr} {C_NoSeries : Addr} {C_NoText : Addr} {C_NoThing : Addr} {C_NoWay : Addr} {C_NoWeights : Addr} {C_TooFar : Addr} {C_TooHigh : Addr} {C_TooMany : Addr} {fI_NoText : Addr} {ocI_NoText kVI_NoText dcI_NoText pmI_NoText cdI_NoText ctI_NoText : Value} {odI_NoText anI_NoText : Option Addr} {slI_NoText : Array (Option Value)}      {A_NOUGHT : Addr}
    (a_shared_by : PySem.W.nsIn K mainGlobals "shared_by" = some (some (.ref f_shared_by)))
    (l_shared_by : K.lookup f_shared_by = some ⟨oc_shared_by, od_shared_by, .func (PySem.W.fnOf "shared_by" "shared_by" (defArgs (topS 22)) (defBody (topS 22)) (defScope (topS 22)) .none kV_shared_by dc_shared_by pm_shared_by an_shared_by cd_shared_by ct_shared_by), sl_shared_by⟩)
    (c_shared_by : PySem.W.codeIn K cd_shared_by "shared_by" = true)
    (k_shared_by : PySem.W.keepIn K (.ref f_shared_by) = true)
    (a_written : PySem.W.nsIn K mainGlobals "written" = some (some (.ref f_written)))
    (l_written : K.lookup f_written = some ⟨oc_written, od_written, .func (PySem.W.fnOf "written" "written" (defArgs (topS 23)) (defBody (topS 23)) (defScope (topS 23)) .none kV_written dc_written pm_written an_written cd_written ct_written), sl_written⟩)
    (c_written : PySem.W.codeIn K cd_written "written" = true)
    (k_written : PySem.W.keepIn K (.ref f_written) = true)
    (a_whole_read : PySem.W.nsIn K mainGlobals "whole_read" = some (some (.ref f_whole_read)))
    (l_whole_read : K.lookup f_whole_read = some ⟨oc_whole_read, od_whole_read, .func (PySem.W.fnOf "whole_read" "whole_read" (defArgs (topS 24)) (defBody (topS 24)) (defScope (topS 24)) .none kV_whole_read dc_whole_read pm_whole_read an_whole_read cd_whole_read ct_whole_read), sl_whole_read⟩)
    (c_whole_read : PySem.W.codeIn K cd_whole_read "whole_read" = true)
    (k_whole_read : PySem.W.keepIn K (.ref f_whole_read) = true)
    (a_top_read : PySem.W.nsIn K mainGlobals "top_read" = some (some (.ref f_top_read)))
    (l_top_read : K.lookup f_top_read = some ⟨oc_top_read, od_top_read, .func (PySem.W.fnOf "top_read" "top_read" (defArgs (topS 25)) (defBody (topS 25)) (defScope (topS 25)) .none kV_top_read dc_top_read pm_top_read an_top_read cd_top_read ct_top_read), sl_top_read⟩)
    (c_top_read : PySem.W.codeIn K cd_top_read "top_read" = true)
    (k_top_read : PySem.W.keepIn K (.ref f_top_read) = true)
    (a_fraction_read : PySem.W.nsIn K mainGlobals "fraction_read" = some (some (.ref f_fraction_read)))
    (l_fraction_read : K.lookup f_fraction_read = some ⟨oc_fraction_read, od_fraction_read, .func (PySem.W.fnOf "fraction_read" "fraction_read" (defArgs (topS 26)) (defBody (topS 26)) (defScope (topS 26)) .none kV_fraction_read dc_fraction_read pm_fraction_read an_fraction_read cd_fraction_read ct_fraction_read), sl_fraction_read⟩)
    (c_fraction_read : PySem.W.codeIn K cd_fraction_read "fraction_read" = true)
    (k_fraction_read : PySem.W.keepIn K (.ref f_fraction_read) = true)
    (a_weights_of : PySem.W.nsIn K mainGlobals "weights_of" = some (some (.ref f_weights_of)))
    (l_weights_of : K.lookup f_weights_of = some ⟨oc_weights_of, od_weights_of, .func (PySem.W.fnOf "weights_of" "weights_of" (defArgs (topS 29)) (defBody (topS 29)) (defScope (topS 29)) .none kV_weights_of dc_weights_of pm_weights_of an_weights_of cd_weights_of ct_weights_of), sl_weights_of⟩)
    (c_weights_of : PySem.W.codeIn K cd_weights_of "weights_of" = true)
    (k_weights_of : PySem.W.keepIn K (.ref f_weights_of) = true)
    (a_row_text : PySem.W.nsIn K mainGlobals "row_text" = some (some (.ref f_row_text)))
    (l_row_text : K.lookup f_row_text = some ⟨oc_row_text, od_row_text, .func (PySem.W.fnOf "row_text" "row_text" (defArgs (topS 33)) (defBody (topS 33)) (defScope (topS 33)) .none kV_row_text dc_row_text pm_row_text an_row_text cd_row_text ct_row_text), sl_row_text⟩)
    (c_row_text : PySem.W.codeIn K cd_row_text "row_text" = true)
    (k_row_text : PySem.W.keepIn K (.ref f_row_text) = true)
    (a_weights_text : PySem.W.nsIn K mainGlobals "weights_text" = some (some (.ref f_weights_text)))
    (l_weights_text : K.lookup f_weights_text = some ⟨oc_weights_text, od_weights_text, .func (PySem.W.fnOf "weights_text" "weights_text" (defArgs (topS 34)) (defBody (topS 34)) (defScope (topS 34)) .none kV_weights_text dc_weights_text pm_weights_text an_weights_text cd_weights_text ct_weights_text), sl_weights_text⟩)
    (c_weights_text : PySem.W.codeIn K cd_weights_text "weights_text" = true)
    (k_weights_text : PySem.W.keepIn K (.ref f_weights_text) = true)
    (a_poly_text : PySem.W.nsIn K mainGlobals "poly_text" = some (some (.ref f_poly_text)))
    (l_poly_text : K.lookup f_poly_text = some ⟨oc_poly_text, od_poly_text, .func (PySem.W.fnOf "poly_text" "poly_text" (defArgs (topS 35)) (defBody (topS 35)) (defScope (topS 35)) .none kV_poly_text dc_poly_text pm_poly_text an_poly_text cd_poly_text ct_poly_text), sl_poly_text⟩)
    (c_poly_text : PySem.W.codeIn K cd_poly_text "poly_text" = true)
    (k_poly_text : PySem.W.keepIn K (.ref f_poly_text) = true)
    (a_small_read : PySem.W.nsIn K mainGlobals "small_read" = some (some (.ref f_small_read)))
    (l_small_read : K.lookup f_small_read = some ⟨oc_small_read, od_small_read, .func (PySem.W.fnOf "small_read" "small_read" (defArgs (topS 36)) (defBody (topS 36)) (defScope (topS 36)) .none kV_small_read dc_small_read pm_small_read an_small_read cd_small_read ct_small_read), sl_small_read⟩)
    (c_small_read : PySem.W.codeIn K cd_small_read "small_read" = true)
    (k_small_read : PySem.W.keepIn K (.ref f_small_read) = true)
    (a_weights_read : PySem.W.nsIn K mainGlobals "weights_read" = some (some (.ref f_weights_read)))
    (l_weights_read : K.lookup f_weights_read = some ⟨oc_weights_read, od_weights_read, .func (PySem.W.fnOf "weights_read" "weights_read" (defArgs (topS 37)) (defBody (topS 37)) (defScope (topS 37)) .none kV_weights_read dc_weights_read pm_weights_read an_weights_read cd_weights_read ct_weights_read), sl_weights_read⟩)
    (c_weights_read : PySem.W.codeIn K cd_weights_read "weights_read" = true)
    (k_weights_read : PySem.W.keepIn K (.ref f_weights_read) = true)
    (a_law_cell_at : PySem.W.nsIn K mainGlobals "_law_cell_at" = some (some (.ref f_law_cell_at)))
    (l_law_cell_at : K.lookup f_law_cell_at = some ⟨oc_law_cell_at, od_law_cell_at, .func (PySem.W.fnOf "_law_cell_at" "_law_cell_at" (defArgs (topS 42)) (defBody (topS 42)) (defScope (topS 42)) .none kV_law_cell_at dc_law_cell_at pm_law_cell_at an_law_cell_at cd_law_cell_at ct_law_cell_at), sl_law_cell_at⟩)
    (c_law_cell_at : PySem.W.codeIn K cd_law_cell_at "_law_cell_at" = true)
    (k_law_cell_at : PySem.W.keepIn K (.ref f_law_cell_at) = true)
    (a_law_stir : PySem.W.nsIn K mainGlobals "_law_stir" = some (some (.ref f_law_stir)))
    (l_law_stir : K.lookup f_law_stir = some ⟨oc_law_stir, od_law_stir, .func (PySem.W.fnOf "_law_stir" "_law_stir" (defArgs (topS 43)) (defBody (topS 43)) (defScope (topS 43)) .none kV_law_stir dc_law_stir pm_law_stir an_law_stir cd_law_stir ct_law_stir), sl_law_stir⟩)
    (c_law_stir : PySem.W.codeIn K cd_law_stir "_law_stir" = true)
    (k_law_stir : PySem.W.keepIn K (.ref f_law_stir) = true)
    (a_law_drawn : PySem.W.nsIn K mainGlobals "_law_drawn" = some (some (.ref f_law_drawn)))
    (l_law_drawn : K.lookup f_law_drawn = some ⟨oc_law_drawn, od_law_drawn, .func (PySem.W.fnOf "_law_drawn" "_law_drawn" (defArgs (topS 44)) (defBody (topS 44)) (defScope (topS 44)) .none kV_law_drawn dc_law_drawn pm_law_drawn an_law_drawn cd_law_drawn ct_law_drawn), sl_law_drawn⟩)
    (c_law_drawn : PySem.W.codeIn K cd_law_drawn "_law_drawn" = true)
    (k_law_drawn : PySem.W.keepIn K (.ref f_law_drawn) = true)
    (a_law_divisor : PySem.W.nsIn K mainGlobals "_law_divisor" = some (some (.ref f_law_divisor)))
    (l_law_divisor : K.lookup f_law_divisor = some ⟨oc_law_divisor, od_law_divisor, .func (PySem.W.fnOf "_law_divisor" "_law_divisor" (defArgs (topS 46)) (defBody (topS 46)) (defScope (topS 46)) .none kV_law_divisor dc_law_divisor pm_law_divisor an_law_divisor cd_law_divisor ct_law_divisor), sl_law_divisor⟩)
    (c_law_divisor : PySem.W.codeIn K cd_law_divisor "_law_divisor" = true)
    (k_law_divisor : PySem.W.keepIn K (.ref f_law_divisor) = true)
    (a_law_low : PySem.W.nsIn K mainGlobals "_law_low" = some (some (.ref f_law_low)))
    (l_law_low : K.lookup f_law_low = some ⟨oc_law_low, od_law_low, .func (PySem.W.fnOf "_law_low" "_law_low" (defArgs (topS 47)) (defBody (topS 47)) (defScope (topS 47)) .none kV_law_low dc_law_low pm_law_low an_law_low cd_law_low ct_law_low), sl_law_low⟩)
    (c_law_low : PySem.W.codeIn K cd_law_low "_law_low" = true)
    (k_law_low : PySem.W.keepIn K (.ref f_law_low) = true)
    (a_law_number_by : PySem.W.nsIn K mainGlobals "_law_number_by" = some (some (.ref f_law_number_by)))
    (l_law_number_by : K.lookup f_law_number_by = some ⟨oc_law_number_by, od_law_number_by, .func (PySem.W.fnOf "_law_number_by" "_law_number_by" (defArgs (topS 51)) (defBody (topS 51)) (defScope (topS 51)) .none kV_law_number_by dc_law_number_by pm_law_number_by an_law_number_by cd_law_number_by ct_law_number_by), sl_law_number_by⟩)
    (c_law_number_by : PySem.W.codeIn K cd_law_number_by "_law_number_by" = true)
    (k_law_number_by : PySem.W.keepIn K (.ref f_law_number_by) = true)
    (a_law_text : PySem.W.nsIn K mainGlobals "_law_text" = some (some (.ref f_law_text)))
    (l_law_text : K.lookup f_law_text = some ⟨oc_law_text, od_law_text, .func (PySem.W.fnOf "_law_text" "_law_text" (defArgs (topS 52)) (defBody (topS 52)) (defScope (topS 52)) .none kV_law_text dc_law_text pm_law_text an_law_text cd_law_text ct_law_text), sl_law_text⟩)
    (c_law_text : PySem.W.codeIn K cd_law_text "_law_text" = true)
    (k_law_text : PySem.W.keepIn K (.ref f_law_text) = true)
    (a_law_row_text : PySem.W.nsIn K mainGlobals "_law_row_text" = some (some (.ref f_law_row_text)))
    (l_law_row_text : K.lookup f_law_row_text = some ⟨oc_law_row_text, od_law_row_text, .func (PySem.W.fnOf "_law_row_text" "_law_row_text" (defArgs (topS 53)) (defBody (topS 53)) (defScope (topS 53)) .none kV_law_row_text dc_law_row_text pm_law_row_text an_law_row_text cd_law_row_text ct_law_row_text), sl_law_row_text⟩)
    (c_law_row_text : PySem.W.codeIn K cd_law_row_text "_law_row_text" = true)
    (k_law_row_text : PySem.W.keepIn K (.ref f_law_row_text) = true)
    (a_law_weights_text : PySem.W.nsIn K mainGlobals "_law_weights_text" = some (some (.ref f_law_weights_text)))
    (l_law_weights_text : K.lookup f_law_weights_text = some ⟨oc_law_weights_text, od_law_weights_text, .func (PySem.W.fnOf "_law_weights_text" "_law_weights_text" (defArgs (topS 54)) (defBody (topS 54)) (defScope (topS 54)) .none kV_law_weights_text dc_law_weights_text pm_law_weights_text an_law_weights_text cd_law_weights_text ct_law_weights_text), sl_law_weights_text⟩)
    (c_law_weights_text : PySem.W.codeIn K cd_law_weights_text "_law_weights_text" = true)
    (k_law_weights_text : PySem.W.keepIn K (.ref f_law_weights_text) = true)
    (a_law_small : PySem.W.nsIn K mainGlobals "_law_small" = some (some (.ref f_law_small)))
    (l_law_small : K.lookup f_law_small = some ⟨oc_law_small, od_law_small, .func (PySem.W.fnOf "_law_small" "_law_small" (defArgs (topS 55)) (defBody (topS 55)) (defScope (topS 55)) .none kV_law_small dc_law_small pm_law_small an_law_small cd_law_small ct_law_small), sl_law_small⟩)
    (c_law_small : PySem.W.codeIn K cd_law_small "_law_small" = true)
    (k_law_small : PySem.W.keepIn K (.ref f_law_small) = true)
    (a_law_figures : PySem.W.nsIn K mainGlobals "_law_figures" = some (some (.ref f_law_figures)))
    (l_law_figures : K.lookup f_law_figures = some ⟨oc_law_figures, od_law_figures, .func (PySem.W.fnOf "_law_figures" "_law_figures" (defArgs (topS 56)) (defBody (topS 56)) (defScope (topS 56)) .none kV_law_figures dc_law_figures pm_law_figures an_law_figures cd_law_figures ct_law_figures), sl_law_figures⟩)
    (c_law_figures : PySem.W.codeIn K cd_law_figures "_law_figures" = true)
    (k_law_figures : PySem.W.keepIn K (.ref f_law_figures) = true)
    (a_law_read_by : PySem.W.nsIn K mainGlobals "_law_read_by" = some (some (.ref f_law_read_by)))
    (l_law_read_by : K.lookup f_law_read_by = some ⟨oc_law_read_by, od_law_read_by, .func (PySem.W.fnOf "_law_read_by" "_law_read_by" (defArgs (topS 57)) (defBody (topS 57)) (defScope (topS 57)) .none kV_law_read_by dc_law_read_by pm_law_read_by an_law_read_by cd_law_read_by ct_law_read_by), sl_law_read_by⟩)
    (c_law_read_by : PySem.W.codeIn K cd_law_read_by "_law_read_by" = true)
    (k_law_read_by : PySem.W.keepIn K (.ref f_law_read_by) = true)
    (a_law_marks : PySem.W.nsIn K mainGlobals "_law_marks" = some (some (.ref f_law_marks)))
    (l_law_marks : K.lookup f_law_marks = some ⟨oc_law_marks, od_law_marks, .func (PySem.W.fnOf "_law_marks" "_law_marks" (defArgs (topS 49)) (defBody (topS 49)) (defScope (topS 49)) .none kV_law_marks dc_law_marks pm_law_marks an_law_marks cd_law_marks ct_law_marks), sl_law_marks⟩)
    (c_law_marks : PySem.W.codeIn K cd_law_marks "_law_marks" = true)
    (k_law_marks : PySem.W.keepIn K (.ref f_law_marks) = true)
    (a_law_only : PySem.W.nsIn K mainGlobals "_law_only" = some (some (.ref f_law_only)))
    (l_law_only : K.lookup f_law_only = some ⟨oc_law_only, od_law_only, .func (PySem.W.fnOf "_law_only" "_law_only" (defArgs (topS 50)) (defBody (topS 50)) (defScope (topS 50)) .none kV_law_only dc_law_only pm_law_only an_law_only cd_law_only ct_law_only), sl_law_only⟩)
    (c_law_only : PySem.W.codeIn K cd_law_only "_law_only" = true)
    (k_law_only : PySem.W.keepIn K (.ref f_law_only) = true)
    (a_law_sign : PySem.W.nsIn K mainGlobals "_law_sign" = some (some (.ref f_law_sign)))
    (l_law_sign : K.lookup f_law_sign = some ⟨oc_law_sign, od_law_sign, .func (PySem.W.fnOf "_law_sign" "_law_sign" (defArgs (topS 58)) (defBody (topS 58)) (defScope (topS 58)) .none kV_law_sign dc_law_sign pm_law_sign an_law_sign cd_law_sign ct_law_sign), sl_law_sign⟩)
    (c_law_sign : PySem.W.codeIn K cd_law_sign "_law_sign" = true)
    (k_law_sign : PySem.W.keepIn K (.ref f_law_sign) = true)
    (a_law_changed : PySem.W.nsIn K mainGlobals "_law_changed" = some (some (.ref f_law_changed)))
    (l_law_changed : K.lookup f_law_changed = some ⟨oc_law_changed, od_law_changed, .func (PySem.W.fnOf "_law_changed" "_law_changed" (defArgs (topS 59)) (defBody (topS 59)) (defScope (topS 59)) .none kV_law_changed dc_law_changed pm_law_changed an_law_changed cd_law_changed ct_law_changed), sl_law_changed⟩)
    (c_law_changed : PySem.W.codeIn K cd_law_changed "_law_changed" = true)
    (k_law_changed : PySem.W.keepIn K (.ref f_law_changed) = true)
    (a_law_due : PySem.W.nsIn K mainGlobals "_law_due" = some (some (.ref f_law_due)))
    (l_law_due : K.lookup f_law_due = some ⟨oc_law_due, od_law_due, .func (PySem.W.fnOf "_law_due" "_law_due" (defArgs (topS 60)) (defBody (topS 60)) (defScope (topS 60)) .none kV_law_due dc_law_due pm_law_due an_law_due cd_law_due ct_law_due), sl_law_due⟩)
    (c_law_due : PySem.W.codeIn K cd_law_due "_law_due" = true)
    (k_law_due : PySem.W.keepIn K (.ref f_law_due) = true)
    (a_law_asked : PySem.W.nsIn K mainGlobals "_law_asked" = some (some (.ref f_law_asked)))
    (l_law_asked : K.lookup f_law_asked = some ⟨oc_law_asked, od_law_asked, .func (PySem.W.fnOf "_law_asked" "_law_asked" (defArgs (topS 61)) (defBody (topS 61)) (defScope (topS 61)) .none kV_law_asked dc_law_asked pm_law_asked an_law_asked cd_law_asked ct_law_asked), sl_law_asked⟩)
    (c_law_asked : PySem.W.codeIn K cd_law_asked "_law_asked" = true)
    (k_law_asked : PySem.W.keepIn K (.ref f_law_asked) = true)
    (a_poly_of : PySem.W.nsIn K mainGlobals "poly_of" = some (some (.ref f_poly_of)))
    (l_poly_of : K.lookup f_poly_of = some ⟨oc_poly_of, od_poly_of, .func (PySem.W.fnOf "poly_of" "poly_of" (defArgs (topS 40)) (defBody (topS 40)) (defScope (topS 40)) .none kV_poly_of dc_poly_of pm_poly_of an_poly_of cd_poly_of ct_poly_of), sl_poly_of⟩)
    (c_poly_of : PySem.W.codeIn K cd_poly_of "poly_of" = true)
    (k_poly_of : PySem.W.keepIn K (.ref f_poly_of) = true)
    (a_law_spoilt : PySem.W.nsIn K mainGlobals "_law_spoilt" = some (some (.ref f_law_spoilt)))
    (l_law_spoilt : K.lookup f_law_spoilt = some ⟨oc_law_spoilt, od_law_spoilt, .func (PySem.W.fnOf "_law_spoilt" "_law_spoilt" (defArgs (topS 62)) (defBody (topS 62)) (defScope (topS 62)) .none kV_law_spoilt dc_law_spoilt pm_law_spoilt an_law_spoilt cd_law_spoilt ct_law_spoilt), sl_law_spoilt⟩)
    (c_law_spoilt : PySem.W.codeIn K cd_law_spoilt "_law_spoilt" = true)
    (k_law_spoilt : PySem.W.keepIn K (.ref f_law_spoilt) = true)
    (a_law : PySem.W.nsIn K mainGlobals "law" = some (some (.ref f_law)))
    (l_law : K.lookup f_law = some ⟨oc_law, od_law, .func (PySem.W.fnOf "law" "law" (defArgs (topS 63)) (defBody (topS 63)) (defScope (topS 63)) .none kV_law dc_law pm_law an_law cd_law ct_law), sl_law⟩)
    (c_law : PySem.W.codeIn K cd_law "law" = true)
    (k_law : PySem.W.keepIn K (.ref f_law) = true)
    (z_ValueError : PySem.W.nsIn K mainGlobals "ValueError" = some none)
    (z_abs : PySem.W.nsIn K mainGlobals "abs" = some none)
    (z_enumerate : PySem.W.nsIn K mainGlobals "enumerate" = some none)
    (z_int : PySem.W.nsIn K mainGlobals "int" = some none)
    (z_isinstance : PySem.W.nsIn K mainGlobals "isinstance" = some none)
    (z_len : PySem.W.nsIn K mainGlobals "len" = some none)
    (z_range : PySem.W.nsIn K mainGlobals "range" = some none)
    (z_str : PySem.W.nsIn K mainGlobals "str" = some none)
    (z_tuple : PySem.W.nsIn K mainGlobals "tuple" = some none)
    (aC_HeightError : PySem.W.nsIn K mainGlobals "HeightError" = some (some (.ref C_HeightError)))
    (aC_NoCount : PySem.W.nsIn K mainGlobals "NoCount" = some (some (.ref C_NoCount)))
    (aC_NoFamily : PySem.W.nsIn K mainGlobals "NoFamily" = some (some (.ref C_NoFamily)))
    (aC_NoFraction : PySem.W.nsIn K mainGlobals "NoFraction" = some (some (.ref C_NoFraction)))
    (aC_NoHistory : PySem.W.nsIn K mainGlobals "NoHistory" = some (some (.ref C_NoHistory)))
    (aC_NoLine : PySem.W.nsIn K mainGlobals "NoLine" = some (some (.ref C_NoLine)))
    (aC_NoMeeting : PySem.W.nsIn K mainGlobals "NoMeeting" = some (some (.ref C_NoMeeting)))
    (aC_NoMoments : PySem.W.nsIn K mainGlobals "NoMoments" = some (some (.ref C_NoMoments)))
    (aC_NoName : PySem.W.nsIn K mainGlobals "NoName" = some (some (.ref C_NoName)))
    (aC_NoNumber : PySem.W.nsIn K mainGlobals "NoNumber" = some (some (.ref C_NoNumber)))
    (aC_NoSeries : PySem.W.nsIn K mainGlobals "NoSeries" = some (some (.ref C_NoSeries)))
    (aC_NoText : PySem.W.nsIn K mainGlobals "NoText" = some (some (.ref C_NoText)))
    (aC_NoThing : PySem.W.nsIn K mainGlobals "NoThing" = some (some (.ref C_NoThing)))
    (aC_NoWay : PySem.W.nsIn K mainGlobals "NoWay" = some (some (.ref C_NoWay)))
    (aC_NoWeights : PySem.W.nsIn K mainGlobals "NoWeights" = some (some (.ref C_NoWeights)))
    (aC_TooFar : PySem.W.nsIn K mainGlobals "TooFar" = some (some (.ref C_TooFar)))
    (aC_TooHigh : PySem.W.nsIn K mainGlobals "TooHigh" = some (some (.ref C_TooHigh)))
    (aC_TooMany : PySem.W.nsIn K mainGlobals "TooMany" = some (some (.ref C_TooMany)))
    (spHE : PySem.W.specialIn K (.ref C_HeightError) "__getattribute__" = some (some (.builtin "type.__getattribute__")))
    (rdHE : PySem.W.readsIn K C_HeightError (.type "type") = true)
    (vIHE : PySem.W.findCls K (.ref C_HeightError) (.type "type") "__init__" = some (.val (.builtin "ValueError.__init__")))
    (xL_NoText : ∃ nm q N bs bm sn sub ab col dd k0 k1 k2 k3 k5, K.lookup C_NoText = some (excClassObj nm q C_NoText N bs bm true sn sub ab col dd k0 k1 k2 k3 k5 "ValueError.__new__") ∧ PySem.HandSPX.refsVE bm = true)
    (sa_NoText : PySem.W.findIn K (.ref C_NoText) "__setattr__" = some (some (.builtin "object.__setattr__")))
    (eC_NoText : PySem.W.subIn K (.ref C_NoText) (.type "BaseException") = some true)
    (tC_NoText : PySem.W.typeIn K (.ref C_NoText) = some (.type "type"))
    (kC_NoText : PySem.W.keepIn K (.ref C_NoText) = true)
    (nb_NoText : PySem.W.findIn K (.ref C_NoText) "part" = some none)
    (iI_NoText : PySem.W.findIn K (.ref C_NoText) "__init__" = some (some (.ref fI_NoText)))
    (tI_NoText : PySem.W.typeIn K (.ref fI_NoText) = some (.type "function"))
    (lI_NoText : K.lookup fI_NoText = some ⟨ocI_NoText, odI_NoText, .func (PySem.W.fnOf "__init__" "NoText.__init__" (defArgs (mthS 13 0)) (defBody (mthS 13 0)) (defScope (mthS 13 0)) .none kVI_NoText dcI_NoText pmI_NoText anI_NoText cdI_NoText ctI_NoText), slI_NoText⟩)
    (cI_NoText : PySem.W.codeIn K cdI_NoText "NoText.__init__" = true)
    (kI_NoText : PySem.W.keepIn K (.ref fI_NoText) = true)
    (xq_NoWeights : ∃ bm, ExcBaseFacts "ValueError" "ValueError.__new__" "ValueError.__init__" bm ∧ PySem.W.excIn K C_NoWeights bm "ValueError.__new__" = true)
    (xk_NoWeights : PySem.W.keepIn K (.ref C_NoWeights) = true)
    (xb_NoWeights : PySem.W.subIn K (.ref C_NoWeights) (.type "BaseException") = some true)
    (xt_NoWeights : PySem.W.typeIn K (.ref C_NoWeights) = some (.type "type"))
    (tf_NoText : ExcC K C_NoText)
    (tf_NoWeights : ExcC K C_NoWeights)
    (af_NoText : XfC K C_NoText)
    (nf_NoText : PySem.W.findIn K (.ref C_NoText) "part" = some none)
    (bc_HeightError : PySem.W.subIn K (.ref C_HeightError) (.type "BaseException") = some true)
    (bc_NoText : PySem.W.subIn K (.ref C_NoText) (.type "BaseException") = some true)
    (ic_HeightError : PySem.W.isClsIn K C_HeightError = true)
    (ic_NoCount : PySem.W.isClsIn K C_NoCount = true)
    (ic_NoFamily : PySem.W.isClsIn K C_NoFamily = true)
    (ic_NoFraction : PySem.W.isClsIn K C_NoFraction = true)
    (ic_NoHistory : PySem.W.isClsIn K C_NoHistory = true)
    (ic_NoLine : PySem.W.isClsIn K C_NoLine = true)
    (ic_NoMeeting : PySem.W.isClsIn K C_NoMeeting = true)
    (ic_NoMoments : PySem.W.isClsIn K C_NoMoments = true)
    (ic_NoName : PySem.W.isClsIn K C_NoName = true)
    (ic_NoNumber : PySem.W.isClsIn K C_NoNumber = true)
    (ic_NoSeries : PySem.W.isClsIn K C_NoSeries = true)
    (ic_NoText : PySem.W.isClsIn K C_NoText = true)
    (ic_NoThing : PySem.W.isClsIn K C_NoThing = true)
    (ic_NoWay : PySem.W.isClsIn K C_NoWay = true)
    (ic_NoWeights : PySem.W.isClsIn K C_NoWeights = true)
    (ic_TooFar : PySem.W.isClsIn K C_TooFar = true)
    (ic_TooHigh : PySem.W.isClsIn K C_TooHigh = true)
    (ic_TooMany : PySem.W.isClsIn K C_TooMany = true)
    (sf_NoText_NoCount : PySem.W.subIn K (.ref C_NoText) (.ref C_NoCount) = some false)
    (sf_NoText_NoFamily : PySem.W.subIn K (.ref C_NoText) (.ref C_NoFamily) = some false)
    (sf_NoText_NoFraction : PySem.W.subIn K (.ref C_NoText) (.ref C_NoFraction) = some false)
    (sf_NoText_NoHistory : PySem.W.subIn K (.ref C_NoText) (.ref C_NoHistory) = some false)
    (sf_NoText_NoLine : PySem.W.subIn K (.ref C_NoText) (.ref C_NoLine) = some false)
    (sf_NoText_NoMeeting : PySem.W.subIn K (.ref C_NoText) (.ref C_NoMeeting) = some false)
    (sf_NoText_NoMoments : PySem.W.subIn K (.ref C_NoText) (.ref C_NoMoments) = some false)
    (sf_NoText_NoName : PySem.W.subIn K (.ref C_NoText) (.ref C_NoName) = some false)
    (sf_NoText_NoNumber : PySem.W.subIn K (.ref C_NoText) (.ref C_NoNumber) = some false)
    (sf_NoText_NoSeries : PySem.W.subIn K (.ref C_NoText) (.ref C_NoSeries) = some false)
    (sf_NoText_NoText : PySem.W.subIn K (.ref C_NoText) (.ref C_NoText) = some true)
    (sf_NoText_NoThing : PySem.W.subIn K (.ref C_NoText) (.ref C_NoThing) = some false)
    (sf_NoText_NoWay : PySem.W.subIn K (.ref C_NoText) (.ref C_NoWay) = some false)
    (sf_NoText_NoWeights : PySem.W.subIn K (.ref C_NoText) (.ref C_NoWeights) = some false)
    (sf_NoText_TooFar : PySem.W.subIn K (.ref C_NoText) (.ref C_TooFar) = some false)
    (sf_NoText_TooHigh : PySem.W.subIn K (.ref C_NoText) (.ref C_TooHigh) = some false)
    (sf_NoText_TooMany : PySem.W.subIn K (.ref C_NoText) (.ref C_TooMany) = some false)
    (sf_NoText_VE : PySem.W.subIn K (.ref C_NoText) (.type "ValueError") = some true)
    (sf_NoWeights_HeightError : PySem.W.subIn K (.ref C_NoWeights) (.ref C_HeightError) = some true)
    (sf_NoWeights_NoCount : PySem.W.subIn K (.ref C_NoWeights) (.ref C_NoCount) = some false)
    (sf_NoWeights_NoFamily : PySem.W.subIn K (.ref C_NoWeights) (.ref C_NoFamily) = some false)
    (sf_NoWeights_NoFraction : PySem.W.subIn K (.ref C_NoWeights) (.ref C_NoFraction) = some false)
    (sf_NoWeights_NoHistory : PySem.W.subIn K (.ref C_NoWeights) (.ref C_NoHistory) = some false)
    (sf_NoWeights_NoLine : PySem.W.subIn K (.ref C_NoWeights) (.ref C_NoLine) = some false)
    (sf_NoWeights_NoMeeting : PySem.W.subIn K (.ref C_NoWeights) (.ref C_NoMeeting) = some false)
    (sf_NoWeights_NoMoments : PySem.W.subIn K (.ref C_NoWeights) (.ref C_NoMoments) = some false)
    (sf_NoWeights_NoName : PySem.W.subIn K (.ref C_NoWeights) (.ref C_NoName) = some false)
    (sf_NoWeights_NoNumber : PySem.W.subIn K (.ref C_NoWeights) (.ref C_NoNumber) = some false)
    (sf_NoWeights_NoSeries : PySem.W.subIn K (.ref C_NoWeights) (.ref C_NoSeries) = some false)
    (sf_NoWeights_NoText : PySem.W.subIn K (.ref C_NoWeights) (.ref C_NoText) = some false)
    (sf_NoWeights_NoThing : PySem.W.subIn K (.ref C_NoWeights) (.ref C_NoThing) = some false)
    (sf_NoWeights_NoWay : PySem.W.subIn K (.ref C_NoWeights) (.ref C_NoWay) = some false)
    (sf_NoWeights_NoWeights : PySem.W.subIn K (.ref C_NoWeights) (.ref C_NoWeights) = some true)
    (sf_NoWeights_TooFar : PySem.W.subIn K (.ref C_NoWeights) (.ref C_TooFar) = some false)
    (sf_NoWeights_TooHigh : PySem.W.subIn K (.ref C_NoWeights) (.ref C_TooHigh) = some false)
    (sf_NoWeights_TooMany : PySem.W.subIn K (.ref C_NoWeights) (.ref C_TooMany) = some false)
    (sf_NoWeights_VE : PySem.W.subIn K (.ref C_NoWeights) (.type "ValueError") = some true)
    (tc_HeightError : PySem.W.typeIn K (.ref C_HeightError) = some (.type "type"))
    (tc_NoCount : PySem.W.typeIn K (.ref C_NoCount) = some (.type "type"))
    (tc_NoFamily : PySem.W.typeIn K (.ref C_NoFamily) = some (.type "type"))
    (tc_NoFraction : PySem.W.typeIn K (.ref C_NoFraction) = some (.type "type"))
    (tc_NoHistory : PySem.W.typeIn K (.ref C_NoHistory) = some (.type "type"))
    (tc_NoLine : PySem.W.typeIn K (.ref C_NoLine) = some (.type "type"))
    (tc_NoMeeting : PySem.W.typeIn K (.ref C_NoMeeting) = some (.type "type"))
    (tc_NoMoments : PySem.W.typeIn K (.ref C_NoMoments) = some (.type "type"))
    (tc_NoName : PySem.W.typeIn K (.ref C_NoName) = some (.type "type"))
    (tc_NoNumber : PySem.W.typeIn K (.ref C_NoNumber) = some (.type "type"))
    (tc_NoSeries : PySem.W.typeIn K (.ref C_NoSeries) = some (.type "type"))
    (tc_NoText : PySem.W.typeIn K (.ref C_NoText) = some (.type "type"))
    (tc_NoThing : PySem.W.typeIn K (.ref C_NoThing) = some (.type "type"))
    (tc_NoWay : PySem.W.typeIn K (.ref C_NoWay) = some (.type "type"))
    (tc_NoWeights : PySem.W.typeIn K (.ref C_NoWeights) = some (.type "type"))
    (tc_TooFar : PySem.W.typeIn K (.ref C_TooFar) = some (.type "type"))
    (tc_TooHigh : PySem.W.typeIn K (.ref C_TooHigh) = some (.type "type"))
    (tc_TooMany : PySem.W.typeIn K (.ref C_TooMany) = some (.type "type"))
    (x_FIGURES : ∃ tk, mg "FIGURES" = some (.str "0123456789" tk))
    (x_GREATEST : ∃ tk, mg "GREATEST" = some (.int 7 tk))
    (x_LONGEST : ∃ tk, mg "LONGEST" = some (.int 30 tk))
    (x_MOST_BOTTOM : ∃ tk, mg "MOST_BOTTOM" = some (.int 12 tk))
    (x_MOST_TOP : ∃ tk, mg "MOST_TOP" = some (.int 1000000 tk))
    (x_NOUGHT : PySem.W.nsIn K mainGlobals "NOUGHT" = some (some (.ref A_NOUGHT)))
    (y_NOUGHT : ∀ H, L2.SqT K H A_NOUGHT [.int 0, .int 1])
    : ∃ fd : FuncData, (∀ (s : Shared) (v : Value), BindsTo s fd ⟨[v], []⟩ [("_law_script", v)]) ∧ ∀ base : Heap, K.In base → base.Ns mainGlobals mg → FnOk l.prog w K mg base (L2N.CX l.prog w) 9 fa fd ["_law_script"] (spF K S_law) := by
  have e := hfa.symm.trans (PySem.W.mg_of X G a_law)
  cases e
  have F_shared_by := fun_mk (st := topS 22) l_shared_by c_shared_by k_shared_by
  have b_shared_by := F_shared_by.binds (ps := ["one", "other"]) fun _ _ _ _ _ _ us hl => match us, hl with | [_, _], _ => rfl
  have g_shared_by := PySem.W.mg_of X G a_shared_by
  have F_written := fun_mk (st := topS 23) l_written c_written k_written
  have b_written := F_written.binds (ps := ["a"]) fun _ _ _ _ _ _ us hl => match us, hl with | [_], _ => rfl
  have g_written := PySem.W.mg_of X G a_written
  have F_whole_read := fun_mk (st := topS 24) l_whole_read c_whole_read k_whole_read
  have b_whole_read := F_whole_read.binds (ps := ["figures"]) fun _ _ _ _ _ _ us hl => match us, hl with | [_], _ => rfl
  have g_whole_read := PySem.W.mg_of X G a_whole_read
  have F_top_read := fun_mk (st := topS 25) l_top_read c_top_read k_top_read
  have b_top_read := F_top_read.binds (ps := ["word"]) fun _ _ _ _ _ _ us hl => match us, hl with | [_], _ => rfl
  have g_top_read := PySem.W.mg_of X G a_top_read
  have F_fraction_read := fun_mk (st := topS 26) l_fraction_read c_fraction_read k_fraction_read
  have b_fraction_read := F_fraction_read.binds (ps := ["thing"]) fun _ _ _ _ _ _ us hl => match us, hl with | [_], _ => rfl
  have g_fraction_read := PySem.W.mg_of X G a_fraction_read
  have F_weights_of := fun_mk (st := topS 29) l_weights_of c_weights_of k_weights_of
  have b_weights_of := F_weights_of.binds (ps := ["levels", "downs"]) fun _ _ _ _ _ _ us hl => match us, hl with | [_, _], _ => rfl
  have g_weights_of := PySem.W.mg_of X G a_weights_of
  have F_row_text := fun_mk (st := topS 33) l_row_text c_row_text k_row_text
  have b_row_text := F_row_text.binds (ps := ["numbers"]) fun _ _ _ _ _ _ us hl => match us, hl with | [_], _ => rfl
  have g_row_text := PySem.W.mg_of X G a_row_text
  have F_weights_text := fun_mk (st := topS 34) l_weights_text c_weights_text k_weights_text
  have b_weights_text := F_weights_text.binds (ps := ["weights"]) fun _ _ _ _ _ _ us hl => match us, hl with | [_], _ => rfl
  have g_weights_text := PySem.W.mg_of X G a_weights_text
  have F_poly_text := fun_mk (st := topS 35) l_poly_text c_poly_text k_poly_text
  have b_poly_text := F_poly_text.binds (ps := ["poly"]) fun _ _ _ _ _ _ us hl => match us, hl with | [_], _ => rfl
  have g_poly_text := PySem.W.mg_of X G a_poly_text
  have F_small_read := fun_mk (st := topS 36) l_small_read c_small_read k_small_read
  have b_small_read := F_small_read.binds (ps := ["word"]) fun _ _ _ _ _ _ us hl => match us, hl with | [_], _ => rfl
  have g_small_read := PySem.W.mg_of X G a_small_read
  have F_weights_read := fun_mk (st := topS 37) l_weights_read c_weights_read k_weights_read
  have b_weights_read := F_weights_read.binds (ps := ["text"]) fun _ _ _ _ _ _ us hl => match us, hl with | [_], _ => rfl
  have g_weights_read := PySem.W.mg_of X G a_weights_read
  have F_law_cell_at := fun_mk (st := topS 42) l_law_cell_at c_law_cell_at k_law_cell_at
  have b_law_cell_at := F_law_cell_at.binds (ps := ["_law_script", "_law_k"]) fun _ _ _ _ _ _ us hl => match us, hl with | [_, _], _ => rfl
  have g_law_cell_at := PySem.W.mg_of X G a_law_cell_at
  have F_law_stir := fun_mk (st := topS 43) l_law_stir c_law_stir k_law_stir
  have b_law_stir := F_law_stir.binds (ps := ["_law_cell", "_law_k"]) fun _ _ _ _ _ _ us hl => match us, hl with | [_, _], _ => rfl
  have g_law_stir := PySem.W.mg_of X G a_law_stir
  have F_law_drawn := fun_mk (st := topS 44) l_law_drawn c_law_drawn k_law_drawn
  have b_law_drawn := F_law_drawn.binds (ps := ["_law_script", "_law_k"]) fun _ _ _ _ _ _ us hl => match us, hl with | [_, _], _ => rfl
  have g_law_drawn := PySem.W.mg_of X G a_law_drawn
  have F_law_divisor := fun_mk (st := topS 46) l_law_divisor c_law_divisor k_law_divisor
  have b_law_divisor := F_law_divisor.binds (ps := ["_law_a", "_law_b"]) fun _ _ _ _ _ _ us hl => match us, hl with | [_, _], _ => rfl
  have g_law_divisor := PySem.W.mg_of X G a_law_divisor
  have F_law_low := fun_mk (st := topS 47) l_law_low c_law_low k_law_low
  have b_law_low := F_law_low.binds (ps := ["_law_top", "_law_bottom"]) fun _ _ _ _ _ _ us hl => match us, hl with | [_, _], _ => rfl
  have g_law_low := PySem.W.mg_of X G a_law_low
  have F_law_number_by := fun_mk (st := topS 51) l_law_number_by c_law_number_by k_law_number_by
  have b_law_number_by := F_law_number_by.binds (ps := ["_law_c"]) fun _ _ _ _ _ _ us hl => match us, hl with | [_], _ => rfl
  have g_law_number_by := PySem.W.mg_of X G a_law_number_by
  have F_law_text := fun_mk (st := topS 52) l_law_text c_law_text k_law_text
  have b_law_text := F_law_text.binds (ps := ["_law_a"]) fun _ _ _ _ _ _ us hl => match us, hl with | [_], _ => rfl
  have g_law_text := PySem.W.mg_of X G a_law_text
  have F_law_row_text := fun_mk (st := topS 53) l_law_row_text c_law_row_text k_law_row_text
  have b_law_row_text := F_law_row_text.binds (ps := ["_law_numbers"]) fun _ _ _ _ _ _ us hl => match us, hl with | [_], _ => rfl
  have g_law_row_text := PySem.W.mg_of X G a_law_row_text
  have F_law_weights_text := fun_mk (st := topS 54) l_law_weights_text c_law_weights_text k_law_weights_text
  have b_law_weights_text := F_law_weights_text.binds (ps := ["_law_levels", "_law_downs"]) fun _ _ _ _ _ _ us hl => match us, hl with | [_, _], _ => rfl
  have g_law_weights_text := PySem.W.mg_of X G a_law_weights_text
  have F_law_small := fun_mk (st := topS 55) l_law_small c_law_small k_law_small
  have b_law_small := F_law_small.binds (ps := ["_law_c"]) fun _ _ _ _ _ _ us hl => match us, hl with | [_], _ => rfl
  have g_law_small := PySem.W.mg_of X G a_law_small
  have F_law_figures := fun_mk (st := topS 56) l_law_figures c_law_figures k_law_figures
  have b_law_figures := F_law_figures.binds (ps := ["_law_text_here", "_law_most"]) fun _ _ _ _ _ _ us hl => match us, hl with | [_, _], _ => rfl
  have g_law_figures := PySem.W.mg_of X G a_law_figures
  have F_law_read_by := fun_mk (st := topS 57) l_law_read_by c_law_read_by k_law_read_by
  have b_law_read_by := F_law_read_by.binds (ps := ["_law_word", "_law_most", "_law_bound"]) fun _ _ _ _ _ _ us hl => match us, hl with | [_, _, _], _ => rfl
  have g_law_read_by := PySem.W.mg_of X G a_law_read_by
  have F_law_marks := fun_mk (st := topS 49) l_law_marks c_law_marks k_law_marks
  have b_law_marks := F_law_marks.binds (ps := ["_law_e"]) fun _ _ _ _ _ _ us hl => match us, hl with | [_], _ => rfl
  have g_law_marks := PySem.W.mg_of X G a_law_marks
  have F_law_only := fun_mk (st := topS 50) l_law_only c_law_only k_law_only
  have b_law_only := F_law_only.binds (ps := ["_law_at"]) fun _ _ _ _ _ _ us hl => match us, hl with | [_], _ => rfl
  have g_law_only := PySem.W.mg_of X G a_law_only
  have F_law_sign := fun_mk (st := topS 58) l_law_sign c_law_sign k_law_sign
  have b_law_sign := F_law_sign.binds (ps := ["_law_c"]) fun _ _ _ _ _ _ us hl => match us, hl with | [_], _ => rfl
  have g_law_sign := PySem.W.mg_of X G a_law_sign
  have F_law_changed := fun_mk (st := topS 59) l_law_changed c_law_changed k_law_changed
  have b_law_changed := F_law_changed.binds (ps := ["_law_text_here", "_law_c"]) fun _ _ _ _ _ _ us hl => match us, hl with | [_, _], _ => rfl
  have g_law_changed := PySem.W.mg_of X G a_law_changed
  have F_law_due := fun_mk (st := topS 60) l_law_due c_law_due k_law_due
  have b_law_due := F_law_due.binds (ps := ["_law_text_here"]) fun _ _ _ _ _ _ us hl => match us, hl with | [_], _ => rfl
  have g_law_due := PySem.W.mg_of X G a_law_due
  have F_law_asked := fun_mk (st := topS 61) l_law_asked c_law_asked k_law_asked
  have b_law_asked := F_law_asked.binds (ps := ["_law_text_here"]) fun _ _ _ _ _ _ us hl => match us, hl with | [_], _ => rfl
  have g_law_asked := PySem.W.mg_of X G a_law_asked
  have F_poly_of := fun_mk (st := topS 40) l_poly_of c_poly_of k_poly_of
  have b_poly_of := F_poly_of.binds (ps := ["numbers"]) fun _ _ _ _ _ _ us hl => match us, hl with | [_], _ => rfl
  have g_poly_of := PySem.W.mg_of X G a_poly_of
  have F_law_spoilt := fun_mk (st := topS 62) l_law_spoilt c_law_spoilt k_law_spoilt
  have b_law_spoilt := F_law_spoilt.binds (ps := ["_law_levels", "_law_downs", "_law_c"]) fun _ _ _ _ _ _ us hl => match us, hl with | [_, _, _], _ => rfl
  have g_law_spoilt := PySem.W.mg_of X G a_law_spoilt
  have F_law := fun_mk (st := topS 63) l_law c_law k_law
  have b_law := F_law.binds (ps := ["_law_script"]) fun _ _ _ _ _ _ us hl => match us, hl with | [_], _ => rfl
  have g_law := PySem.W.mg_of X G a_law
  have m_ValueError := PySem.W.mg_none_of X G z_ValueError
  have m_abs := PySem.W.mg_none_of X G z_abs
  have m_enumerate := PySem.W.mg_none_of X G z_enumerate
  have m_int := PySem.W.mg_none_of X G z_int
  have m_isinstance := PySem.W.mg_none_of X G z_isinstance
  have m_len := PySem.W.mg_none_of X G z_len
  have m_range := PySem.W.mg_none_of X G z_range
  have m_str := PySem.W.mg_none_of X G z_str
  have m_tuple := PySem.W.mg_none_of X G z_tuple
  have xf_NoWeights : Ecl K mg "NoWeights" C_NoWeights := ⟨xq_NoWeights, PySem.W.mg_of X G aC_NoWeights, xk_NoWeights, xb_NoWeights, xt_NoWeights⟩
  have gf_NoText := PySem.W.mg_of X G aC_NoText
  have mf_NoText_NoText : PySem.W.exmOne K (.ref C_NoText) (.ref C_NoText) = some true := exm_by bc_NoText ic_NoText tc_NoText sf_NoText_NoText
  have gf_NoFraction := PySem.W.mg_of X G aC_NoFraction
  have gf_TooMany := PySem.W.mg_of X G aC_TooMany
  have gf_TooFar := PySem.W.mg_of X G aC_TooFar
  have gf_NoNumber := PySem.W.mg_of X G aC_NoNumber
  have gf_NoWeights := PySem.W.mg_of X G aC_NoWeights
  have gf_NoSeries := PySem.W.mg_of X G aC_NoSeries
  have gf_NoMoments := PySem.W.mg_of X G aC_NoMoments
  have gf_NoFamily := PySem.W.mg_of X G aC_NoFamily
  have gf_NoMeeting := PySem.W.mg_of X G aC_NoMeeting
  have gf_NoThing := PySem.W.mg_of X G aC_NoThing
  have gf_NoLine := PySem.W.mg_of X G aC_NoLine
  have gf_NoWay := PySem.W.mg_of X G aC_NoWay
  have gf_TooHigh := PySem.W.mg_of X G aC_TooHigh
  have gf_NoHistory := PySem.W.mg_of X G aC_NoHistory
  have gf_NoCount := PySem.W.mg_of X G aC_NoCount
  have gf_NoName := PySem.W.mg_of X G aC_NoName
  have qf_NoText_VE : PySem.W.kitOne K (.ref C_NoText) (.type "ValueError") = some true := kone_ve sf_NoText_VE
  have qf_NoText_NoFraction : PySem.W.kitOne K (.ref C_NoText) (.ref C_NoFraction) = some false := kone_of sf_NoText_NoText ic_NoFraction tc_NoFraction sf_NoText_NoFraction
  have qf_NoText_TooMany : PySem.W.kitOne K (.ref C_NoText) (.ref C_TooMany) = some false := kone_of sf_NoText_NoText ic_TooMany tc_TooMany sf_NoText_TooMany
  have qf_NoText_TooFar : PySem.W.kitOne K (.ref C_NoText) (.ref C_TooFar) = some false := kone_of sf_NoText_NoText ic_TooFar tc_TooFar sf_NoText_TooFar
  have qf_NoText_NoNumber : PySem.W.kitOne K (.ref C_NoText) (.ref C_NoNumber) = some false := kone_of sf_NoText_NoText ic_NoNumber tc_NoNumber sf_NoText_NoNumber
  have qf_NoText_NoWeights : PySem.W.kitOne K (.ref C_NoText) (.ref C_NoWeights) = some false := kone_of sf_NoText_NoText ic_NoWeights tc_NoWeights sf_NoText_NoWeights
  have qf_NoText_NoSeries : PySem.W.kitOne K (.ref C_NoText) (.ref C_NoSeries) = some false := kone_of sf_NoText_NoText ic_NoSeries tc_NoSeries sf_NoText_NoSeries
  have qf_NoText_NoMoments : PySem.W.kitOne K (.ref C_NoText) (.ref C_NoMoments) = some false := kone_of sf_NoText_NoText ic_NoMoments tc_NoMoments sf_NoText_NoMoments
  have qf_NoText_NoFamily : PySem.W.kitOne K (.ref C_NoText) (.ref C_NoFamily) = some false := kone_of sf_NoText_NoText ic_NoFamily tc_NoFamily sf_NoText_NoFamily
  have qf_NoText_NoMeeting : PySem.W.kitOne K (.ref C_NoText) (.ref C_NoMeeting) = some false := kone_of sf_NoText_NoText ic_NoMeeting tc_NoMeeting sf_NoText_NoMeeting
  have qf_NoText_NoThing : PySem.W.kitOne K (.ref C_NoText) (.ref C_NoThing) = some false := kone_of sf_NoText_NoText ic_NoThing tc_NoThing sf_NoText_NoThing
  have qf_NoText_NoLine : PySem.W.kitOne K (.ref C_NoText) (.ref C_NoLine) = some false := kone_of sf_NoText_NoText ic_NoLine tc_NoLine sf_NoText_NoLine
  have qf_NoText_NoText : PySem.W.kitOne K (.ref C_NoText) (.ref C_NoText) = some true := kone_of sf_NoText_NoText ic_NoText tc_NoText sf_NoText_NoText
  have qf_NoText_NoWay : PySem.W.kitOne K (.ref C_NoText) (.ref C_NoWay) = some false := kone_of sf_NoText_NoText ic_NoWay tc_NoWay sf_NoText_NoWay
  have qf_NoText_TooHigh : PySem.W.kitOne K (.ref C_NoText) (.ref C_TooHigh) = some false := kone_of sf_NoText_NoText ic_TooHigh tc_TooHigh sf_NoText_TooHigh
  have qf_NoText_NoHistory : PySem.W.kitOne K (.ref C_NoText) (.ref C_NoHistory) = some false := kone_of sf_NoText_NoText ic_NoHistory tc_NoHistory sf_NoText_NoHistory
  have qf_NoText_NoCount : PySem.W.kitOne K (.ref C_NoText) (.ref C_NoCount) = some false := kone_of sf_NoText_NoText ic_NoCount tc_NoCount sf_NoText_NoCount
  have qf_NoText_NoName : PySem.W.kitOne K (.ref C_NoText) (.ref C_NoName) = some false := kone_of sf_NoText_NoText ic_NoName tc_NoName sf_NoText_NoName
  have qf_NoWeights_VE : PySem.W.kitOne K (.ref C_NoWeights) (.type "ValueError") = some true := kone_ve sf_NoWeights_VE
  have qf_NoWeights_NoFraction : PySem.W.kitOne K (.ref C_NoWeights) (.ref C_NoFraction) = some false := kone_of sf_NoWeights_NoWeights ic_NoFraction tc_NoFraction sf_NoWeights_NoFraction
  have qf_NoWeights_TooMany : PySem.W.kitOne K (.ref C_NoWeights) (.ref C_TooMany) = some false := kone_of sf_NoWeights_NoWeights ic_TooMany tc_TooMany sf_NoWeights_TooMany
  have qf_NoWeights_TooFar : PySem.W.kitOne K (.ref C_NoWeights) (.ref C_TooFar) = some false := kone_of sf_NoWeights_NoWeights ic_TooFar tc_TooFar sf_NoWeights_TooFar
  have qf_NoWeights_NoNumber : PySem.W.kitOne K (.ref C_NoWeights) (.ref C_NoNumber) = some false := kone_of sf_NoWeights_NoWeights ic_NoNumber tc_NoNumber sf_NoWeights_NoNumber
  have qf_NoWeights_NoWeights : PySem.W.kitOne K (.ref C_NoWeights) (.ref C_NoWeights) = some true := kone_of sf_NoWeights_NoWeights ic_NoWeights tc_NoWeights sf_NoWeights_NoWeights
  have qf_NoWeights_NoSeries : PySem.W.kitOne K (.ref C_NoWeights) (.ref C_NoSeries) = some false := kone_of sf_NoWeights_NoWeights ic_NoSeries tc_NoSeries sf_NoWeights_NoSeries
  have qf_NoWeights_NoMoments : PySem.W.kitOne K (.ref C_NoWeights) (.ref C_NoMoments) = some false := kone_of sf_NoWeights_NoWeights ic_NoMoments tc_NoMoments sf_NoWeights_NoMoments
  have qf_NoWeights_NoFamily : PySem.W.kitOne K (.ref C_NoWeights) (.ref C_NoFamily) = some false := kone_of sf_NoWeights_NoWeights ic_NoFamily tc_NoFamily sf_NoWeights_NoFamily
  have qf_NoWeights_NoMeeting : PySem.W.kitOne K (.ref C_NoWeights) (.ref C_NoMeeting) = some false := kone_of sf_NoWeights_NoWeights ic_NoMeeting tc_NoMeeting sf_NoWeights_NoMeeting
  have qf_NoWeights_NoThing : PySem.W.kitOne K (.ref C_NoWeights) (.ref C_NoThing) = some false := kone_of sf_NoWeights_NoWeights ic_NoThing tc_NoThing sf_NoWeights_NoThing
  have qf_NoWeights_NoLine : PySem.W.kitOne K (.ref C_NoWeights) (.ref C_NoLine) = some false := kone_of sf_NoWeights_NoWeights ic_NoLine tc_NoLine sf_NoWeights_NoLine
  have qf_NoWeights_NoText : PySem.W.kitOne K (.ref C_NoWeights) (.ref C_NoText) = some false := kone_of sf_NoWeights_NoWeights ic_NoText tc_NoText sf_NoWeights_NoText
  have qf_NoWeights_NoWay : PySem.W.kitOne K (.ref C_NoWeights) (.ref C_NoWay) = some false := kone_of sf_NoWeights_NoWeights ic_NoWay tc_NoWay sf_NoWeights_NoWay
  have qf_NoWeights_TooHigh : PySem.W.kitOne K (.ref C_NoWeights) (.ref C_TooHigh) = some false := kone_of sf_NoWeights_NoWeights ic_TooHigh tc_TooHigh sf_NoWeights_TooHigh
  have qf_NoWeights_NoHistory : PySem.W.kitOne K (.ref C_NoWeights) (.ref C_NoHistory) = some false := kone_of sf_NoWeights_NoWeights ic_NoHistory tc_NoHistory sf_NoWeights_NoHistory
  have qf_NoWeights_NoCount : PySem.W.kitOne K (.ref C_NoWeights) (.ref C_NoCount) = some false := kone_of sf_NoWeights_NoWeights ic_NoCount tc_NoCount sf_NoWeights_NoCount
  have qf_NoWeights_NoName : PySem.W.kitOne K (.ref C_NoWeights) (.ref C_NoName) = some false := kone_of sf_NoWeights_NoWeights ic_NoName tc_NoName sf_NoWeights_NoName
  have gf_HeightError := PySem.W.mg_of X G aC_HeightError
  have mf_NoWeights_NoText : PySem.W.exmOne K (.ref C_NoWeights) (.ref C_NoText) = some false := exm_by bc_NoText ic_NoText tc_NoText sf_NoWeights_NoText
  have mf_NoWeights_HeightError : PySem.W.exmOne K (.ref C_NoWeights) (.ref C_HeightError) = some true := exm_by bc_HeightError ic_HeightError tc_HeightError sf_NoWeights_HeightError
  have k_FIGURES : Kst K mg "FIGURES" (.str "0123456789") := x_FIGURES.elim fun tk e => ⟨⟨.str "0123456789", _, e, ⟨_, rfl⟩, fun Hd => .str _⟩⟩
  have k_GREATEST : Kst K mg "GREATEST" (.int 7) := x_GREATEST.elim fun tk e => ⟨⟨.int 7, _, e, ⟨_, rfl⟩, fun Hd => .int _⟩⟩
  have k_LONGEST : Kst K mg "LONGEST" (.int 30) := x_LONGEST.elim fun tk e => ⟨⟨.int 30, _, e, ⟨_, rfl⟩, fun Hd => .int _⟩⟩
  have k_MOST_BOTTOM : Kst K mg "MOST_BOTTOM" (.int 12) := x_MOST_BOTTOM.elim fun tk e => ⟨⟨.int 12, _, e, ⟨_, rfl⟩, fun Hd => .int _⟩⟩
  have k_MOST_TOP : Kst K mg "MOST_TOP" (.int 1000000) := x_MOST_TOP.elim fun tk e => ⟨⟨.int 1000000, _, e, ⟨_, rfl⟩, fun Hd => .int _⟩⟩
  have k_NOUGHT : Kst K mg "NOUGHT" (dFr 0) := ⟨⟨.ref A_NOUGHT, _, PySem.W.mg_of X G x_NOUGHT, rfl, fun Hd => .tup (y_NOUGHT _) (.cons (.int _) (.cons (.int _) .nil))⟩⟩
  refine ⟨PySem.W.fnOf "law" "law" (defArgs (topS 63)) (defBody (topS 63)) (defScope (topS 63)) .none kV_law dc_law pm_law an_law cd_law ct_law, fun s v => .of_eq rfl, fun base _ _ => ?_⟩
  have tHE : HeC K mg "HeightError" C_HeightError := ⟨PySem.W.mg_of X G aC_HeightError, spHE, rdHE, vIHE⟩
  have FI_NoText := fun_mk (st := mthS 13 0) lI_NoText cI_NoText kI_NoText
  have bI_NoText := FI_NoText.binds (ps := ["self", "part"]) fun _ _ _ _ _ _ us hl => match us, hl with | [_, _], _ => rfl
  have xC_NoText : FldC K C_NoText "part" := ⟨⟨xL_NoText, sa_NoText, eC_NoText, tC_NoText, kC_NoText⟩, nb_NoText⟩
  have Ff_NoText : EclF l.prog w K mg base "NoText" C_NoText "part" := ⟨xC_NoText, PySem.W.mg_of X G aC_NoText, _, _, _, iI_NoText, tI_NoText, init_ok FI_NoText ⟨rfl, rfl, rfl, by decide +kernel, rfl, by decide +kernel, by decide +kernel⟩ xC_NoText tHE, bI_NoText⟩
  have h_shared_by : Has l.prog w K mg base "shared_by" 1 (S_shared_by) := ⟨_, _, _, ok_shared_by F_shared_by m_abs    , g_shared_by, F_shared_by.kp, b_shared_by⟩
  have h_written : Has l.prog w K mg base "written" 1 (S_written) := ⟨_, _, _, ok_written F_written m_str    , g_written, F_written.kp, b_written⟩
  have h_whole_read : Has l.prog w K mg base "whole_read" 1 (S_whole_read) := ⟨_, _, _, ok_whole_read F_whole_read m_int m_len k_FIGURES k_LONGEST   , g_whole_read, F_whole_read.kp, b_whole_read⟩
  have h_whole_read_x : Has l.prog w K mg base "whole_read" 3 ((S_whole_read_x C_NoText)) := ⟨_, _, _, ok_whole_read_x F_whole_read m_int m_len k_FIGURES k_LONGEST   Ff_NoText, g_whole_read, F_whole_read.kp, b_whole_read⟩
  have h_top_read : Has l.prog w K mg base "top_read" 2 (S_top_read) := ⟨_, _, _, ok_top_read F_top_read   h_whole_read  , g_top_read, F_top_read.kp, b_top_read⟩
  have h_top_read_x : Has l.prog w K mg base "top_read" 4 ((S_top_read_x C_NoText)) := ⟨_, _, _, ok_top_read_x F_top_read   h_whole_read h_whole_read_x  Ff_NoText, g_top_read, F_top_read.kp, b_top_read⟩
  have h_fraction_read : Has l.prog w K mg base "fraction_read" 3 (S_fraction_read) := ⟨_, _, _, ok_fraction_read F_fraction_read m_isinstance m_len m_str  h_shared_by h_whole_read h_top_read  , g_fraction_read, F_fraction_read.kp, b_fraction_read⟩
  have h_fraction_read_x : Has l.prog w K mg base "fraction_read" 5 ((S_fraction_read_x C_NoText)) := ⟨_, _, _, ok_fraction_read_x F_fraction_read m_isinstance m_len m_str  h_shared_by h_whole_read h_whole_read_x h_top_read h_top_read_x  Ff_NoText, g_fraction_read, F_fraction_read.kp, b_fraction_read⟩
  have h_weights_of : Has l.prog w K mg base "weights_of" 1 (S_weights_of) := ⟨_, _, _, ok_weights_of F_weights_of m_len m_tuple k_GREATEST   , g_weights_of, F_weights_of.kp, b_weights_of⟩
  have h_weights_of_x : Has l.prog w K mg base "weights_of" 1 ((S_weights_of_x C_NoWeights)) := ⟨_, _, _, ok_weights_of_x F_weights_of m_len m_tuple k_GREATEST   xf_NoWeights, g_weights_of, F_weights_of.kp, b_weights_of⟩
  have h_row_text : Has l.prog w K mg base "row_text" 2 (S_row_text) := ⟨_, _, _, ok_row_text F_row_text   h_written  , g_row_text, F_row_text.kp, b_row_text⟩
  have h_weights_text : Has l.prog w K mg base "weights_text" 3 (S_weights_text) := ⟨_, _, _, ok_weights_text F_weights_text m_len  h_row_text  , g_weights_text, F_weights_text.kp, b_weights_text⟩
  have h_poly_text : Has l.prog w K mg base "poly_text" 3 (S_poly_text) := ⟨_, _, _, ok_poly_text F_poly_text   h_row_text  , g_poly_text, F_poly_text.kp, b_poly_text⟩
  have h_small_read : Has l.prog w K mg base "small_read" 6 (S_small_read) := ⟨_, _, _, ok_small_read F_small_read m_abs k_MOST_BOTTOM k_MOST_TOP h_fraction_read h_fraction_read_x  gf_NoText mf_NoText_NoText, g_small_read, F_small_read.kp, b_small_read⟩
  have h_weights_read : Has l.prog w K mg base "weights_read" 7 (S_weights_read) := ⟨_, _, _, ok_weights_read F_weights_read m_enumerate m_len  h_weights_of h_small_read  , g_weights_read, F_weights_read.kp, b_weights_read⟩
  have h_weights_read_w : Has l.prog w K mg base "weights_read" 7 ((S_weights_read_w C_NoWeights)) := ⟨_, _, _, ok_weights_read_w F_weights_read m_enumerate m_len  h_weights_of_x h_small_read  Ff_NoText, g_weights_read, F_weights_read.kp, b_weights_read⟩
  have h_weights_read_x : Has l.prog w K mg base "weights_read" 7 ((S_weights_read_x C_NoText)) := ⟨_, _, _, ok_weights_read_x F_weights_read m_enumerate m_len  h_small_read  Ff_NoText, g_weights_read, F_weights_read.kp, b_weights_read⟩
  have h_law_cell_at : Has l.prog w K mg base "_law_cell_at" 1 (S_law_cell_at) := ⟨_, _, _, ok_law_cell_at F_law_cell_at m_len    , g_law_cell_at, F_law_cell_at.kp, b_law_cell_at⟩
  have h_law_stir : Has l.prog w K mg base "_law_stir" 1 (S_law_stir) := ⟨_, _, _, ok_law_stir F_law_stir     , g_law_stir, F_law_stir.kp, b_law_stir⟩
  have h_law_drawn : Has l.prog w K mg base "_law_drawn" 2 (S_law_drawn) := ⟨_, _, _, ok_law_drawn F_law_drawn m_range  h_law_cell_at h_law_stir  , g_law_drawn, F_law_drawn.kp, b_law_drawn⟩
  have h_law_divisor : Has l.prog w K mg base "_law_divisor" 1 (S_law_divisor) := ⟨_, _, _, ok_law_divisor F_law_divisor m_abs    , g_law_divisor, F_law_divisor.kp, b_law_divisor⟩
  have h_law_low : Has l.prog w K mg base "_law_low" 2 (S_law_low) := ⟨_, _, _, ok_law_low F_law_low   h_law_divisor  , g_law_low, F_law_low.kp, b_law_low⟩
  have h_law_number_by : Has l.prog w K mg base "_law_number_by" 3 (S_law_number_by) := ⟨_, _, _, ok_law_number_by F_law_number_by   h_law_low  , g_law_number_by, F_law_number_by.kp, b_law_number_by⟩
  have h_law_text : Has l.prog w K mg base "_law_text" 1 (S_law_text) := ⟨_, _, _, ok_law_text F_law_text m_str    , g_law_text, F_law_text.kp, b_law_text⟩
  have h_law_row_text : Has l.prog w K mg base "_law_row_text" 2 (S_law_row_text) := ⟨_, _, _, ok_law_row_text F_law_row_text   h_law_text  , g_law_row_text, F_law_row_text.kp, b_law_row_text⟩
  have h_law_row_textT : Has l.prog w K mg base "_law_row_text" 2 (S_law_row_textT) := ⟨_, _, _, ok_law_row_textT F_law_row_text   h_law_text  , g_law_row_text, F_law_row_text.kp, b_law_row_text⟩
  have h_law_weights_text : Has l.prog w K mg base "_law_weights_text" 3 (S_law_weights_text) := ⟨_, _, _, ok_law_weights_text F_law_weights_text m_len  h_law_row_text  , g_law_weights_text, F_law_weights_text.kp, b_law_weights_text⟩
  have h_law_small : Has l.prog w K mg base "_law_small" 3 (S_law_small) := ⟨_, _, _, ok_law_small F_law_small   h_law_low  , g_law_small, F_law_small.kp, b_law_small⟩
  have h_law_figures : Has l.prog w K mg base "_law_figures" 1 (S_law_figures) := ⟨_, _, _, ok_law_figures F_law_figures m_len    , g_law_figures, F_law_figures.kp, b_law_figures⟩
  have h_law_read_by : Has l.prog w K mg base "_law_read_by" 2 (S_law_read_by) := ⟨_, _, _, ok_law_read_by F_law_read_by m_int m_len  h_law_divisor h_law_figures  , g_law_read_by, F_law_read_by.kp, b_law_read_by⟩
  have h_law_marks_NoText : HasP l.prog w K mg base "_law_marks" 1 ((S_law_marks_NoText C_NoText)) := ⟨_, _, _, ok_law_marks_NoText F_law_marks m_ValueError m_isinstance    tf_NoText gf_NoFraction gf_TooMany gf_TooFar gf_NoNumber gf_NoWeights gf_NoSeries gf_NoMoments gf_NoFamily gf_NoMeeting gf_NoThing gf_NoLine gf_NoText gf_NoWay gf_TooHigh gf_NoHistory gf_NoCount gf_NoName qf_NoText_VE qf_NoText_NoFraction qf_NoText_TooMany qf_NoText_TooFar qf_NoText_NoNumber qf_NoText_NoWeights qf_NoText_NoSeries qf_NoText_NoMoments qf_NoText_NoFamily qf_NoText_NoMeeting qf_NoText_NoThing qf_NoText_NoLine qf_NoText_NoText qf_NoText_NoWay qf_NoText_TooHigh qf_NoText_NoHistory qf_NoText_NoCount qf_NoText_NoName, g_law_marks, F_law_marks.kp, b_law_marks⟩
  have h_law_marks_NoWeights : HasP l.prog w K mg base "_law_marks" 1 ((S_law_marks_NoWeights C_NoWeights)) := ⟨_, _, _, ok_law_marks_NoWeights F_law_marks m_ValueError m_isinstance    tf_NoWeights gf_NoFraction gf_TooMany gf_TooFar gf_NoNumber gf_NoWeights gf_NoSeries gf_NoMoments gf_NoFamily gf_NoMeeting gf_NoThing gf_NoLine gf_NoText gf_NoWay gf_TooHigh gf_NoHistory gf_NoCount gf_NoName qf_NoWeights_VE qf_NoWeights_NoFraction qf_NoWeights_TooMany qf_NoWeights_TooFar qf_NoWeights_NoNumber qf_NoWeights_NoWeights qf_NoWeights_NoSeries qf_NoWeights_NoMoments qf_NoWeights_NoFamily qf_NoWeights_NoMeeting qf_NoWeights_NoThing qf_NoWeights_NoLine qf_NoWeights_NoText qf_NoWeights_NoWay qf_NoWeights_TooHigh qf_NoWeights_NoHistory qf_NoWeights_NoCount qf_NoWeights_NoName, g_law_marks, F_law_marks.kp, b_law_marks⟩
  have h_law_only : Has l.prog w K mg base "_law_only" 1 (S_law_only) := ⟨_, _, _, ok_law_only F_law_only m_range    , g_law_only, F_law_only.kp, b_law_only⟩
  have h_law_sign : Has l.prog w K mg base "_law_sign" 1 (S_law_sign) := ⟨_, _, _, ok_law_sign F_law_sign m_len    , g_law_sign, F_law_sign.kp, b_law_sign⟩
  have h_law_changed : Has l.prog w K mg base "_law_changed" 2 (S_law_changed) := ⟨_, _, _, ok_law_changed F_law_changed m_len  h_law_sign  , g_law_changed, F_law_changed.kp, b_law_changed⟩
  have h_law_due_t : Has l.prog w K mg base "_law_due" 3 (S_law_due_t) := ⟨_, _, _, ok_law_due_t F_law_due m_len m_range m_tuple  h_law_read_by  , g_law_due, F_law_due.kp, b_law_due⟩
  have h_law_due_w : Has l.prog w K mg base "_law_due" 3 (S_law_due_w) := ⟨_, _, _, ok_law_due_w F_law_due m_len m_range m_tuple  h_law_read_by h_law_only  , g_law_due, F_law_due.kp, b_law_due⟩
  have h_law_due_n : Has l.prog w K mg base "_law_due" 3 (S_law_due_n) := ⟨_, _, _, ok_law_due_n F_law_due m_len m_range m_tuple  h_law_read_by h_law_only  , g_law_due, F_law_due.kp, b_law_due⟩
  have h_law_asked_t : Has l.prog w K mg base "_law_asked" 8 (S_law_asked_t) := ⟨_, _, _, ok_law_asked_t F_law_asked   h_weights_read  gf_HeightError gf_NoText, g_law_asked, F_law_asked.kp, b_law_asked⟩
  have h_law_asked_n : Has l.prog w K mg base "_law_asked" 8 ((S_law_asked_n C_NoText)) := ⟨_, _, _, ok_law_asked_n F_law_asked   h_weights_read_x h_law_marks_NoText  gf_HeightError gf_NoText mf_NoText_NoText af_NoText nf_NoText, g_law_asked, F_law_asked.kp, b_law_asked⟩
  have h_law_asked_w : Has l.prog w K mg base "_law_asked" 8 ((S_law_asked_w C_NoWeights)) := ⟨_, _, _, ok_law_asked_w F_law_asked   h_weights_read_w h_law_marks_NoWeights  gf_HeightError gf_NoText mf_NoWeights_NoText mf_NoWeights_HeightError, g_law_asked, F_law_asked.kp, b_law_asked⟩
  have h_poly_of : Has l.prog w K mg base "poly_of" 1 (S_poly_of) := ⟨_, _, _, ok_poly_of F_poly_of m_len m_tuple k_NOUGHT   , g_poly_of, F_poly_of.kp, b_poly_of⟩
  have h_poly_ofT : Has l.prog w K mg base "poly_of" 1 (S_poly_ofT) := ⟨_, _, _, ok_poly_ofT F_poly_of m_len m_tuple k_NOUGHT   , g_poly_of, F_poly_of.kp, b_poly_of⟩
  have h_law_spoilt : Has l.prog w K mg base "_law_spoilt" 4 (S_law_spoilt) := ⟨_, _, _, ok_law_spoilt F_law_spoilt m_len  h_law_text h_law_row_text h_law_weights_text h_law_changed  , g_law_spoilt, F_law_spoilt.kp, b_law_spoilt⟩
  exact ok_law F_law m_range m_tuple  h_weights_text h_poly_text h_law_drawn h_law_number_by h_law_row_textT h_law_weights_text h_law_small h_law_due_t h_law_due_w h_law_due_n h_law_asked_t h_law_asked_n h_law_asked_w h_poly_of h_law_spoilt  af_NoText
abbrev hR : PySem.W.OpenRow := PySem.W.OpenLaw.row PySem.Challenge.rw_heightfractions_k42_weights_written
abbrev hq : Program := PySem.W.view hR.prog [63]
def hn0 : List Str := ["HeightError", "NoFraction", "TooMany", "TooFar", "NoNumber", "NoWeights", "NoSeries", "NoMoments", "NoFamily", "NoMeeting", "NoThing", "NoLine", "NoText", "NoWay", "TooHigh", "NoHistory", "NoCount", "NoName", "FIGURES", "LONGEST", "shared_by", "written", "whole_read", "top_read", "fraction_read"]
def hn1 : List Str := ["GREATEST", "weights_of", "MOST_TOP", "MOST_BOTTOM", "row_text", "weights_text", "poly_text", "small_read", "weights_read", "NOUGHT", "poly_of", "_law_cell_at", "_law_stir", "_law_drawn", "_law_whole", "_law_divisor", "_law_low", "_law_is_fraction", "_law_marks", "_law_only", "_law_number_by", "_law_text", "_law_row_text", "_law_weights_text", "_law_small"]
def hn2 : List Str := ["_law_figures", "_law_read_by", "_law_sign", "_law_changed", "_law_due", "_law_asked", "_law_spoilt"]
def hnames : List Str := List.append hn0 (List.append hn1 (hn2))
def hc0 : List Hn.Ck := [
  fun K => decide (PySem.W.nsIn K mainGlobals "shared_by" = some (some (.ref (He.fAd K ("shared_by", none))))),
  fun K => PySem.W.keepIn K (.ref (He.fAd K ("shared_by", none))),
  fun K => decide (PySem.W.nsIn K mainGlobals "written" = some (some (.ref (He.fAd K ("written", none))))),
  fun K => PySem.W.keepIn K (.ref (He.fAd K ("written", none))),
  fun K => decide (PySem.W.nsIn K mainGlobals "whole_read" = some (some (.ref (He.fAd K ("whole_read", none))))),
  fun K => PySem.W.keepIn K (.ref (He.fAd K ("whole_read", none))),
  fun K => decide (PySem.W.nsIn K mainGlobals "top_read" = some (some (.ref (He.fAd K ("top_read", none))))),
  fun K => PySem.W.keepIn K (.ref (He.fAd K ("top_read", none))),
  fun K => decide (PySem.W.nsIn K mainGlobals "fraction_read" = some (some (.ref (He.fAd K ("fraction_read", none))))),
  fun K => PySem.W.keepIn K (.ref (He.fAd K ("fraction_read", none))),
  fun K => decide (PySem.W.nsIn K mainGlobals "weights_of" = some (some (.ref (He.fAd K ("weights_of", none))))),
  fun K => PySem.W.keepIn K (.ref (He.fAd K ("weights_of", none))),
  fun K => decide (PySem.W.nsIn K mainGlobals "row_text" = some (some (.ref (He.fAd K ("row_text", none))))),
  fun K => PySem.W.keepIn K (.ref (He.fAd K ("row_text", none))),
  fun K => decide (PySem.W.nsIn K mainGlobals "weights_text" = some (some (.ref (He.fAd K ("weights_text", none))))),
  fun K => PySem.W.keepIn K (.ref (He.fAd K ("weights_text", none))),
  fun K => decide (PySem.W.nsIn K mainGlobals "poly_text" = some (some (.ref (He.fAd K ("poly_text", none))))),
  fun K => PySem.W.keepIn K (.ref (He.fAd K ("poly_text", none))),
  fun K => decide (PySem.W.nsIn K mainGlobals "small_read" = some (some (.ref (He.fAd K ("small_read", none))))),
  fun K => PySem.W.keepIn K (.ref (He.fAd K ("small_read", none))),
  fun K => decide (PySem.W.nsIn K mainGlobals "weights_read" = some (some (.ref (He.fAd K ("weights_read", none))))),
  fun K => PySem.W.keepIn K (.ref (He.fAd K ("weights_read", none))),
  fun K => decide (PySem.W.nsIn K mainGlobals "_law_cell_at" = some (some (.ref (He.fAd K ("_law_cell_at", none))))),
  fun K => PySem.W.keepIn K (.ref (He.fAd K ("_law_cell_at", none))),
  fun K => decide (PySem.W.nsIn K mainGlobals "_law_stir" = some (some (.ref (He.fAd K ("_law_stir", none)))))]
def hc1 : List Hn.Ck := [
  fun K => PySem.W.keepIn K (.ref (He.fAd K ("_law_stir", none))),
  fun K => decide (PySem.W.nsIn K mainGlobals "_law_drawn" = some (some (.ref (He.fAd K ("_law_drawn", none))))),
  fun K => PySem.W.keepIn K (.ref (He.fAd K ("_law_drawn", none))),
  fun K => decide (PySem.W.nsIn K mainGlobals "_law_divisor" = some (some (.ref (He.fAd K ("_law_divisor", none))))),
  fun K => PySem.W.keepIn K (.ref (He.fAd K ("_law_divisor", none))),
  fun K => decide (PySem.W.nsIn K mainGlobals "_law_low" = some (some (.ref (He.fAd K ("_law_low", none))))),
  fun K => PySem.W.keepIn K (.ref (He.fAd K ("_law_low", none))),
  fun K => decide (PySem.W.nsIn K mainGlobals "_law_number_by" = some (some (.ref (He.fAd K ("_law_number_by", none))))),
  fun K => PySem.W.keepIn K (.ref (He.fAd K ("_law_number_by", none))),
  fun K => decide (PySem.W.nsIn K mainGlobals "_law_text" = some (some (.ref (He.fAd K ("_law_text", none))))),
  fun K => PySem.W.keepIn K (.ref (He.fAd K ("_law_text", none))),
  fun K => decide (PySem.W.nsIn K mainGlobals "_law_row_text" = some (some (.ref (He.fAd K ("_law_row_text", none))))),
  fun K => PySem.W.keepIn K (.ref (He.fAd K ("_law_row_text", none))),
  fun K => decide (PySem.W.nsIn K mainGlobals "_law_weights_text" = some (some (.ref (He.fAd K ("_law_weights_text", none))))),
  fun K => PySem.W.keepIn K (.ref (He.fAd K ("_law_weights_text", none))),
  fun K => decide (PySem.W.nsIn K mainGlobals "_law_small" = some (some (.ref (He.fAd K ("_law_small", none))))),
  fun K => PySem.W.keepIn K (.ref (He.fAd K ("_law_small", none))),
  fun K => decide (PySem.W.nsIn K mainGlobals "_law_figures" = some (some (.ref (He.fAd K ("_law_figures", none))))),
  fun K => PySem.W.keepIn K (.ref (He.fAd K ("_law_figures", none))),
  fun K => decide (PySem.W.nsIn K mainGlobals "_law_read_by" = some (some (.ref (He.fAd K ("_law_read_by", none))))),
  fun K => PySem.W.keepIn K (.ref (He.fAd K ("_law_read_by", none))),
  fun K => decide (PySem.W.nsIn K mainGlobals "_law_marks" = some (some (.ref (He.fAd K ("_law_marks", none))))),
  fun K => PySem.W.keepIn K (.ref (He.fAd K ("_law_marks", none))),
  fun K => decide (PySem.W.nsIn K mainGlobals "_law_only" = some (some (.ref (He.fAd K ("_law_only", none))))),
  fun K => PySem.W.keepIn K (.ref (He.fAd K ("_law_only", none)))]
def hc2 : List Hn.Ck := [
  fun K => decide (PySem.W.nsIn K mainGlobals "_law_sign" = some (some (.ref (He.fAd K ("_law_sign", none))))),
  fun K => PySem.W.keepIn K (.ref (He.fAd K ("_law_sign", none))),
  fun K => decide (PySem.W.nsIn K mainGlobals "_law_changed" = some (some (.ref (He.fAd K ("_law_changed", none))))),
  fun K => PySem.W.keepIn K (.ref (He.fAd K ("_law_changed", none))),
  fun K => decide (PySem.W.nsIn K mainGlobals "_law_due" = some (some (.ref (He.fAd K ("_law_due", none))))),
  fun K => PySem.W.keepIn K (.ref (He.fAd K ("_law_due", none))),
  fun K => decide (PySem.W.nsIn K mainGlobals "_law_asked" = some (some (.ref (He.fAd K ("_law_asked", none))))),
  fun K => PySem.W.keepIn K (.ref (He.fAd K ("_law_asked", none))),
  fun K => decide (PySem.W.nsIn K mainGlobals "poly_of" = some (some (.ref (He.fAd K ("poly_of", none))))),
  fun K => PySem.W.keepIn K (.ref (He.fAd K ("poly_of", none))),
  fun K => decide (PySem.W.nsIn K mainGlobals "_law_spoilt" = some (some (.ref (He.fAd K ("_law_spoilt", none))))),
  fun K => PySem.W.keepIn K (.ref (He.fAd K ("_law_spoilt", none))),
  fun K => decide (PySem.W.nsIn K mainGlobals "law" = some (some (.ref (He.fAd K ("law", none))))),
  fun K => PySem.W.keepIn K (.ref (He.fAd K ("law", none))),
  fun K => decide (PySem.W.nsIn K mainGlobals "ValueError" = some none),
  fun K => decide (PySem.W.nsIn K mainGlobals "abs" = some none),
  fun K => decide (PySem.W.nsIn K mainGlobals "enumerate" = some none),
  fun K => decide (PySem.W.nsIn K mainGlobals "int" = some none),
  fun K => decide (PySem.W.nsIn K mainGlobals "isinstance" = some none),
  fun K => decide (PySem.W.nsIn K mainGlobals "len" = some none),
  fun K => decide (PySem.W.nsIn K mainGlobals "range" = some none),
  fun K => decide (PySem.W.nsIn K mainGlobals "str" = some none),
  fun K => decide (PySem.W.nsIn K mainGlobals "tuple" = some none),
  fun K => decide (PySem.W.nsIn K mainGlobals "HeightError" = some (some (.ref (He.ga K "HeightError")))),
  fun K => decide (PySem.W.nsIn K mainGlobals "NoCount" = some (some (.ref (He.ga K "NoCount"))))]
def hc3 : List Hn.Ck := [
  fun K => decide (PySem.W.nsIn K mainGlobals "NoFamily" = some (some (.ref (He.ga K "NoFamily")))),
  fun K => decide (PySem.W.nsIn K mainGlobals "NoFraction" = some (some (.ref (He.ga K "NoFraction")))),
  fun K => decide (PySem.W.nsIn K mainGlobals "NoHistory" = some (some (.ref (He.ga K "NoHistory")))),
  fun K => decide (PySem.W.nsIn K mainGlobals "NoLine" = some (some (.ref (He.ga K "NoLine")))),
  fun K => decide (PySem.W.nsIn K mainGlobals "NoMeeting" = some (some (.ref (He.ga K "NoMeeting")))),
  fun K => decide (PySem.W.nsIn K mainGlobals "NoMoments" = some (some (.ref (He.ga K "NoMoments")))),
  fun K => decide (PySem.W.nsIn K mainGlobals "NoName" = some (some (.ref (He.ga K "NoName")))),
  fun K => decide (PySem.W.nsIn K mainGlobals "NoNumber" = some (some (.ref (He.ga K "NoNumber")))),
  fun K => decide (PySem.W.nsIn K mainGlobals "NoSeries" = some (some (.ref (He.ga K "NoSeries")))),
  fun K => decide (PySem.W.nsIn K mainGlobals "NoText" = some (some (.ref (He.ga K "NoText")))),
  fun K => decide (PySem.W.nsIn K mainGlobals "NoThing" = some (some (.ref (He.ga K "NoThing")))),
  fun K => decide (PySem.W.nsIn K mainGlobals "NoWay" = some (some (.ref (He.ga K "NoWay")))),
  fun K => decide (PySem.W.nsIn K mainGlobals "NoWeights" = some (some (.ref (He.ga K "NoWeights")))),
  fun K => decide (PySem.W.nsIn K mainGlobals "TooFar" = some (some (.ref (He.ga K "TooFar")))),
  fun K => decide (PySem.W.nsIn K mainGlobals "TooHigh" = some (some (.ref (He.ga K "TooHigh")))),
  fun K => decide (PySem.W.nsIn K mainGlobals "TooMany" = some (some (.ref (He.ga K "TooMany")))),
  fun K => decide (PySem.W.specialIn K (.ref (He.ga K "HeightError")) "__getattribute__" = some (some (.builtin "type.__getattribute__"))),
  fun K => PySem.W.readsIn K (He.ga K "HeightError") (.type "type"),
  fun K => Hn.viB K (He.ga K "HeightError"),
  fun K => Hn.exoB K (He.ga K "NoText"),
  fun K => decide (PySem.W.findIn K (.ref (He.ga K "NoText")) "__setattr__" = some (some (.builtin "object.__setattr__"))),
  fun K => decide (PySem.W.subIn K (.ref (He.ga K "NoText")) (.type "BaseException") = some true),
  fun K => decide (PySem.W.typeIn K (.ref (He.ga K "NoText")) = some (.type "type")),
  fun K => PySem.W.keepIn K (.ref (He.ga K "NoText")),
  fun K => decide (PySem.W.findIn K (.ref (He.ga K "NoText")) "part" = some none)]
def hc4 : List Hn.Ck := [
  fun K => decide (PySem.W.findIn K (.ref (He.ga K "NoText")) "__init__" = some (some (.ref (He.fAd K ("NoText", some "__init__"))))),
  fun K => decide (PySem.W.typeIn K (.ref (He.fAd K ("NoText", some "__init__"))) = some (.type "function")),
  fun K => PySem.W.keepIn K (.ref (He.fAd K ("NoText", some "__init__"))),
  fun K => Hn.exnB K (He.ga K "NoWeights"),
  fun K => PySem.W.keepIn K (.ref (He.ga K "NoWeights")),
  fun K => decide (PySem.W.subIn K (.ref (He.ga K "NoWeights")) (.type "BaseException") = some true),
  fun K => decide (PySem.W.typeIn K (.ref (He.ga K "NoWeights")) = some (.type "type")),
  fun K => Hn.excB K (He.ga K "NoText"),
  fun K => Hn.excB K (He.ga K "NoWeights"),
  fun K => L2.xfB K (He.ga K "NoText"),
  fun K => decide (PySem.W.findIn K (.ref (He.ga K "NoText")) "part" = some none),
  fun K => decide (PySem.W.subIn K (.ref (He.ga K "HeightError")) (.type "BaseException") = some true),
  fun K => decide (PySem.W.subIn K (.ref (He.ga K "NoText")) (.type "BaseException") = some true),
  fun K => PySem.W.isClsIn K (He.ga K "HeightError"),
  fun K => PySem.W.isClsIn K (He.ga K "NoCount"),
  fun K => PySem.W.isClsIn K (He.ga K "NoFamily"),
  fun K => PySem.W.isClsIn K (He.ga K "NoFraction"),
  fun K => PySem.W.isClsIn K (He.ga K "NoHistory"),
  fun K => PySem.W.isClsIn K (He.ga K "NoLine"),
  fun K => PySem.W.isClsIn K (He.ga K "NoMeeting"),
  fun K => PySem.W.isClsIn K (He.ga K "NoMoments"),
  fun K => PySem.W.isClsIn K (He.ga K "NoName"),
  fun K => PySem.W.isClsIn K (He.ga K "NoNumber"),
  fun K => PySem.W.isClsIn K (He.ga K "NoSeries"),
  fun K => PySem.W.isClsIn K (He.ga K "NoText")]
def hc5 : List Hn.Ck := [
  fun K => PySem.W.isClsIn K (He.ga K "NoThing"),
  fun K => PySem.W.isClsIn K (He.ga K "NoWay"),
  fun K => PySem.W.isClsIn K (He.ga K "NoWeights"),
  fun K => PySem.W.isClsIn K (He.ga K "TooFar"),
  fun K => PySem.W.isClsIn K (He.ga K "TooHigh"),
  fun K => PySem.W.isClsIn K (He.ga K "TooMany"),
  fun K => decide (PySem.W.subIn K (.ref (He.ga K "NoText")) (.ref (He.ga K "NoCount")) = some false),
  fun K => decide (PySem.W.subIn K (.ref (He.ga K "NoText")) (.ref (He.ga K "NoFamily")) = some false),
  fun K => decide (PySem.W.subIn K (.ref (He.ga K "NoText")) (.ref (He.ga K "NoFraction")) = some false),
  fun K => decide (PySem.W.subIn K (.ref (He.ga K "NoText")) (.ref (He.ga K "NoHistory")) = some false),
  fun K => decide (PySem.W.subIn K (.ref (He.ga K "NoText")) (.ref (He.ga K "NoLine")) = some false),
  fun K => decide (PySem.W.subIn K (.ref (He.ga K "NoText")) (.ref (He.ga K "NoMeeting")) = some false),
  fun K => decide (PySem.W.subIn K (.ref (He.ga K "NoText")) (.ref (He.ga K "NoMoments")) = some false),
  fun K => decide (PySem.W.subIn K (.ref (He.ga K "NoText")) (.ref (He.ga K "NoName")) = some false),
  fun K => decide (PySem.W.subIn K (.ref (He.ga K "NoText")) (.ref (He.ga K "NoNumber")) = some false),
  fun K => decide (PySem.W.subIn K (.ref (He.ga K "NoText")) (.ref (He.ga K "NoSeries")) = some false),
  fun K => decide (PySem.W.subIn K (.ref (He.ga K "NoText")) (.ref (He.ga K "NoText")) = some true),
  fun K => decide (PySem.W.subIn K (.ref (He.ga K "NoText")) (.ref (He.ga K "NoThing")) = some false),
  fun K => decide (PySem.W.subIn K (.ref (He.ga K "NoText")) (.ref (He.ga K "NoWay")) = some false),
  fun K => decide (PySem.W.subIn K (.ref (He.ga K "NoText")) (.ref (He.ga K "NoWeights")) = some false),
  fun K => decide (PySem.W.subIn K (.ref (He.ga K "NoText")) (.ref (He.ga K "TooFar")) = some false),
  fun K => decide (PySem.W.subIn K (.ref (He.ga K "NoText")) (.ref (He.ga K "TooHigh")) = some false),
  fun K => decide (PySem.W.subIn K (.ref (He.ga K "NoText")) (.ref (He.ga K "TooMany")) = some false),
  fun K => decide (PySem.W.subIn K (.ref (He.ga K "NoText")) (.type "ValueError") = some true),
  fun K => decide (PySem.W.subIn K (.ref (He.ga K "NoWeights")) (.ref (He.ga K "HeightError")) = some true)]
def hc6 : List Hn.Ck := [
  fun K => decide (PySem.W.subIn K (.ref (He.ga K "NoWeights")) (.ref (He.ga K "NoCount")) = some false),
  fun K => decide (PySem.W.subIn K (.ref (He.ga K "NoWeights")) (.ref (He.ga K "NoFamily")) = some false),
  fun K => decide (PySem.W.subIn K (.ref (He.ga K "NoWeights")) (.ref (He.ga K "NoFraction")) = some false),
  fun K => decide (PySem.W.subIn K (.ref (He.ga K "NoWeights")) (.ref (He.ga K "NoHistory")) = some false),
  fun K => decide (PySem.W.subIn K (.ref (He.ga K "NoWeights")) (.ref (He.ga K "NoLine")) = some false),
  fun K => decide (PySem.W.subIn K (.ref (He.ga K "NoWeights")) (.ref (He.ga K "NoMeeting")) = some false),
  fun K => decide (PySem.W.subIn K (.ref (He.ga K "NoWeights")) (.ref (He.ga K "NoMoments")) = some false),
  fun K => decide (PySem.W.subIn K (.ref (He.ga K "NoWeights")) (.ref (He.ga K "NoName")) = some false),
  fun K => decide (PySem.W.subIn K (.ref (He.ga K "NoWeights")) (.ref (He.ga K "NoNumber")) = some false),
  fun K => decide (PySem.W.subIn K (.ref (He.ga K "NoWeights")) (.ref (He.ga K "NoSeries")) = some false),
  fun K => decide (PySem.W.subIn K (.ref (He.ga K "NoWeights")) (.ref (He.ga K "NoText")) = some false),
  fun K => decide (PySem.W.subIn K (.ref (He.ga K "NoWeights")) (.ref (He.ga K "NoThing")) = some false),
  fun K => decide (PySem.W.subIn K (.ref (He.ga K "NoWeights")) (.ref (He.ga K "NoWay")) = some false),
  fun K => decide (PySem.W.subIn K (.ref (He.ga K "NoWeights")) (.ref (He.ga K "NoWeights")) = some true),
  fun K => decide (PySem.W.subIn K (.ref (He.ga K "NoWeights")) (.ref (He.ga K "TooFar")) = some false),
  fun K => decide (PySem.W.subIn K (.ref (He.ga K "NoWeights")) (.ref (He.ga K "TooHigh")) = some false),
  fun K => decide (PySem.W.subIn K (.ref (He.ga K "NoWeights")) (.ref (He.ga K "TooMany")) = some false),
  fun K => decide (PySem.W.subIn K (.ref (He.ga K "NoWeights")) (.type "ValueError") = some true),
  fun K => decide (PySem.W.typeIn K (.ref (He.ga K "HeightError")) = some (.type "type")),
  fun K => decide (PySem.W.typeIn K (.ref (He.ga K "NoCount")) = some (.type "type")),
  fun K => decide (PySem.W.typeIn K (.ref (He.ga K "NoFamily")) = some (.type "type")),
  fun K => decide (PySem.W.typeIn K (.ref (He.ga K "NoFraction")) = some (.type "type")),
  fun K => decide (PySem.W.typeIn K (.ref (He.ga K "NoHistory")) = some (.type "type")),
  fun K => decide (PySem.W.typeIn K (.ref (He.ga K "NoLine")) = some (.type "type")),
  fun K => decide (PySem.W.typeIn K (.ref (He.ga K "NoMeeting")) = some (.type "type"))]
def hc7 : List Hn.Ck := [
  fun K => decide (PySem.W.typeIn K (.ref (He.ga K "NoMoments")) = some (.type "type")),
  fun K => decide (PySem.W.typeIn K (.ref (He.ga K "NoName")) = some (.type "type")),
  fun K => decide (PySem.W.typeIn K (.ref (He.ga K "NoNumber")) = some (.type "type")),
  fun K => decide (PySem.W.typeIn K (.ref (He.ga K "NoSeries")) = some (.type "type")),
  fun K => decide (PySem.W.typeIn K (.ref (He.ga K "NoText")) = some (.type "type")),
  fun K => decide (PySem.W.typeIn K (.ref (He.ga K "NoThing")) = some (.type "type")),
  fun K => decide (PySem.W.typeIn K (.ref (He.ga K "NoWay")) = some (.type "type")),
  fun K => decide (PySem.W.typeIn K (.ref (He.ga K "NoWeights")) = some (.type "type")),
  fun K => decide (PySem.W.typeIn K (.ref (He.ga K "TooFar")) = some (.type "type")),
  fun K => decide (PySem.W.typeIn K (.ref (He.ga K "TooHigh")) = some (.type "type")),
  fun K => decide (PySem.W.typeIn K (.ref (He.ga K "TooMany")) = some (.type "type")),
  fun K => (He.Fa.str "FIGURES" "0123456789").ok K,
  fun K => (He.Fa.int "GREATEST" 7).ok K,
  fun K => (He.Fa.int "LONGEST" 30).ok K,
  fun K => (He.Fa.int "MOST_BOTTOM" 12).ok K,
  fun K => (He.Fa.int "MOST_TOP" 1000000).ok K,
  fun K => decide (PySem.W.nsIn K mainGlobals "NOUGHT" = some (some (.ref (He.ga K "NOUGHT")))),
  fun K => He.tupB K "NOUGHT" [.int 0, .int 1]]
def hcs : List (List Hn.Ck) := [hc0, hc1, hc2, hc3, hc4, hc5, hc6, hc7]
def hfn : List He.FnD := [
  ⟨("shared_by", none), "shared_by", "shared_by", (defArgs (topS 22)), (defBody (topS 22)), (defScope (topS 22))⟩,
  ⟨("written", none), "written", "written", (defArgs (topS 23)), (defBody (topS 23)), (defScope (topS 23))⟩,
  ⟨("whole_read", none), "whole_read", "whole_read", (defArgs (topS 24)), (defBody (topS 24)), (defScope (topS 24))⟩,
  ⟨("top_read", none), "top_read", "top_read", (defArgs (topS 25)), (defBody (topS 25)), (defScope (topS 25))⟩,
  ⟨("fraction_read", none), "fraction_read", "fraction_read", (defArgs (topS 26)), (defBody (topS 26)), (defScope (topS 26))⟩,
  ⟨("weights_of", none), "weights_of", "weights_of", (defArgs (topS 29)), (defBody (topS 29)), (defScope (topS 29))⟩,
  ⟨("row_text", none), "row_text", "row_text", (defArgs (topS 33)), (defBody (topS 33)), (defScope (topS 33))⟩,
  ⟨("weights_text", none), "weights_text", "weights_text", (defArgs (topS 34)), (defBody (topS 34)), (defScope (topS 34))⟩,
  ⟨("poly_text", none), "poly_text", "poly_text", (defArgs (topS 35)), (defBody (topS 35)), (defScope (topS 35))⟩,
  ⟨("small_read", none), "small_read", "small_read", (defArgs (topS 36)), (defBody (topS 36)), (defScope (topS 36))⟩,
  ⟨("weights_read", none), "weights_read", "weights_read", (defArgs (topS 37)), (defBody (topS 37)), (defScope (topS 37))⟩,
  ⟨("_law_cell_at", none), "_law_cell_at", "_law_cell_at", (defArgs (topS 42)), (defBody (topS 42)), (defScope (topS 42))⟩,
  ⟨("_law_stir", none), "_law_stir", "_law_stir", (defArgs (topS 43)), (defBody (topS 43)), (defScope (topS 43))⟩,
  ⟨("_law_drawn", none), "_law_drawn", "_law_drawn", (defArgs (topS 44)), (defBody (topS 44)), (defScope (topS 44))⟩,
  ⟨("_law_divisor", none), "_law_divisor", "_law_divisor", (defArgs (topS 46)), (defBody (topS 46)), (defScope (topS 46))⟩,
  ⟨("_law_low", none), "_law_low", "_law_low", (defArgs (topS 47)), (defBody (topS 47)), (defScope (topS 47))⟩,
  ⟨("_law_number_by", none), "_law_number_by", "_law_number_by", (defArgs (topS 51)), (defBody (topS 51)), (defScope (topS 51))⟩,
  ⟨("_law_text", none), "_law_text", "_law_text", (defArgs (topS 52)), (defBody (topS 52)), (defScope (topS 52))⟩,
  ⟨("_law_row_text", none), "_law_row_text", "_law_row_text", (defArgs (topS 53)), (defBody (topS 53)), (defScope (topS 53))⟩,
  ⟨("_law_weights_text", none), "_law_weights_text", "_law_weights_text", (defArgs (topS 54)), (defBody (topS 54)), (defScope (topS 54))⟩,
  ⟨("_law_small", none), "_law_small", "_law_small", (defArgs (topS 55)), (defBody (topS 55)), (defScope (topS 55))⟩,
  ⟨("_law_figures", none), "_law_figures", "_law_figures", (defArgs (topS 56)), (defBody (topS 56)), (defScope (topS 56))⟩,
  ⟨("_law_read_by", none), "_law_read_by", "_law_read_by", (defArgs (topS 57)), (defBody (topS 57)), (defScope (topS 57))⟩,
  ⟨("_law_marks", none), "_law_marks", "_law_marks", (defArgs (topS 49)), (defBody (topS 49)), (defScope (topS 49))⟩,
  ⟨("_law_only", none), "_law_only", "_law_only", (defArgs (topS 50)), (defBody (topS 50)), (defScope (topS 50))⟩,
  ⟨("_law_sign", none), "_law_sign", "_law_sign", (defArgs (topS 58)), (defBody (topS 58)), (defScope (topS 58))⟩,
  ⟨("_law_changed", none), "_law_changed", "_law_changed", (defArgs (topS 59)), (defBody (topS 59)), (defScope (topS 59))⟩,
  ⟨("_law_due", none), "_law_due", "_law_due", (defArgs (topS 60)), (defBody (topS 60)), (defScope (topS 60))⟩,
  ⟨("_law_asked", none), "_law_asked", "_law_asked", (defArgs (topS 61)), (defBody (topS 61)), (defScope (topS 61))⟩,
  ⟨("poly_of", none), "poly_of", "poly_of", (defArgs (topS 40)), (defBody (topS 40)), (defScope (topS 40))⟩,
  ⟨("_law_spoilt", none), "_law_spoilt", "_law_spoilt", (defArgs (topS 62)), (defBody (topS 62)), (defScope (topS 62))⟩,
  ⟨("law", none), "law", "law", (defArgs (topS 63)), (defBody (topS 63)), (defScope (topS 63))⟩,
  ⟨("NoText", some "__init__"), "__init__", "NoText.__init__", (defArgs (mthS 13 0)), (defBody (mthS 13 0)), (defScope (mthS 13 0))⟩]
def hfw : List He.DefD := []
abbrev hk : PySem.W.Hook := Hn.hookK 4 hcs hfn hfw
def hob (s : PySem.W.SharedT) : Hn.Al := Hn.obsKG 4 hcs hfn hfw (HandSHeadRun.getT s)
theorem hob_eq (s : PySem.W.SharedT) : hob s = hk.obs s.abs := Hn.obsKG_eq (HandSHeadRun.getT_eq s)
theorem hrun (w : World) : HandSHeadRun.RunEq hR hq hk hob 20000 hnames w := by
  intro os
  kernel_rfl
theorem hfacts {w : World} {mg : Str → Option Value} {fa : Addr} {h : Heap} (Y : hk.says w h) (G : h.Ns mainGlobals mg) (hmg : mg "law" = some (.ref fa)) :
    ∃ K : PySem.W.Frag, K.In h ∧ ∃ fd : FuncData, (∀ (s : Shared) (v : Value), BindsTo s fd ⟨[v], []⟩ [("_law_script", v)]) ∧ ∀ base : Heap, K.In base → base.Ns mainGlobals mg → FnOk (PySem.Challenge.rw_heightfractions_k42_weights_written).prog w K mg base (L2N.CX (PySem.Challenge.rw_heightfractions_k42_weights_written).prog w) 9 fa fd ["_law_script"] (spF K S_law) := by
    obtain ⟨K, KX, c⟩ := Y
    have c : Hn.SaysK hcs hfn hfw K := c
    obtain ⟨_, _, _, _, _, _, _, _, _, l_shared_by, c_shared_by⟩ := c.fn_ 0 rfl
    obtain ⟨_, _, _, _, _, _, _, _, _, l_written, c_written⟩ := c.fn_ 1 rfl
    obtain ⟨_, _, _, _, _, _, _, _, _, l_whole_read, c_whole_read⟩ := c.fn_ 2 rfl
    obtain ⟨_, _, _, _, _, _, _, _, _, l_top_read, c_top_read⟩ := c.fn_ 3 rfl
    obtain ⟨_, _, _, _, _, _, _, _, _, l_fraction_read, c_fraction_read⟩ := c.fn_ 4 rfl
    obtain ⟨_, _, _, _, _, _, _, _, _, l_weights_of, c_weights_of⟩ := c.fn_ 5 rfl
    obtain ⟨_, _, _, _, _, _, _, _, _, l_row_text, c_row_text⟩ := c.fn_ 6 rfl
    obtain ⟨_, _, _, _, _, _, _, _, _, l_weights_text, c_weights_text⟩ := c.fn_ 7 rfl
    obtain ⟨_, _, _, _, _, _, _, _, _, l_poly_text, c_poly_text⟩ := c.fn_ 8 rfl
    obtain ⟨_, _, _, _, _, _, _, _, _, l_small_read, c_small_read⟩ := c.fn_ 9 rfl
    obtain ⟨_, _, _, _, _, _, _, _, _, l_weights_read, c_weights_read⟩ := c.fn_ 10 rfl
    obtain ⟨_, _, _, _, _, _, _, _, _, l_law_cell_at, c_law_cell_at⟩ := c.fn_ 11 rfl
    obtain ⟨_, _, _, _, _, _, _, _, _, l_law_stir, c_law_stir⟩ := c.fn_ 12 rfl
    obtain ⟨_, _, _, _, _, _, _, _, _, l_law_drawn, c_law_drawn⟩ := c.fn_ 13 rfl
    obtain ⟨_, _, _, _, _, _, _, _, _, l_law_divisor, c_law_divisor⟩ := c.fn_ 14 rfl
    obtain ⟨_, _, _, _, _, _, _, _, _, l_law_low, c_law_low⟩ := c.fn_ 15 rfl
    obtain ⟨_, _, _, _, _, _, _, _, _, l_law_number_by, c_law_number_by⟩ := c.fn_ 16 rfl
    obtain ⟨_, _, _, _, _, _, _, _, _, l_law_text, c_law_text⟩ := c.fn_ 17 rfl
    obtain ⟨_, _, _, _, _, _, _, _, _, l_law_row_text, c_law_row_text⟩ := c.fn_ 18 rfl
    obtain ⟨_, _, _, _, _, _, _, _, _, l_law_weights_text, c_law_weights_text⟩ := c.fn_ 19 rfl
    obtain ⟨_, _, _, _, _, _, _, _, _, l_law_small, c_law_small⟩ := c.fn_ 20 rfl
    obtain ⟨_, _, _, _, _, _, _, _, _, l_law_figures, c_law_figures⟩ := c.fn_ 21 rfl
    obtain ⟨_, _, _, _, _, _, _, _, _, l_law_read_by, c_law_read_by⟩ := c.fn_ 22 rfl
    obtain ⟨_, _, _, _, _, _, _, _, _, l_law_marks, c_law_marks⟩ := c.fn_ 23 rfl
    obtain ⟨_, _, _, _, _, _, _, _, _, l_law_only, c_law_only⟩ := c.fn_ 24 rfl
    obtain ⟨_, _, _, _, _, _, _, _, _, l_law_sign, c_law_sign⟩ := c.fn_ 25 rfl
    obtain ⟨_, _, _, _, _, _, _, _, _, l_law_changed, c_law_changed⟩ := c.fn_ 26 rfl
    obtain ⟨_, _, _, _, _, _, _, _, _, l_law_due, c_law_due⟩ := c.fn_ 27 rfl
    obtain ⟨_, _, _, _, _, _, _, _, _, l_law_asked, c_law_asked⟩ := c.fn_ 28 rfl
    obtain ⟨_, _, _, _, _, _, _, _, _, l_poly_of, c_poly_of⟩ := c.fn_ 29 rfl
    obtain ⟨_, _, _, _, _, _, _, _, _, l_law_spoilt, c_law_spoilt⟩ := c.fn_ 30 rfl
    obtain ⟨_, _, _, _, _, _, _, _, _, l_law, c_law⟩ := c.fn_ 31 rfl
    obtain ⟨_, _, _, _, _, _, _, _, _, lI_NoText, cI_NoText⟩ := c.fn_ 32 rfl
    exact ⟨K, KX, all_mk (l := PySem.Challenge.rw_heightfractions_k42_weights_written) KX G hmg
      (of_decide_eq_true (c.fact 0 0))
      l_shared_by
      c_shared_by
      ((c.fact 0 1))
      (of_decide_eq_true (c.fact 0 2))
      l_written
      c_written
      ((c.fact 0 3))
      (of_decide_eq_true (c.fact 0 4))
      l_whole_read
      c_whole_read
      ((c.fact 0 5))
      (of_decide_eq_true (c.fact 0 6))
      l_top_read
      c_top_read
      ((c.fact 0 7))
      (of_decide_eq_true (c.fact 0 8))
      l_fraction_read
      c_fraction_read
      ((c.fact 0 9))
      (of_decide_eq_true (c.fact 0 10))
      l_weights_of
      c_weights_of
      ((c.fact 0 11))
      (of_decide_eq_true (c.fact 0 12))
      l_row_text
      c_row_text
      ((c.fact 0 13))
      (of_decide_eq_true (c.fact 0 14))
      l_weights_text
      c_weights_text
      ((c.fact 0 15))
      (of_decide_eq_true (c.fact 0 16))
      l_poly_text
      c_poly_text
      ((c.fact 0 17))
      (of_decide_eq_true (c.fact 0 18))
      l_small_read
      c_small_read
      ((c.fact 0 19))
      (of_decide_eq_true (c.fact 0 20))
      l_weights_read
      c_weights_read
      ((c.fact 0 21))
      (of_decide_eq_true (c.fact 0 22))
      l_law_cell_at
      c_law_cell_at
      ((c.fact 0 23))
      (of_decide_eq_true (c.fact 0 24))
      l_law_stir
      c_law_stir
      ((c.fact 1 0))
      (of_decide_eq_true (c.fact 1 1))
      l_law_drawn
      c_law_drawn
      ((c.fact 1 2))
      (of_decide_eq_true (c.fact 1 3))
      l_law_divisor
      c_law_divisor
      ((c.fact 1 4))
      (of_decide_eq_true (c.fact 1 5))
      l_law_low
      c_law_low
      ((c.fact 1 6))
      (of_decide_eq_true (c.fact 1 7))
      l_law_number_by
      c_law_number_by
      ((c.fact 1 8))
      (of_decide_eq_true (c.fact 1 9))
      l_law_text
      c_law_text
      ((c.fact 1 10))
      (of_decide_eq_true (c.fact 1 11))
      l_law_row_text
      c_law_row_text
      ((c.fact 1 12))
      (of_decide_eq_true (c.fact 1 13))
      l_law_weights_text
      c_law_weights_text
      ((c.fact 1 14))
      (of_decide_eq_true (c.fact 1 15))
      l_law_small
      c_law_small
      ((c.fact 1 16))
      (of_decide_eq_true (c.fact 1 17))
      l_law_figures
      c_law_figures
      ((c.fact 1 18))
      (of_decide_eq_true (c.fact 1 19))
      l_law_read_by
      c_law_read_by
      ((c.fact 1 20))
      (of_decide_eq_true (c.fact 1 21))
      l_law_marks
      c_law_marks
      ((c.fact 1 22))
      (of_decide_eq_true (c.fact 1 23))
      l_law_only
      c_law_only
      ((c.fact 1 24))
      (of_decide_eq_true (c.fact 2 0))
      l_law_sign
      c_law_sign
      ((c.fact 2 1))
      (of_decide_eq_true (c.fact 2 2))
      l_law_changed
      c_law_changed
      ((c.fact 2 3))
      (of_decide_eq_true (c.fact 2 4))
      l_law_due
      c_law_due
      ((c.fact 2 5))
      (of_decide_eq_true (c.fact 2 6))
      l_law_asked
      c_law_asked
      ((c.fact 2 7))
      (of_decide_eq_true (c.fact 2 8))
      l_poly_of
      c_poly_of
      ((c.fact 2 9))
      (of_decide_eq_true (c.fact 2 10))
      l_law_spoilt
      c_law_spoilt
      ((c.fact 2 11))
      (of_decide_eq_true (c.fact 2 12))
      l_law
      c_law
      ((c.fact 2 13))
      (of_decide_eq_true (c.fact 2 14))
      (of_decide_eq_true (c.fact 2 15))
      (of_decide_eq_true (c.fact 2 16))
      (of_decide_eq_true (c.fact 2 17))
      (of_decide_eq_true (c.fact 2 18))
      (of_decide_eq_true (c.fact 2 19))
      (of_decide_eq_true (c.fact 2 20))
      (of_decide_eq_true (c.fact 2 21))
      (of_decide_eq_true (c.fact 2 22))
      (of_decide_eq_true (c.fact 2 23))
      (of_decide_eq_true (c.fact 2 24))
      (of_decide_eq_true (c.fact 3 0))
      (of_decide_eq_true (c.fact 3 1))
      (of_decide_eq_true (c.fact 3 2))
      (of_decide_eq_true (c.fact 3 3))
      (of_decide_eq_true (c.fact 3 4))
      (of_decide_eq_true (c.fact 3 5))
      (of_decide_eq_true (c.fact 3 6))
      (of_decide_eq_true (c.fact 3 7))
      (of_decide_eq_true (c.fact 3 8))
      (of_decide_eq_true (c.fact 3 9))
      (of_decide_eq_true (c.fact 3 10))
      (of_decide_eq_true (c.fact 3 11))
      (of_decide_eq_true (c.fact 3 12))
      (of_decide_eq_true (c.fact 3 13))
      (of_decide_eq_true (c.fact 3 14))
      (of_decide_eq_true (c.fact 3 15))
      (of_decide_eq_true (c.fact 3 16))
      ((c.fact 3 17))
      (Hn.viB_ok (c.fact 3 18))
      (Hn.exoB_ok (c.fact 3 19))
      (of_decide_eq_true (c.fact 3 20))
      (of_decide_eq_true (c.fact 3 21))
      (of_decide_eq_true (c.fact 3 22))
      ((c.fact 3 23))
      (of_decide_eq_true (c.fact 3 24))
      (of_decide_eq_true (c.fact 4 0))
      (of_decide_eq_true (c.fact 4 1))
      lI_NoText
      cI_NoText
      ((c.fact 4 2))
      (Hn.exnB_ok (c.fact 4 3))
      ((c.fact 4 4))
      (of_decide_eq_true (c.fact 4 5))
      (of_decide_eq_true (c.fact 4 6))
      (Hn.excB_ok (c.fact 4 7))
      (Hn.excB_ok (c.fact 4 8))
      (L2.xfB_ok (c.fact 4 9))
      (of_decide_eq_true (c.fact 4 10))
      (of_decide_eq_true (c.fact 4 11))
      (of_decide_eq_true (c.fact 4 12))
      ((c.fact 4 13))
      ((c.fact 4 14))
      ((c.fact 4 15))
      ((c.fact 4 16))
      ((c.fact 4 17))
      ((c.fact 4 18))
      ((c.fact 4 19))
      ((c.fact 4 20))
      ((c.fact 4 21))
      ((c.fact 4 22))
      ((c.fact 4 23))
      ((c.fact 4 24))
      ((c.fact 5 0))
      ((c.fact 5 1))
      ((c.fact 5 2))
      ((c.fact 5 3))
      ((c.fact 5 4))
      ((c.fact 5 5))
      (of_decide_eq_true (c.fact 5 6))
      (of_decide_eq_true (c.fact 5 7))
      (of_decide_eq_true (c.fact 5 8))
      (of_decide_eq_true (c.fact 5 9))
      (of_decide_eq_true (c.fact 5 10))
      (of_decide_eq_true (c.fact 5 11))
      (of_decide_eq_true (c.fact 5 12))
      (of_decide_eq_true (c.fact 5 13))
      (of_decide_eq_true (c.fact 5 14))
      (of_decide_eq_true (c.fact 5 15))
      (of_decide_eq_true (c.fact 5 16))
      (of_decide_eq_true (c.fact 5 17))
      (of_decide_eq_true (c.fact 5 18))
      (of_decide_eq_true (c.fact 5 19))
      (of_decide_eq_true (c.fact 5 20))
      (of_decide_eq_true (c.fact 5 21))
      (of_decide_eq_true (c.fact 5 22))
      (of_decide_eq_true (c.fact 5 23))
      (of_decide_eq_true (c.fact 5 24))
      (of_decide_eq_true (c.fact 6 0))
      (of_decide_eq_true (c.fact 6 1))
      (of_decide_eq_true (c.fact 6 2))
      (of_decide_eq_true (c.fact 6 3))
      (of_decide_eq_true (c.fact 6 4))
      (of_decide_eq_true (c.fact 6 5))
      (of_decide_eq_true (c.fact 6 6))
      (of_decide_eq_true (c.fact 6 7))
      (of_decide_eq_true (c.fact 6 8))
      (of_decide_eq_true (c.fact 6 9))
      (of_decide_eq_true (c.fact 6 10))
      (of_decide_eq_true (c.fact 6 11))
      (of_decide_eq_true (c.fact 6 12))
      (of_decide_eq_true (c.fact 6 13))
      (of_decide_eq_true (c.fact 6 14))
      (of_decide_eq_true (c.fact 6 15))
      (of_decide_eq_true (c.fact 6 16))
      (of_decide_eq_true (c.fact 6 17))
      (of_decide_eq_true (c.fact 6 18))
      (of_decide_eq_true (c.fact 6 19))
      (of_decide_eq_true (c.fact 6 20))
      (of_decide_eq_true (c.fact 6 21))
      (of_decide_eq_true (c.fact 6 22))
      (of_decide_eq_true (c.fact 6 23))
      (of_decide_eq_true (c.fact 6 24))
      (of_decide_eq_true (c.fact 7 0))
      (of_decide_eq_true (c.fact 7 1))
      (of_decide_eq_true (c.fact 7 2))
      (of_decide_eq_true (c.fact 7 3))
      (of_decide_eq_true (c.fact 7 4))
      (of_decide_eq_true (c.fact 7 5))
      (of_decide_eq_true (c.fact 7 6))
      (of_decide_eq_true (c.fact 7 7))
      (of_decide_eq_true (c.fact 7 8))
      (of_decide_eq_true (c.fact 7 9))
      (of_decide_eq_true (c.fact 7 10))
      (He.str_ok KX G (c.fact 7 11))
      (He.int_ok KX G (c.fact 7 12))
      (He.int_ok KX G (c.fact 7 13))
      (He.int_ok KX G (c.fact 7 14))
      (He.int_ok KX G (c.fact 7 15))
      (of_decide_eq_true (c.fact 7 16))
      (fun H => He.tupB_ok (c.fact 7 17) H)⟩
end Tk
open PySem PySem.W PyProof.Rows
set_option maxHeartbeats 0 in
theorem PySem.Challenge.cw_heightfractions_k42_weights_written_holds : PySem.Challenge.rw_heightfractions_k42_weights_written.Holds := by
  w_on; o_law
  refine HandSHeadRun.head_any (r := Tk.hR) (q := Tk.hq) (H := Tk.hk) (ob := Tk.hob) (M := 20000) (loose := Tk.hnames) (d := HandSHeadRun.topDef Tk.hR.prog 63) (kwd := []) Tk.hob_eq
    (by kernel_rfl) (fun s => by kernel_rfl) Tk.hrun (by kernel_rfl) (by kernel_rfl) (by kernel_rfl) (by rfl) (by first | assumption | decide +kernel) (by decide +kernel) ⟨rfl, rfl, rfl, rfl, rfl, by decide +kernel⟩ ?hw ?hc
  case hw => w_witness2
  case hc =>
    refine Hn.walk_ofX (l := PySem.Challenge.rw_heightfractions_k42_weights_written) (n := 63) (k := 9) (x := "_law_script") (CX := fun w => L2N.CX (PySem.Challenge.rw_heightfractions_k42_weights_written).prog w) rfl (by decide) (by kernel_rfl) ⟨rfl, by decide, by decide⟩ ?F (fun _ _ _ _ _ h => by obtain ⟨_, _, _, _, _, _, _, _, _, _, _, _, z⟩ := h; exact z)
    intro w mg fa h Y G hmg0
    have hmg : mg ("law" : Str) = some (.ref fa) := by
      have e : (HandSHeadRun.topDef Tk.hR.prog 63).name = ("law" : Str) := by kernel_rfl
      rw [← e]
      exact hmg0
    obtain ⟨K, KX, fd, hb, hF⟩ := Tk.hfacts Y G hmg
    exact ⟨K, fd, Hf.spF K Tk.S_law, KX, hb, fun H a ns hl _ hS => ⟨H, [.list (ns.map PyData.int)], .ok (.val (.bool true)), Evl.Ex.refl _, .cons (.lst hS (Hf.IsAll.ints ns)) .nil, ⟨ns, rfl, hl, rfl⟩, fun v H2 ⟨Hd, s, i⟩ => by cases i; rfl⟩, hF⟩
