import PyProof.Rows.All
import Wide.All
import OpenK.AllK
import Wide.FinOn
import HandS.ForMost
import HandS.ForExc
import HandS.Deep
import KE.KDictKeyed
import HandS.TupAny
import HandS.TupLe
import HandS.IsInst
import HandS.Style
import HandS.More
import HandS.HeadHook3
import KE.KDictDisplayH
import HandS.Iter
import HandS.TupLen
import KE.KExcIs
import KE.KDictCopyH
import HandS.SetFor
import KE.KDictZip
import HandS.Strs
import KE.SortData
import KE.KDictSum
import HandS.RaiseMore
import HandS.Replace
import HandS.Conv
import KE.KDictPairs
import KE.KEqDict
import HandS.TupSets
import PySem.Challenge.RW_heatclicks_k22_whole_shifted
set_option Elab.async false
set_option linter.all false
set_option maxRecDepth 100000
set_option maxHeartbeats 1000000
set_option autoImplicit false
namespace HC
open PySem PySem.Spec PyProof.Rows L2
inductive D where
  | none
  | bool (b : Bool)
  | int (i : Int)
  | str (s : Str)
  | list (xs : List D)
  | tuple (xs : List D)
  | dict (kvs : List (NestedKey × D))
  | tdict (kvs : List (NestedKey × D))
  | exc (c : Addr)
  | kdict (kvs : List (NestedKey × D))
  | iobj (c : Addr) (fns : List Str) (ds : List D) (ons : List Str) (as : List Addr)
  | held (a : Addr) (d : D)
mutual
def keyD : NestedKey → D
  | .none => .none
  | .num i => .int i
  | .text x => .str x
  | .tup ks => .tuple (keysD ks)
def keysD : List NestedKey → List D
  | [] => []
  | k :: ks => keyD k :: keysD ks
end
mutual
def D.key : D → Option NestedKey
  | .none => some .none
  | .bool b => some (.num (if b = true then 1 else 0))
  | .int i => some (.num i)
  | .str x => some (.text x)
  | .tuple xs => (D.keys xs).map .tup
  | .list _ => Option.none
  | .dict _ => Option.none
  | .tdict _ => Option.none
  | .exc _ => Option.none
  | .kdict _ => Option.none
  | .iobj _ _ _ _ _ => Option.none
  | .held _ _ => Option.none
def D.keys : List D → Option (List NestedKey)
  | [] => some []
  | x :: xs => match D.key x, D.keys xs with
    | some k, some ks => some (k :: ks)
    | _, _ => Option.none
end
mutual
def D.py : D → PyData
  | .none => .none
  | .bool b => .bool b
  | .int i => .int i
  | .str x => .str x
  | .list xs => .list (D.pys xs)
  | .tuple xs => .tuple (D.pys xs)
  | .dict _ => .dict []
  | .tdict _ => .dict []
  | .exc _ => .dict []
  | .kdict _ => .dict []
  | .iobj _ _ _ _ _ => .dict []
  | .held _ _ => .dict []
def D.pys : List D → List PyData
  | [] => []
  | x :: xs => D.py x :: D.pys xs
end
mutual
def D.plain : D → Bool
  | .none => true
  | .bool _ => true
  | .int _ => true
  | .str _ => true
  | .list xs => D.plains xs
  | .tuple xs => D.plains xs
  | .dict _ => false
  | .tdict _ => false
  | .exc _ => false
  | .kdict _ => false
  | .iobj _ _ _ _ _ => false
  | .held _ _ => false
def D.plains : List D → Bool
  | [] => true
  | x :: xs => D.plain x && D.plains xs
end
def kN : Key → NestedKey
  | .inl i => .num i
  | .inr x => .text x
def KTup (K : PySem.W.Frag) (a : Addr) (xs : List V) : Prop :=
  ∃ (o : Obj) (its : Array Value) (n : Nat), K.lookup a = some o ∧ o.cls = .type "tuple" ∧ o.data = .seq its n ∧ its.size ≤ sizeLine ∧ Vals xs its.toList
def dnO (a : Addr) (o : Obj) : HO := .ext fun h => h.get? a = some o
def DEnt (P : Program) (w : World) (a : Addr) (o : Obj) (xs : List (NestedKey × Addr × Value)) : Prop :=
  xs.length ≤ sizeLine ∧ (a == sysModules) = false ∧ o.ExactDict ∧ ∃ es ep, o.data = .dict es ep ∧ es.toList = xs.map (entryOfKey (nestedKind P w)) ∧ (xs.map (·.1)).Nodup ∧ ∀ x ∈ xs, x.1.depth ≤ 8
def xcO (a c : Addr) : HO := .ext fun h => ∃ o vs, h.get? a = some o ∧ Zc (.ref c) Option.none o ∧ o.data = .fields vs
mutual
inductive Rp (K : PySem.W.Frag) (P : Program) (w : World) (M : Addr → Prop) (H : Hp) : V → D → Prop
  | non : Rp K P w M H .non .none
  | bl (b : Bool) : Rp K P w M H (.bl b) (.bool b)
  | int (i : Int) : Rp K P w M H (.int i) (.int i)
  | str (x : Str) : Rp K P w M H (.str x) (.str x)
  | lst {a : Addr} {xs : List V} {ds : List D} : ¬ M a → H a = some (.lst xs) → RpA K P w M H xs ds → Rp K P w M H (.ref a) (.list ds)
  | tup {a : Addr} {xs : List V} {ds : List D} : ¬ M a → H a = some (.tup xs) → RpA K P w M H xs ds → Rp K P w M H (.ref a) (.tuple ds)
  | ktup {a : Addr} {xs : List V} {ds : List D} : KTup K a xs → RpA K P w M H xs ds → Rp K P w M H (.ref a) (.tuple ds)
  | dctK {a : Addr} {kvs : List (Key × V)} {ds : List (NestedKey × D)} : ¬ M a → Rd H a (.dK kvs) → RpK K P w M H kvs ds → Rp K P w M H (.ref a) (.dict ds)
  | dctN {a : Addr} {o : Obj} {xs : List (NestedKey × Addr × Value)} {ds : List (NestedKey × D)} : ¬ M a → H a = some (dnO a o) → DEnt P w a o xs → RpN K P w M H xs ds → Rp K P w M H (.ref a) (.tdict ds)
  | exc {a c : Addr} : ¬ M a → H a = some (xcO a c) → Rp K P w M H (.ref a) (.exc c)
  | dctL {a : Addr} {o : Obj} {kvs : List (Key × V)} {ds : List (NestedKey × D)} : ¬ M a → H a = some (.frz o (.dK kvs)) → RpK K P w M H kvs ds → Rp K P w M H (.ref a) (.kdict ds)
  | iob {e c dx : Addr} {fns ons : List Str} {vs : List V} {ds : List D} {as : List Addr} : ¬ M e → H e = some (.ins c dx (fns.zip vs ++ ons.zip (as.map V.ref))) → vs.length = fns.length → as.length = ons.length → RpA K P w M H vs ds → Rp K P w M H (.ref e) (.iobj c fns ds ons as)
  | hld {a : Addr} {d : D} : Rp K P w M H (.ref a) d → Rp K P w M H (.ref a) (.held a d)
inductive RpA (K : PySem.W.Frag) (P : Program) (w : World) (M : Addr → Prop) (H : Hp) : List V → List D → Prop
  | nil : RpA K P w M H [] []
  | cons {v : V} {vs : List V} {d : D} {ds : List D} : Rp K P w M H v d → RpA K P w M H vs ds → RpA K P w M H (v :: vs) (d :: ds)
inductive RpK (K : PySem.W.Frag) (P : Program) (w : World) (M : Addr → Prop) (H : Hp) : List (Key × V) → List (NestedKey × D) → Prop
  | nil : RpK K P w M H [] []
  | cons {k : Key} {v : V} {vs : List (Key × V)} {d : D} {ds : List (NestedKey × D)} : Rp K P w M H v d → RpK K P w M H vs ds → RpK K P w M H ((k, v) :: vs) ((kN k, d) :: ds)
inductive RpN (K : PySem.W.Frag) (P : Program) (w : World) (M : Addr → Prop) (H : Hp) : List (NestedKey × Addr × Value) → List (NestedKey × D) → Prop
  | nil : RpN K P w M H [] []
  | cons {k : NestedKey} {a : Addr} {v : V} {u : Value} {vs : List (NestedKey × Addr × Value)} {d : D} {ds : List (NestedKey × D)} : Rp K P w M H (.ref a) (keyD k) → RelV v u → Rp K P w M H v d → RpN K P w M H vs ds → RpN K P w M H ((k, a, u) :: vs) ((k, d) :: ds)
end
inductive Top (K : PySem.W.Frag) (P : Program) (w : World) (M : Addr → Prop) (H : Hp) (a : Addr) : D → Prop
  | lst {xs : List V} {ds : List D} : H a = some (.lst xs) → RpA K P w M H xs ds → Top K P w M H a (.list ds)
  | dctK {kvs : List (Key × V)} {ds : List (NestedKey × D)} : H a = some (.dK kvs) → RpK K P w M H kvs ds → Top K P w M H a (.dict ds)
  | dctN {o : Obj} {xs : List (NestedKey × Addr × Value)} {ds : List (NestedKey × D)} : H a = some (dnO a o) → DEnt P w a o xs → RpN K P w M H xs ds → Top K P w M H a (.tdict ds)
  | hld {d : D} : Top K P w M H a d → Top K P w M H a (.held a d)
section
variable {K : PySem.W.Frag} {P : Program} {w : World} {M M' : Addr → Prop} {H H' : Hp}
def Stp (M : Addr → Prop) (H : Hp) (M' : Addr → Prop) (H' : Hp) : Prop := ∀ a o, H a = some o → ¬ M a → H' a = some o ∧ ¬ M' a
mutual
theorem Rp.step (k : Stp M H M' H') : ∀ {v : V} {d : D}, Rp K P w M H v d → Rp K P w M' H' v d
  | _, _, .non => .non
  | _, _, .bl b => .bl b
  | _, _, .int i => .int i
  | _, _, .str x => .str x
  | _, _, .lst m h r => .lst (k _ _ h m).2 (k _ _ h m).1 (RpA.step k r)
  | _, _, .tup m h r => .tup (k _ _ h m).2 (k _ _ h m).1 (RpA.step k r)
  | _, _, .ktup h r => .ktup h (RpA.step k r)
  | _, _, .dctK m (.inl h) r => .dctK (k _ _ h m).2 (.inl (k _ _ h m).1) (RpK.step k r)
  | _, _, .dctK m (.inr ⟨o, h⟩) r => .dctK (k _ _ h m).2 (.inr ⟨o, (k _ _ h m).1⟩) (RpK.step k r)
  | _, _, .dctN m h e r => .dctN (k _ _ h m).2 (k _ _ h m).1 e (RpN.step k r)
  | _, _, .exc m h => .exc (k _ _ h m).2 (k _ _ h m).1
  | _, _, .dctL m h r => .dctL (k _ _ h m).2 (k _ _ h m).1 (RpK.step k r)
  | _, _, .iob m h l1 l2 r => .iob (k _ _ h m).2 (k _ _ h m).1 l1 l2 (RpA.step k r)
  | _, _, .hld r => .hld (Rp.step k r)
theorem RpA.step (k : Stp M H M' H') : ∀ {v : List V} {d : List D}, RpA K P w M H v d → RpA K P w M' H' v d
  | _, _, .nil => .nil
  | _, _, .cons a b => .cons (Rp.step k a) (RpA.step k b)
theorem RpK.step (k : Stp M H M' H') : ∀ {v : List (Key × V)} {d : List (NestedKey × D)}, RpK K P w M H v d → RpK K P w M' H' v d
  | _, _, .nil => .nil
  | _, _, .cons a b => .cons (Rp.step k a) (RpK.step k b)
theorem RpN.step (k : Stp M H M' H') : ∀ {v : List (NestedKey × Addr × Value)} {d : List (NestedKey × D)}, RpN K P w M H v d → RpN K P w M' H' v d
  | _, _, .nil => .nil
  | _, _, .cons a r b c => .cons (Rp.step k a) r (Rp.step k b) (RpN.step k c)
end
theorem Stp.refl : Stp M H M H := fun _ _ h m => ⟨h, m⟩
theorem Stp.trans {M2 : Addr → Prop} {H2 : Hp} (a : Stp M H M' H') (b : Stp M' H' M2 H2) : Stp M H M2 H2 := fun c o h m => b c o (a c o h m).1 (a c o h m).2
theorem Stp.less (h : ∀ a, M' a → M a) : Stp M H M' H := fun a o e m => ⟨e, fun x => m (h a x)⟩
theorem Rp.less {v : V} {d : D} (h : ∀ a, M' a → M a) (r : Rp K P w M H v d) : Rp K P w M' H v d := r.step (Stp.less h)
theorem Stp.grow (h : Same H H') : Stp M H M H' := fun a o e m => ⟨h a o e, m⟩
theorem Top.step {a : Addr} {d : D} (k : Stp M H M' H') (e : ∀ o, H a = some o → H' a = some o) : Top K P w M H a d → Top K P w M' H' a d
  | .lst h r => .lst (e _ h) (r.step k)
  | .dctK h r => .dctK (e _ h) (r.step k)
  | .dctN h x r => .dctN (e _ h) x (r.step k)
  | .hld r => .hld (r.step k e)
theorem Top.some' {a : Addr} {d : D} : Top K P w M H a d → H a ≠ Option.none
  | .lst e _ => by rw [e]; simp
  | .dctK e _ => by rw [e]; simp
  | .dctN e _ _ => by rw [e]; simp
  | .hld r => r.some'
theorem Top.rp {a : Addr} {d : D} (m : ¬ M a) : Top K P w M H a d → Rp K P w M H (.ref a) d
  | .lst h r => .lst m h r
  | .dctK h r => .dctK m (.inl h) r
  | .dctN h x r => .dctN m h x r
  | .hld r => .hld (r.rp m)
end
structure DrawsOk (H : Hp) (g n : Addr) : Prop where
  ok : ∃ (k : Int) (xs : List Int), H g = some (.lst [.ref n, .int k]) ∧ H n = some (.lst (xs.map V.int)) ∧ 0 < xs.length ∧ xs.length ≤ 63 ∧ 0 ≤ k
structure Obj0 where
  is : Addr → D → Prop
  reg : Addr → Prop
  ok : (Addr → Prop) → Hp → Prop
  st : ∀ {M M' : Addr → Prop} {H H' : Hp}, Stp M H M' H' → (∀ a, reg a → H' a = H a) → ok M H → ok M' H'
  dm : ∀ {M : Addr → Prop} {H : Hp} {a : Addr}, ok M H → reg a → H a ≠ none
inductive Tk where
  | dr (g n : Addr)
  | ob (o : Obj0)
structure Ct where
  K : PySem.W.Frag
  P : Program
  w : World
  T : Option Tk
  M0 : Addr → Prop
  H0 : Hp
def Ct.inT (C : Ct) (a : Addr) : Prop := match C.T with
  | none => False
  | some (.dr g n) => a = g ∨ a = n
  | some (.ob o) => o.reg a
def Ct.tok (C : Ct) (M : Addr → Prop) (H : Hp) : Prop := match C.T with
  | none => True
  | some (.dr g n) => DrawsOk H g n
  | some (.ob o) => o.ok M H
theorem tok_step {C : Ct} {M M' : Addr → Prop} {H H' : Hp} (st : Stp M H M' H') (e : ∀ a, C.inT a → H' a = H a) (t : C.tok M H) : C.tok M' H' := by
  unfold Ct.tok at t ⊢
  unfold Ct.inT at e
  cases hT : C.T with
  | none => trivial
  | some p =>
    rw [hT] at t e
    cases p with
    | dr g n =>
      obtain ⟨k, xs, e1, e2, e3⟩ := t.ok
      exact ⟨k, xs, by rw [e g (.inl rfl)]; exact e1, by rw [e n (.inr rfl)]; exact e2, e3⟩
    | ob o => exact o.st st e t
def Ct.NoOb (C : Ct) : Prop := ∀ o, C.T ≠ some (.ob o)
theorem tok_any {C : Ct} {M M' : Addr → Prop} {H : Hp} (nob : C.NoOb) (t : C.tok M H) : C.tok M' H := by
  unfold Ct.tok at t ⊢
  cases hT : C.T with
  | none => trivial
  | some p =>
    rw [hT] at t
    cases p with
    | dr g n => exact t
    | ob o => exact absurd hT (nob o)
theorem tok_dom {C : Ct} {M : Addr → Prop} {H : Hp} {a : Addr} (t : C.tok M H) (ht : C.inT a) : H a ≠ none := by
  unfold Ct.inT at ht
  unfold Ct.tok at t
  cases hT : C.T with
  | none => rw [hT] at ht; exact ht.elim
  | some p =>
    rw [hT] at ht t
    cases p with
    | dr g n =>
      obtain ⟨kk, xs, e1, e2, _⟩ := t.ok
      rcases ht with rfl | rfl
      · rw [e1]; simp
      · rw [e2]; simp
    | ob o => exact o.dm t ht
def Ct.Ex (C : Ct) (H H' : Hp) : Prop := ∀ a o, ¬ C.inT a → H a = some o → H' a = some o
theorem Ct.Ex.refl {C : Ct} {H : Hp} : C.Ex H H := fun _ _ _ h => h
theorem Ct.Ex.trans {C : Ct} {H H1 H2 : Hp} (a : C.Ex H H1) (b : C.Ex H1 H2) : C.Ex H H2 := fun c o n h => b c o n (a c o n h)
theorem Same.ex {C : Ct} {H H' : Hp} (h : Same H H') : C.Ex H H' := fun a o _ e => h a o e
structure Base (C : Ct) (M : Addr → Prop) (H : Hp) : Prop where
  keep : C.Ex C.H0 H
  tok : C.tok M H
theorem Base.to {C : Ct} {M M' : Addr → Prop} {H : Hp} (b : Base C M H) (st : Stp M H M' H) : Base C M' H := ⟨b.keep, tok_step st (fun _ _ => rfl) b.tok⟩
abbrev Ct.Rp (C : Ct) (M : Addr → Prop) (H : Hp) (v : V) (d : D) : Prop := HC.Rp C.K C.P C.w M H v d
abbrev Ct.RpA (C : Ct) (M : Addr → Prop) (H : Hp) (v : List V) (d : List D) : Prop := HC.RpA C.K C.P C.w M H v d
abbrev Ct.Top (C : Ct) (M : Addr → Prop) (H : Hp) (a : Addr) (d : D) : Prop := HC.Top C.K C.P C.w M H a d
def Ct.Rq (C : Ct) (M : Addr → Prop) (H : Hp) (v : V) (d : D) : Prop := C.Rp M H v d ∨ ∃ a, v = .ref a ∧ ¬ C.inT a ∧ C.Top M H a d
theorem Rp.q {C : Ct} {M : Addr → Prop} {H : Hp} {v : V} {d : D} (h : C.Rp M H v d) : C.Rq M H v d := .inl h
inductive Sl where
  | un
  | val (d : D)
  | own (d : D)
  | tok
  | obj (d : D)
abbrev Env := List Sl
def TkAt (C : Ct) : Sl → Option (Option V) → Prop
  | .tok, v => ∃ g n, C.T = some (.dr g n) ∧ v = some (some (.ref g))
  | .obj d, v => ∃ o e, C.T = some (.ob o) ∧ v = some (some (.ref e)) ∧ o.is e d
  | _, _ => True
structure Sim (C : Ct) (M : Addr → Prop) (r : Env) (σ : L2.St) (H : Hp) : Prop where
  len : σ.length = r.length
  val : ∀ (i : Nat) (d : D), r[i]? = some (.val d) → ∃ v, σ[i]? = some (some v) ∧ C.Rp M H v d
  own : ∀ (i : Nat) (d : D), r[i]? = some (.own d) → ∃ a, σ[i]? = some (some (.ref a)) ∧ M a ∧ C.H0 a = none ∧ ¬ C.M0 a ∧ C.Top M H a d
  sep : ∀ (i j : Nat) (d e : D) (a : Addr), r[i]? = some (.own d) → r[j]? = some (.own e) → σ[i]? = some (some (.ref a)) → σ[j]? = some (some (.ref a)) → i = j
  tk : ∀ {x : Sl} (i : Nat), r[i]? = some x → TkAt C x (σ[i]?)
  base : Base C M H
  m0 : ∀ a, C.M0 a → M a
  dom : ∀ a, M a → H a ≠ none
  inm : ∀ a, C.inT a → C.M0 a
section
variable {C : Ct} {M M' : Addr → Prop} {r : Env} {σ : L2.St} {H H' : Hp}
theorem Sim.tm (S : Sim C M r σ H) {a : Addr} (h : C.inT a) : M a := S.m0 a (S.inm a h)
theorem Sim.stp (S : Sim C M r σ H) (k : C.Ex H H') : Stp M H M H' := fun a o e m => ⟨k a o (fun t => m (S.tm t)) e, m⟩
theorem Sim.grow (S : Sim C M r σ H) (k : C.Ex H H') (t : C.tok M H') : Sim C M r σ H' where
  len := S.len
  val := fun i d e => let ⟨v, h1, h2⟩ := S.val i d e; ⟨v, h1, h2.step (S.stp k)⟩
  own := fun i d e => by
    obtain ⟨a, h1, h2, h3, h4, h5⟩ := S.own i d e
    exact ⟨a, h1, h2, h3, h4, h5.step (S.stp k) fun o q => k a o (fun t => h4 (S.inm a t)) q⟩
  sep := S.sep
  tk := S.tk
  base := ⟨S.base.keep.trans k, t⟩
  m0 := S.m0
  dom := fun a m z => by
    by_cases ht : C.inT a
    · exact tok_dom t ht z
    · cases q : H a with
      | none => exact S.dom a m q
      | some o => rw [k a o ht q] at z; cases z
  inm := S.inm
theorem Sim.reg (S : Sim C M r σ H) (k : Same H H') : ∀ a, C.inT a → H' a = H a := fun a ht => by
  cases q : H a with
  | none => exact absurd q (tok_dom S.base.tok ht)
  | some o => exact k a o q
theorem Sim.same (S : Sim C M r σ H) (k : Same H H') : Sim C M r σ H' := S.grow (Same.ex k) (tok_step (Stp.grow k) (S.reg k) S.base.tok)
theorem Sim.rq (S : Sim C M r σ H) (k : C.Ex H H') {v : V} {d : D} (h : C.Rq M H v d) : C.Rq M H' v d := by
  rcases h with h | ⟨a, e, n, h⟩
  · exact .inl (h.step (S.stp k))
  · exact .inr ⟨a, e, n, h.step (S.stp k) fun o q => k a o n q⟩
theorem Sim.rp (S : Sim C M r σ H) (k : C.Ex H H') {v : V} {d : D} (h : C.Rp M H v d) : C.Rp M H' v d := h.step (S.stp k)
theorem Sim.fresh (S : Sim C M r σ H) {p : Addr} (h : H p = none) : ¬ M p := fun m => S.dom p m h
end
theorem same_upd {H : Hp} {p : Addr} {o : HO} (h : H p = none) : Same H (upd H p o) := fun b x e => by
  rw [upd_ne (ne_of_none e h)]
  exact e
abbrev TP := Env → (D → Prop) → (Addr → Prop) → Prop
abbrev XW := L2.St → XK
structure Mono (t : TP) : Prop where
  imp : ∀ {r : Env} {Q Q' : D → Prop} {E E' : Addr → Prop}, (∀ d, Q d → Q' d) → (∀ c, E c → E' c) → t r Q E → t r Q' E'
def Wish (C : Ct) (W : XW) (M : Addr → Prop) (r : Env) (σ : L2.St) (H : Hp) (E : Addr → Prop) : Prop := ∀ c H', C.Ex H H' → Sim C M r σ H' → E c → W σ (.ref c) Option.none H'
theorem Wish.mono {C : Ct} {W : XW} {M : Addr → Prop} {r : Env} {σ : L2.St} {H H1 : Hp} {E : Addr → Prop} (h : Wish C W M r σ H E) (k : C.Ex H H1) : Wish C W M r σ H1 E := fun c H' k' S q => h c H' (k.trans k') S q
def lP (C : Ct) (W : XW) (t : TP) : TE := fun σ H Q => ∃ M r E, Sim C M r σ H ∧ Wish C W M r σ H E ∧ t r (fun d => ∀ v H', C.Ex H H' → Sim C M r σ H' → C.Rq M H' v d → Q v H') E
def lV (C : Ct) (W : XW) (t : TP) : TE := fun σ H Q => ∃ M r E, Sim C M r σ H ∧ Wish C W M r σ H E ∧ t r (fun d => ∀ v H', C.Ex H H' → Sim C M r σ H' → C.Rp M H' v d → Q v H') E
theorem _root_.L2.PE.imp {X : Cx} {e : Expr} {t t' : TE} (h : PE X e t) (hi : ∀ σ H Q, t' σ H Q → t σ H Q) : PE X e t' := ⟨fun pins s σ H Q I q => h.run pins s σ H Q I (hi _ _ _ q)⟩
theorem _root_.L2.PT.imp {X : Cx} {e : Expr} {t t' : TT} (h : PT X e t) (hi : ∀ σ H Q, t' σ H Q → t σ H Q) : PT X e t' := ⟨fun pins s σ H Q I q => h.run pins s σ H Q I (hi _ _ _ q)⟩
theorem _root_.L2.PA.imp {X : Cx} {e : List Expr} {t t' : TA} (h : PA X e t) (hi : ∀ σ H Q, t' σ H Q → t σ H Q) : PA X e t' := ⟨fun pos pins s σ H Q I q => h.run pos pins s σ H Q I (hi _ _ _ q)⟩
theorem _root_.L2.PS.imp {X : Cx} {e : Stmt} {t t' : TS} (h : PS X e t) (hi : ∀ D σ H, t' D σ H → t D σ H) : PS X e t' := ⟨fun pins s σ H Q I q => h.run pins s σ H Q I (hi _ _ _ q)⟩
theorem _root_.L2.PSs.imp {X : Cx} {e : List Stmt} {t t' : TS} (h : PSs X e t) (hi : ∀ D σ H, t' D σ H → t D σ H) : PSs X e t' := ⟨fun pins s σ H Q I q => h.run pins s σ H Q I (hi _ _ _ q)⟩
theorem _root_.L2.PG.imp {X : Cx} {e : Expr} {t t' : TG} (h : PG X e t) (hi : ∀ v σ H Q, t' v σ H Q → t v σ H Q) : PG X e t' := ⟨fun pins s σ H v u Q I r q => h.run pins s σ H v u Q I r (hi _ _ _ _ q)⟩
theorem _root_.L2.PI.imp {X : Cx} {tg e : Expr} {t t' : TI} (h : PI X tg e t) (hi : ∀ σ H Q, t' σ H Q → t σ H Q) : PI X tg e t' := ⟨fun pins s σ H Q I q => h.run pins s σ H Q I (hi _ _ _ q)⟩
theorem _root_.L2.OpR.imp {X : Cx} {f : Value → Value → Sem Value} {r r' : R2} (h : OpR X f r) (hi : ∀ x y H Q, r' x y H Q → r x y H Q) : OpR X f r' := fun pins s σ H x y v u Q I rx ry q => h pins s σ H x y v u Q I rx ry (hi _ _ _ _ q)
theorem _root_.L2.CallR.imp {X : Cx} {f : Value} {r r' : List V → Hp → VK → Prop} (h : CallR X f r) (hi : ∀ x H Q, r' x H Q → r x H Q) : CallR X f r' := fun pins s σ H x v Q I rx q => h pins s σ H x v Q I rx (hi _ _ _ q)
structure DE (X : Cx) (C : Ct) (W : XW) (e : Expr) (t : TP) : Prop where
  pe : PE X e (lP C W t)
  mo : Mono t
structure DV (X : Cx) (C : Ct) (W : XW) (e : Expr) (t : TP) : Prop where
  pe : PE X e (lV C W t)
  mo : Mono t
section
variable {X : Cx} {C : Ct} {W : XW} {e : Expr} {t : TP}
theorem DV.q (h : DV X C W e t) : DE X C W e t := ⟨h.pe.imp fun σ H Q ⟨M, r, E, S, w, q⟩ => ⟨M, r, E, S, w, h.mo.imp (fun d k v H' x S' p => k v H' x S' p.q) (fun _ z => z) q⟩, h.mo⟩
end
end HC
namespace HC
open PySem PySem.Spec PyProof.Rows L2
structure Fit (X : Cx) (C : Ct) : Prop where
  k : X.K = C.K
  p : X.prog = C.P
  w : X.w = C.w
section
variable {K : PySem.W.Frag} {P : Program} {w : World} {M : Addr → Prop} {H : Hp}
theorem RpA.length : ∀ {vs : List V} {ds : List D}, RpA K P w M H vs ds → vs.length = ds.length
  | _, _, .nil => rfl
  | _, _, .cons _ r => congrArg (· + 1) r.length
theorem RpA.get : ∀ {vs : List V} {ds : List D} {i : Nat} {d : D}, RpA K P w M H vs ds → ds[i]? = some d → ∃ v, vs[i]? = some v ∧ Rp K P w M H v d
  | _, _, _, _, .nil, e => by simp at e
  | _, _, 0, _, .cons a _, e => by simp at e; subst e; exact ⟨_, rfl, a⟩
  | _, _, i + 1, d, .cons _ r, e => by simpa using RpA.get (i := i) (d := d) r (by simpa using e)
theorem RpA.getV : ∀ {vs : List V} {ds : List D} {i : Nat} {v : V}, RpA K P w M H vs ds → vs[i]? = some v → ∃ d, ds[i]? = some d ∧ Rp K P w M H v d
  | _, _, _, _, .nil, e => by simp at e
  | _, _, 0, _, .cons a _, e => by simp at e; subst e; exact ⟨_, rfl, a⟩
  | _, _, i + 1, d, .cons _ r, e => by simpa using RpA.getV (i := i) (v := d) r (by simpa using e)
theorem RpA.append : ∀ {vs : List V} {ds : List D} {vs' : List V} {ds' : List D}, RpA K P w M H vs ds → RpA K P w M H vs' ds' → RpA K P w M H (vs ++ vs') (ds ++ ds')
  | _, _, _, _, .nil, s => s
  | _, _, _, _, .cons a r, s => .cons a (RpA.append r s)
theorem RpA.take : ∀ {vs : List V} {ds : List D} (n : Nat), RpA K P w M H vs ds → RpA K P w M H (vs.take n) (ds.take n)
  | _, _, 0, _ => .nil
  | _, _, _ + 1, .nil => .nil
  | _, _, n + 1, .cons a r => .cons a (RpA.take n r)
theorem RpA.drop : ∀ {vs : List V} {ds : List D} (n : Nat), RpA K P w M H vs ds → RpA K P w M H (vs.drop n) (ds.drop n)
  | _, _, 0, r => r
  | _, _, _ + 1, .nil => .nil
  | _, _, n + 1, .cons _ r => RpA.drop n r
theorem RpA.set {v : V} {d : D} (h : Rp K P w M H v d) : ∀ {vs : List V} {ds : List D} (n : Nat), RpA K P w M H vs ds → RpA K P w M H (vs.set n v) (ds.set n d)
  | _, _, _, .nil => .nil
  | _, _, 0, .cons _ r => .cons h r
  | _, _, n + 1, .cons a r => .cons a (RpA.set h n r)
theorem RpA.dropLast : ∀ {vs : List V} {ds : List D}, RpA K P w M H vs ds → RpA K P w M H vs.dropLast ds.dropLast
  | _, _, .nil => .nil
  | _, _, .cons _ .nil => .nil
  | _, _, .cons a (.cons b r) => .cons a (RpA.dropLast (.cons b r))
theorem RpA.rep {vs : List V} {ds : List D} (h : RpA K P w M H vs ds) : ∀ k : Nat, RpA K P w M H (List.replicate k vs).flatten (List.replicate k ds).flatten
  | 0 => .nil
  | k + 1 => by rw [List.replicate_succ, List.replicate_succ, List.flatten_cons, List.flatten_cons]; exact h.append (RpA.rep h k)
def cutL {α : Type} (xs : List α) (lo hi : Option Int) : List α := (xs.drop (HT.sIx xs.length 0 lo)).take (HT.sIx xs.length xs.length hi - HT.sIx xs.length 0 lo)
theorem RpA.cut {vs : List V} {ds : List D} (h : RpA K P w M H vs ds) (lo hi : Option Int) : RpA K P w M H (cutV vs lo hi) (cutL ds lo hi) := by
  unfold cutV cutL
  rw [h.length]
  exact (h.drop _).take _
theorem RpA.at {vs : List V} {ds : List D} (h : RpA K P w M H vs ds) {i : Int} {d : D} (e : atI ds i = some d) : ∃ v, atI vs i = some v ∧ Rp K P w M H v d := by
  unfold atI at e ⊢
  rw [h.length]
  cases q : ixN ds.length i with
  | none => rw [q] at e; cases e
  | some j =>
    rw [q] at e
    obtain ⟨v, h1, h2⟩ := h.get (show ds[j]? = some d from e)
    exact ⟨v, h1, h2⟩
theorem Rp.sqT {a : Addr} {ds : List D} (h : Rp K P w M H (.ref a) (.tuple ds)) : ∃ xs, SqT K H a xs ∧ RpA K P w M H xs ds := by
  cases h with
  | tup _ e r => exact ⟨_, SqT.of e, r⟩
  | ktup e r => exact ⟨_, .inr e, r⟩
theorem Rp.tupRef {v : V} {ds : List D} (h : Rp K P w M H v (.tuple ds)) : ∃ a, v = .ref a := by
  cases h with
  | tup _ e r => exact ⟨_, rfl⟩
  | ktup e r => exact ⟨_, rfl⟩
end
section
variable {C : Ct} {M : Addr → Prop} {H H' : Hp} {v : V}
theorem Ct.Rq.int {i : Int} (h : C.Rq M H v (.int i)) : v = .int i := by
  rcases h with h | ⟨a, _, _, h⟩
  · cases h; rfl
  · cases h
theorem Ct.Rq.bl {i : Bool} (h : C.Rq M H v (.bool i)) : v = .bl i := by
  rcases h with h | ⟨a, _, _, h⟩
  · cases h; rfl
  · cases h
theorem Ct.Rq.str {i : Str} (h : C.Rq M H v (.str i)) : v = .str i := by
  rcases h with h | ⟨a, _, _, h⟩
  · cases h; rfl
  · cases h
theorem Ct.Rq.non (h : C.Rq M H v .none) : v = .non := by
  rcases h with h | ⟨a, _, _, h⟩
  · cases h; rfl
  · cases h
theorem Ct.Rq.lst {ds : List D} (h : C.Rq M H v (.list ds)) : ∃ a xs, v = .ref a ∧ H a = some (.lst xs) ∧ C.RpA M H xs ds := by
  rcases h with h | ⟨a, e, _, h⟩
  · cases h with
    | lst _ e r => exact ⟨_, _, rfl, e, r⟩
  · cases h with
    | lst q r => exact ⟨a, _, e, q, r⟩
theorem Ct.Rq.tup {ds : List D} (h : C.Rq M H v (.tuple ds)) : ∃ a xs, v = .ref a ∧ SqT C.K H a xs ∧ C.RpA M H xs ds := by
  rcases h with h | ⟨a, e, _, h⟩
  · obtain ⟨a, rfl⟩ := h.tupRef
    obtain ⟨xs, h1, h2⟩ := h.sqT
    exact ⟨a, xs, rfl, h1, h2⟩
  · cases h
theorem Ct.Rq.tupRp {ds : List D} (h : C.Rq M H v (.tuple ds)) : C.Rp M H v (.tuple ds) := by
  rcases h with h | ⟨a, e, _, h⟩
  · exact h
  · cases h
end
def Dom (M : Addr → Prop) (H : Hp) : Prop := ∀ a, M a → H a ≠ none
theorem Dom.fresh {M : Addr → Prop} {H : Hp} (h : Dom M H) {p : Addr} (e : H p = none) : ¬ M p := fun m => h p m e
abbrev B2 := D → D → (D → Prop) → Prop
structure Mo2 (f : B2) : Prop where
  imp : ∀ {x y : D} {Q Q' : D → Prop}, (∀ d, Q d → Q' d) → f x y Q → f x y Q'
def rD2 (C : Ct) (f : B2) : R2 := fun x y H Q => ∃ M d1 d2, C.Rq M H x d1 ∧ C.Rq M H y d2 ∧ Dom M H ∧ f d1 d2 fun d => ∀ v H', Same H H' → C.Rp M H' v d → Q v H'
structure Op2 (X : Cx) (C : Ct) (sem : Value → Value → Sem Value) (f : B2) : Prop where
  ok : OpR X sem (rD2 C f)
  mo : Mo2 f
def wOp2 (f : B2) (ta tb : TP) : TP := fun r Q E => ta r (fun x => tb r (fun y => f x y Q) E) E
section
variable {X : Cx} {C : Ct} {W : XW} {a b c : Expr} {ta tb tc : TP} {pos : Pos}
theorem mono_op2 {f : B2} (hf : Mo2 f) (ha : Mono ta) (hb : Mono tb) : Mono (wOp2 f ta tb) := ⟨fun hq he h => ha.imp (fun x h1 => hb.imp (fun y h2 => hf.imp hq h2) he h1) he h⟩
theorem run_op2 {f : B2} (ha : DE X C W a ta) (hb : DE X C W b tb) {σ : L2.St} {H : Hp} {Q : VK} (h : lV C W (wOp2 f ta tb) σ H Q) (hf : Mo2 f) : lP C W ta σ H fun x H1 => lP C W tb σ H1 fun y H2 => rD2 C f x y H2 Q := by
  obtain ⟨M, r, E, S, hW, q⟩ := h
  refine ⟨M, r, E, S, hW, ha.mo.imp (fun x q1 v1 H1 k1 S1 p1 => ⟨M, r, E, S1, hW.mono k1, hb.mo.imp (fun y q2 v2 H2 k2 S2 p2 => ?_) (fun _ z => z) q1⟩) (fun _ z => z) q⟩
  exact ⟨M, x, y, S1.rq k2 p1, p2, S2.dom, hf.imp (fun d k v H' s p => k v H' (k1.trans (k2.trans (Same.ex s))) (S2.same s) p) q2⟩
theorem dv_op {op : Operator} {f : B2} (ho : Op2 X C (binaryOp op) f) (ha : DE X C W a ta) (hb : DE X C W b tb) : DV X C W (.BinOp a op b pos) (wOp2 f ta tb) :=
  ⟨(pe_op ho.ok ha.pe hb.pe).imp fun σ H Q h => run_op2 ha hb h ho.mo, mono_op2 ho.mo ha.mo hb.mo⟩
theorem dv_cmp {op : CmpOp} {f : B2} (ho : Op2 X C (compareOp op) f) (ha : DE X C W a ta) (hb : DE X C W b tb) (hm : behindInMarks op b = false := by first | exact nomark _ (by decide) (by decide) | rfl) : DV X C W (.Compare a [op] [b] pos) (wOp2 f ta tb) :=
  ⟨(pe_cmpR ho.ok ha.pe hb.pe hm).imp fun σ H Q h => run_op2 ha hb h ho.mo, mono_op2 ho.mo ha.mo hb.mo⟩
def wChain (f g : B2) (ta tb tc : TP) : TP := fun r Q E => ta r (fun x => tb r (fun y => f x y fun z => match z with
  | .bool k => if k = true then tc r (fun u => g y u Q) E else Q (.bool false)
  | _ => False) E) E
theorem mono_chain {f g : B2} (hf : Mo2 f) (hg : Mo2 g) (ha : Mono ta) (hb : Mono tb) (hc : Mono tc) : Mono (wChain f g ta tb tc) := ⟨fun {r Q Q' E E'} hq he h => ha.imp (fun x h1 => hb.imp (fun y h2 => hf.imp (fun z h3 => by
  cases z with
  | bool k =>
    cases k with
    | true => exact hc.imp (fun u h4 => hg.imp hq h4) he h3
    | false => exact hq _ h3
  | _ => exact h3) h2) he h1) he h⟩
end
section
variable {X : Cx} {C : Ct}
theorem fit_cases {motive : Ct → Prop} (h : ∀ T M0 H0, motive ⟨X.K, X.prog, X.w, T, M0, H0⟩) : ∀ C, Fit X C → motive C := fun ⟨K, P, w, T, M0, H0⟩ ⟨a, b, c⟩ => by
  cases a; cases b; cases c; exact h T M0 H0
def fAdd : B2
  | .int a, .int b, Q => Q (.int (a + b))
  | .str a, .str b, Q => a.length + b.length ≤ sizeLine ∧ Q (.str (a ++ b))
  | .list a, .list b, Q => a.length + b.length ≤ sizeLine ∧ Q (.list (a ++ b))
  | .tuple a, .tuple b, Q => a.length + b.length ≤ sizeLine ∧ Q (.tuple (a ++ b))
  | _, _, _ => False
theorem mo_add : Mo2 fAdd := by
  refine ⟨fun {x y Q Q'} hq h => ?_⟩
  unfold fAdd at h ⊢
  split at h <;> first | exact hq _ h | exact ⟨h.1, hq _ h.2⟩ | exact h
theorem Same.refl' {H : Hp} : Same H H := Same.refl H
theorem op_addD (F : Fit X C) : Op2 X C (binaryOp .Add) fAdd := by
  refine ⟨?_, mo_add⟩
  refine fit_cases (X := X) (motive := fun C => OpR X (binaryOp .Add) (rD2 C fAdd)) (fun T M0 H0 => ?_) C F
  refine ((op_add.or op_add_str).or (op_cat.or op_catA)).imp fun x y H Q ⟨M, d1, d2, r1, r2, dm, h⟩ => ?_
  unfold fAdd at h
  split at h
  · exact .inl (.inl ⟨_, _, r1.int, r2.int, h _ _ Same.refl' (.int _)⟩)
  · exact .inl (.inr ⟨_, _, r1.str, r2.str, h.1, h.2 _ _ Same.refl' (.str _)⟩)
  · obtain ⟨l, xs, rfl, e1, p1⟩ := r1.lst
    obtain ⟨l2, xs2, rfl, e2, p2⟩ := r2.lst
    refine .inr (.inl ⟨l, l2, xs, xs2, rfl, rfl, e1, e2, by rw [p1.length, p2.length]; exact h.1, fun p hp => h.2 _ _ (same_upd hp) (.lst (dm.fresh hp) upd_same ?_)⟩)
    exact (p1.append p2).step (Stp.grow (same_upd hp))
  · obtain ⟨l, xs, rfl, e1, p1⟩ := r1.tup
    obtain ⟨l2, xs2, rfl, e2, p2⟩ := r2.tup
    refine .inr (.inr ⟨l, l2, xs, xs2, rfl, rfl, e1, e2, by rw [p1.length, p2.length]; exact h.1, fun ex => ?_, fun _ ey => ?_, fun _ _ p hp => h.2 _ _ (same_upd hp) (.tup (dm.fresh hp) upd_same ?_)⟩)
    · subst ex
      cases p1
      exact h.2 _ _ Same.refl' r2.tupRp
    · subst ey
      cases p2
      have z := h.2 (.ref l) H Same.refl'
      rw [List.append_nil] at z
      exact z r1.tupRp
    · exact (p1.append p2).step (Stp.grow (same_upd hp))
  · exact h.elim
def fSub : B2
  | .int a, .int b, Q => Q (.int (a - b))
  | _, _, _ => False
theorem mo_sub : Mo2 fSub := by
  refine ⟨fun {x y Q Q'} hq h => ?_⟩
  unfold fSub at h ⊢
  split at h <;> first | exact hq _ h | exact h
theorem op_subD (F : Fit X C) : Op2 X C (binaryOp .Sub) fSub := by
  refine ⟨op_sub.imp fun x y H Q ⟨M, d1, d2, r1, r2, dm, h⟩ => ?_, mo_sub⟩
  unfold fSub at h
  split at h
  · exact ⟨_, _, r1.int, r2.int, h _ _ Same.refl' (.int _)⟩
  · exact h.elim
def fMul : B2
  | .int a, .int b, Q => CMul a b ∧ Q (.int (a * b))
  | .list a, .int b, Q => (-(2 ^ 63) ≤ b ∧ b < 2 ^ 63 ∧ a.length * b.toNat ≤ sizeLine) ∧ Q (.list (List.replicate b.toNat a).flatten)
  | _, _, _ => False
theorem mo_mul : Mo2 fMul := by
  refine ⟨fun {x y Q Q'} hq h => ?_⟩
  unfold fMul at h ⊢
  split at h <;> first | exact ⟨h.1, hq _ h.2⟩ | exact h
theorem op_mulD (F : Fit X C) : Op2 X C (binaryOp .Mult) fMul := by
  refine ⟨(op_mul.or op_rep).imp fun x y H Q ⟨M, d1, d2, r1, r2, dm, h⟩ => ?_, mo_mul⟩
  unfold fMul at h
  split at h
  · exact .inl ⟨_, _, r1.int, r2.int, h.1, h.2 _ _ Same.refl' (.int _)⟩
  · obtain ⟨l, xs, rfl, e1, p1⟩ := r1.lst
    obtain ⟨⟨h1, h2, h3⟩, h⟩ := h
    refine .inr ⟨l, _, xs, rfl, r2.int, e1, h1, h2, by rw [p1.length]; exact h3, fun p hp => h _ _ (same_upd hp) (.lst (dm.fresh hp) upd_same ?_)⟩
    exact (p1.rep _).step (Stp.grow (same_upd hp))
  · exact h.elim
def fDiv : B2
  | .int a, .int b, Q => CDiv a b ∧ Q (.int (a / b))
  | _, _, _ => False
theorem mo_div : Mo2 fDiv := by
  refine ⟨fun {x y Q Q'} hq h => ?_⟩
  unfold fDiv at h ⊢
  split at h <;> first | exact ⟨h.1, hq _ h.2⟩ | exact h
theorem op_divD (F : Fit X C) : Op2 X C (binaryOp .FloorDiv) fDiv := by
  refine ⟨op_fdiv.imp fun x y H Q ⟨M, d1, d2, r1, r2, dm, h⟩ => ?_, mo_div⟩
  unfold fDiv at h
  split at h
  · exact ⟨_, _, r1.int, r2.int, h.1, h.2 _ _ Same.refl' (.int _)⟩
  · exact h.elim
def fMod : B2
  | .int a, .int b, Q => 0 < b ∧ Q (.int (a % b))
  | _, _, _ => False
theorem mo_mod : Mo2 fMod := by
  refine ⟨fun {x y Q Q'} hq h => ?_⟩
  unfold fMod at h ⊢
  split at h <;> first | exact ⟨h.1, hq _ h.2⟩ | exact h
theorem op_modD (F : Fit X C) : Op2 X C (binaryOp .Mod) fMod := by
  refine ⟨op_mod.imp fun x y H Q ⟨M, d1, d2, r1, r2, dm, h⟩ => ?_, mo_mod⟩
  unfold fMod at h
  split at h
  · exact ⟨_, _, r1.int, r2.int, h.1, h.2 _ _ Same.refl' (.int _)⟩
  · exact h.elim
def fLt : B2
  | .int a, .int b, Q => Q (.bool (decide (a < b)))
  | _, _, _ => False
def fLe : B2
  | .int a, .int b, Q => Q (.bool (decide (a ≤ b)))
  | _, _, _ => False
def fGt : B2
  | .int a, .int b, Q => Q (.bool (decide (b < a)))
  | _, _, _ => False
def fGe : B2
  | .int a, .int b, Q => Q (.bool (decide (b ≤ a)))
  | _, _, _ => False
theorem mo_lt : Mo2 fLt := by
  refine ⟨fun {x y Q Q'} hq h => ?_⟩
  unfold fLt at h ⊢
  split at h <;> first | exact hq _ h | exact h
theorem mo_le : Mo2 fLe := by
  refine ⟨fun {x y Q Q'} hq h => ?_⟩
  unfold fLe at h ⊢
  split at h <;> first | exact hq _ h | exact h
theorem mo_gt : Mo2 fGt := by
  refine ⟨fun {x y Q Q'} hq h => ?_⟩
  unfold fGt at h ⊢
  split at h <;> first | exact hq _ h | exact h
theorem mo_ge : Mo2 fGe := by
  refine ⟨fun {x y Q Q'} hq h => ?_⟩
  unfold fGe at h ⊢
  split at h <;> first | exact hq _ h | exact h
theorem op_ltD (F : Fit X C) : Op2 X C (compareOp .Lt) fLt := by
  refine ⟨op_lt.imp fun x y H Q ⟨M, d1, d2, r1, r2, dm, h⟩ => ?_, mo_lt⟩
  unfold fLt at h
  split at h
  · exact ⟨_, _, r1.int, r2.int, h _ _ Same.refl' (.bl _)⟩
  · exact h.elim
theorem op_leD (F : Fit X C) : Op2 X C (compareOp .LtE) fLe := by
  refine ⟨op_le.imp fun x y H Q ⟨M, d1, d2, r1, r2, dm, h⟩ => ?_, mo_le⟩
  unfold fLe at h
  split at h
  · exact ⟨_, _, r1.int, r2.int, h _ _ Same.refl' (.bl _)⟩
  · exact h.elim
theorem op_gtD (F : Fit X C) : Op2 X C (compareOp .Gt) fGt := by
  refine ⟨op_gt.imp fun x y H Q ⟨M, d1, d2, r1, r2, dm, h⟩ => ?_, mo_gt⟩
  unfold fGt at h
  split at h
  · exact ⟨_, _, r1.int, r2.int, h _ _ Same.refl' (.bl _)⟩
  · exact h.elim
theorem op_geD (F : Fit X C) : Op2 X C (compareOp .GtE) fGe := by
  refine ⟨op_ge.imp fun x y H Q ⟨M, d1, d2, r1, r2, dm, h⟩ => ?_, mo_ge⟩
  unfold fGe at h
  split at h
  · exact ⟨_, _, r1.int, r2.int, h _ _ Same.refl' (.bl _)⟩
  · exact h.elim
end
end HC
namespace HC
open PySem PySem.Spec PyProof.Rows L2
def deq (x y : D) : Bool := PyData.eqv x.py y.py
structure D.sh (n : Nat) (d : D) : Prop where
  pl : d.plain = true
  ly : d.py.canLay0 = true
  dp : d.py.depth ≤ n
theorem D.sh.shaped {d : D} (h : d.sh 64) : SeqAt.shaped d.py = true := by
  unfold SeqAt.shaped
  rw [h.ly, decide_eq_true h.dp]
  rfl
mutual
theorem Rp.dp {K : PySem.W.Frag} {P : Program} {w : World} {M : Addr → Prop} {H : Hp} : ∀ {v : V} {d : D}, Rp K P w M H v d → d.plain = true → Dp K H v d.py
  | _, _, .non, _ => .non
  | _, _, .bl b, _ => .bl b
  | _, _, .int i, _ => .int i
  | _, _, .str x, _ => .str x
  | _, _, .lst _ e r, h => .lst (SqL.of e) (RpA.dp r h)
  | _, _, .tup _ e r, h => .tup (SqT.of e) (RpA.dp r h)
  | _, _, .ktup e r, h => .tup (.inr e) (RpA.dp r h)
  | _, _, .dctK _ _ _, h => by cases h
  | _, _, .dctN _ _ _ _, h => by cases h
  | _, _, .exc _ _, h => by cases h
  | _, _, .dctL _ _ _, h => by cases h
  | _, _, .iob _ _ _ _ _, h => by cases h
  | _, _, .hld _, h => by cases h
theorem RpA.dp {K : PySem.W.Frag} {P : Program} {w : World} {M : Addr → Prop} {H : Hp} : ∀ {v : List V} {d : List D}, RpA K P w M H v d → D.plains d = true → DpAll K H v (D.pys d)
  | _, _, .nil, _ => .nil
  | _, _, .cons a b, h => by
    have h' := Bool.and_eq_true_iff.mp (show (_ && _) = true from h)
    exact .cons (Rp.dp a h'.1) (RpA.dp b h'.2)
end
theorem Ct.Rq.dp {C : Ct} {M : Addr → Prop} {H : Hp} {v : V} {d : D} (h : C.Rq M H v d) (p : d.plain = true) : Dp C.K H v d.py := by
  rcases h with h | ⟨a, rfl, _, h⟩
  · exact h.dp p
  · cases h with
    | lst e r => exact .lst (SqL.of e) (r.dp p)
    | dctK _ _ => cases p
    | dctN _ _ _ => cases p
    | hld _ => cases p
section
variable {X : Cx} {C : Ct}
def fEq : B2 := fun x y Q => (x.sh 64 ∧ y.sh 64) ∧ Q (.bool (deq x y))
def fNe : B2 := fun x y Q => (x.sh 64 ∧ y.sh 64) ∧ Q (.bool (!deq x y))
theorem mo_eq : Mo2 fEq := ⟨fun hq h => ⟨h.1, hq _ h.2⟩⟩
theorem mo_ne : Mo2 fNe := ⟨fun hq h => ⟨h.1, hq _ h.2⟩⟩
theorem op_eqD' (hu : X.A.units + 64 < cLine) (F : Fit X C) : Op2 X C (compareOp .Eq) fEq := by
  refine ⟨?_, mo_eq⟩
  refine fit_cases (X := X) (motive := fun C => OpR X (compareOp .Eq) (rD2 C fEq)) (fun T M0 H0 => ?_) C F
  refine (L2.op_eqD hu).imp fun x y H Q ⟨M, d1, d2, r1, r2, dm, ⟨s1, s2⟩, h⟩ => ?_
  exact ⟨_, _, r1.dp s1.pl, r2.dp s2.pl, s1.shaped, s2.shaped, h _ _ Same.refl' (.bl _)⟩
theorem op_neD' (hu : X.A.units + 64 < cLine) (F : Fit X C) : Op2 X C (compareOp .NotEq) fNe := by
  refine ⟨?_, mo_ne⟩
  refine fit_cases (X := X) (motive := fun C => OpR X (compareOp .NotEq) (rD2 C fNe)) (fun T M0 H0 => ?_) C F
  refine (L2.op_neD hu).imp fun x y H Q ⟨M, d1, d2, r1, r2, dm, ⟨s1, s2⟩, h⟩ => ?_
  exact ⟨_, _, r1.dp s1.pl, r2.dp s2.pl, s1.shaped, s2.shaped, h _ _ Same.refl' (.bl _)⟩
def fIs : B2
  | .bool a, .bool b, Q => Q (.bool (decide (a = b)))
  | .none, .none, Q => Q (.bool true)
  | .bool _, .none, Q => Q (.bool false)
  | .int _, .none, Q => Q (.bool false)
  | .str _, .none, Q => Q (.bool false)
  | .list _, .none, Q => Q (.bool false)
  | .tuple _, .none, Q => Q (.bool false)
  | .dict _, .none, Q => Q (.bool false)
  | .tdict _, .none, Q => Q (.bool false)
  | .exc _, .none, Q => Q (.bool false)
  | _, _, _ => False
def fIsN : B2
  | .bool a, .bool b, Q => Q (.bool (!decide (a = b)))
  | .none, .none, Q => Q (.bool false)
  | .bool _, .none, Q => Q (.bool true)
  | .int _, .none, Q => Q (.bool true)
  | .str _, .none, Q => Q (.bool true)
  | .list _, .none, Q => Q (.bool true)
  | .tuple _, .none, Q => Q (.bool true)
  | .dict _, .none, Q => Q (.bool true)
  | .tdict _, .none, Q => Q (.bool true)
  | .exc _, .none, Q => Q (.bool true)
  | _, _, _ => False
theorem mo_is : Mo2 fIs := by
  refine ⟨fun {x y Q Q'} hq h => ?_⟩
  unfold fIs at h ⊢
  split at h <;> first | exact hq _ h | exact h
theorem mo_isN : Mo2 fIsN := by
  refine ⟨fun {x y Q Q'} hq h => ?_⟩
  unfold fIsN at h ⊢
  split at h <;> first | exact hq _ h | exact h
theorem Ct.Rq.ref {M : Addr → Prop} {H : Hp} {v : V} {d : D} (h : C.Rq M H v d) (hd : (∃ x, d = .list x) ∨ (∃ x, d = .tuple x) ∨ (∃ x, d = .dict x) ∨ (∃ x, d = .tdict x) ∨ ∃ x, d = .exc x) : ∃ a, v = .ref a := by
  rcases h with h | ⟨a, e, _, h⟩
  · rcases hd with ⟨x, rfl⟩ | ⟨x, rfl⟩ | ⟨x, rfl⟩ | ⟨x, rfl⟩ | ⟨x, rfl⟩ <;> cases h <;> exact ⟨_, rfl⟩
  · exact ⟨a, e⟩
theorem op_isD (F : Fit X C) : Op2 X C (compareOp .Is) fIs := by
  refine ⟨(op_isBl.or op_isN).imp fun x y H Q ⟨M, d1, d2, r1, r2, dm, h⟩ => ?_, mo_is⟩
  have ne : ∀ {d : D}, C.Rq M H x d → ((∃ x, d = .list x) ∨ (∃ x, d = .tuple x) ∨ (∃ x, d = .dict x) ∨ (∃ x, d = .tdict x) ∨ ∃ x, d = .exc x) → decide (x = V.non) = false := fun {d} r k => by
    obtain ⟨a, e⟩ := r.ref k
    subst e
    rfl
  unfold fIs at h
  split at h
  · exact .inl ⟨_, _, r1.bl, r2.bl, h _ _ Same.refl' (.bl _)⟩
  · refine .inr ⟨r2.non, ?_⟩
    rw [r1.non]
    exact h _ _ Same.refl' (.bl _)
  · refine .inr ⟨r2.non, ?_⟩
    rw [r1.bl]
    exact h _ _ Same.refl' (.bl _)
  · refine .inr ⟨r2.non, ?_⟩
    rw [r1.int]
    exact h _ _ Same.refl' (.bl _)
  · refine .inr ⟨r2.non, ?_⟩
    rw [r1.str]
    exact h _ _ Same.refl' (.bl _)
  · refine .inr ⟨r2.non, ?_⟩
    rw [ne r1 (.inl ⟨_, rfl⟩)]
    exact h _ _ Same.refl' (.bl _)
  · refine .inr ⟨r2.non, ?_⟩
    rw [ne r1 (.inr (.inl ⟨_, rfl⟩))]
    exact h _ _ Same.refl' (.bl _)
  · refine .inr ⟨r2.non, ?_⟩
    rw [ne r1 (.inr (.inr (.inl ⟨_, rfl⟩)))]
    exact h _ _ Same.refl' (.bl _)
  · refine .inr ⟨r2.non, ?_⟩
    rw [ne r1 (.inr (.inr (.inr (.inl ⟨_, rfl⟩))))]
    exact h _ _ Same.refl' (.bl _)
  · refine .inr ⟨r2.non, ?_⟩
    rw [ne r1 (.inr (.inr (.inr (.inr ⟨_, rfl⟩))))]
    exact h _ _ Same.refl' (.bl _)
  · exact h.elim
theorem op_isND (F : Fit X C) : Op2 X C (compareOp .IsNot) fIsN := by
  refine ⟨(op_notBl.or op_notN).imp fun x y H Q ⟨M, d1, d2, r1, r2, dm, h⟩ => ?_, mo_isN⟩
  have ne : ∀ {d : D}, C.Rq M H x d → ((∃ x, d = .list x) ∨ (∃ x, d = .tuple x) ∨ (∃ x, d = .dict x) ∨ (∃ x, d = .tdict x) ∨ ∃ x, d = .exc x) → (!decide (x = V.non)) = true := fun {d} r k => by
    obtain ⟨a, e⟩ := r.ref k
    subst e
    rfl
  unfold fIsN at h
  split at h
  · exact .inl ⟨_, _, r1.bl, r2.bl, h _ _ Same.refl' (.bl _)⟩
  · refine .inr ⟨r2.non, ?_⟩
    rw [r1.non]
    exact h _ _ Same.refl' (.bl _)
  · refine .inr ⟨r2.non, ?_⟩
    rw [r1.bl]
    exact h _ _ Same.refl' (.bl _)
  · refine .inr ⟨r2.non, ?_⟩
    rw [r1.int]
    exact h _ _ Same.refl' (.bl _)
  · refine .inr ⟨r2.non, ?_⟩
    rw [r1.str]
    exact h _ _ Same.refl' (.bl _)
  · refine .inr ⟨r2.non, ?_⟩
    rw [ne r1 (.inl ⟨_, rfl⟩)]
    exact h _ _ Same.refl' (.bl _)
  · refine .inr ⟨r2.non, ?_⟩
    rw [ne r1 (.inr (.inl ⟨_, rfl⟩))]
    exact h _ _ Same.refl' (.bl _)
  · refine .inr ⟨r2.non, ?_⟩
    rw [ne r1 (.inr (.inr (.inl ⟨_, rfl⟩)))]
    exact h _ _ Same.refl' (.bl _)
  · refine .inr ⟨r2.non, ?_⟩
    rw [ne r1 (.inr (.inr (.inr (.inl ⟨_, rfl⟩))))]
    exact h _ _ Same.refl' (.bl _)
  · refine .inr ⟨r2.non, ?_⟩
    rw [ne r1 (.inr (.inr (.inr (.inr ⟨_, rfl⟩))))]
    exact h _ _ Same.refl' (.bl _)
  · exact h.elim
def D.flat : D → Bool
  | .none => true
  | .bool _ => true
  | .int _ => true
  | .str _ => true
  | _ => false
def D.v : D → V
  | .bool b => .bl b
  | .int i => .int i
  | .str x => .str x
  | _ => .non
theorem Rp.flat {K : PySem.W.Frag} {P : Program} {w : World} {M : Addr → Prop} {H : Hp} {v : V} {d : D} (h : Rp K P w M H v d) (f : d.flat = true) : v = d.v ∧ flatV v = true := by
  cases h <;> first | exact ⟨rfl, rfl⟩ | cases f
theorem RpA.flat {K : PySem.W.Frag} {P : Program} {w : World} {M : Addr → Prop} {H : Hp} : ∀ {v : List V} {d : List D}, RpA K P w M H v d → d.all D.flat = true → v = d.map D.v ∧ v.all flatV = true
  | _, _, .nil, _ => ⟨rfl, rfl⟩
  | _, _, .cons a b, h => by
    rw [List.all_cons, Bool.and_eq_true] at h
    obtain ⟨e1, f1⟩ := a.flat h.1
    obtain ⟨e2, f2⟩ := b.flat h.2
    exact ⟨by rw [e1, e2]; rfl, by rw [List.all_cons, f1, f2]; rfl⟩
theorem Ct.Rq.flat {M : Addr → Prop} {H : Hp} {v : V} {d : D} (h : C.Rq M H v d) (f : d.flat = true) : v = d.v ∧ flatV v = true := by
  rcases h with h | ⟨a, e, _, h⟩
  · exact h.flat f
  · cases h <;> cases f
def dIn (x : D) (ds : List D) : Bool := ds.any fun y => deq y x
def fInS : B2
  | x, .list ds, Q => (x.sh 64 ∧ (D.list ds).sh 64) ∧ Q (.bool (dIn x ds))
  | x, .tuple ds, Q => (x.flat = true ∧ ds.all D.flat = true) ∧ Q (.bool (dIn x ds))
  | .str x, .str z, Q => ∃ c : Nat, x = ⟨#[c]⟩ ∧ Q (.bool (decide (c ∈ z.cps.toList)))
  | _, _, _ => False
def fNotInS : B2
  | x, .list ds, Q => (x.sh 64 ∧ (D.list ds).sh 64) ∧ Q (.bool (!dIn x ds))
  | x, .tuple ds, Q => (x.flat = true ∧ ds.all D.flat = true) ∧ Q (.bool (!dIn x ds))
  | .str x, .str z, Q => ∃ c : Nat, x = ⟨#[c]⟩ ∧ Q (.bool (!decide (c ∈ z.cps.toList)))
  | _, _, _ => False
theorem mo_inS : Mo2 fInS := by
  refine ⟨fun {x y Q Q'} hq h => ?_⟩
  unfold fInS at h ⊢
  split at h <;> first | exact ⟨h.1, hq _ h.2⟩ | exact let ⟨c, e, q⟩ := h; ⟨c, e, hq _ q⟩ | exact h
theorem mo_notInS : Mo2 fNotInS := by
  refine ⟨fun {x y Q Q'} hq h => ?_⟩
  unfold fNotInS at h ⊢
  split at h <;> first | exact ⟨h.1, hq _ h.2⟩ | exact let ⟨c, e, q⟩ := h; ⟨c, e, hq _ q⟩ | exact h
theorem eqV_deq {x y : D} (hx : x.flat = true) (hy : y.flat = true) : eqV x.v y.v = deq x y := by
  cases x <;> first | exact absurd hx Bool.false_ne_true | (cases y <;> first | exact absurd hy Bool.false_ne_true | (simp only [eqV, deq, D.v, D.py, PyData.eqv]))
theorem pys_any (x : D) : ∀ ds : List D, ((D.pys ds).any fun z => PyData.eqv z x.py) = dIn x ds
  | [] => rfl
  | d :: ds => by
    show (PyData.eqv d.py x.py || (D.pys ds).any _) = (deq d x || dIn x ds)
    rw [pys_any x ds]
    rfl
theorem any_flat {x : D} (hx : x.flat = true) : ∀ {ds : List D}, ds.all D.flat = true → inV x.v (ds.map D.v) = dIn x ds
  | [], _ => rfl
  | d :: ds, h => by
    rw [List.all_cons, Bool.and_eq_true] at h
    show (eqV d.v x.v || inV x.v (ds.map D.v)) = (deq d x || dIn x ds)
    rw [eqV_deq h.1 hx, any_flat hx h.2]
theorem op_inS' (hu : X.A.units + 65 < cLine) (F : Fit X C) : Op2 X C (compareOp .In) fInS := by
  refine ⟨?_, mo_inS⟩
  refine fit_cases (X := X) (motive := fun C => OpR X (compareOp .In) (rD2 C fInS)) (fun T M0 H0 => ?_) C F
  refine ((L2.op_inD hu).or (op_in_seq.or op_in_sign)).imp fun x y H Q ⟨M, d1, d2, r1, r2, dm, h⟩ => ?_
  unfold fInS at h
  split at h
  · obtain ⟨⟨s1, s2⟩, h⟩ := h
    refine .inl ⟨_, _, r1.dp s1.pl, r2.dp s2.pl, s1.shaped, s2.shaped, ?_⟩
    rw [pys_any]
    exact h _ _ Same.refl' (.bl _)
  · obtain ⟨⟨s1, s2⟩, h⟩ := h
    obtain ⟨a, xs, rfl, e, p⟩ := r2.tup
    obtain ⟨e1, f1⟩ := r1.flat s1
    obtain ⟨e2, f2⟩ := p.flat s2
    subst e1 e2
    refine .inr (.inl ⟨a, _, rfl, .inr e, f1, f2, ?_⟩)
    have z := h _ _ Same.refl' (.bl _)
    rw [← any_flat s1 s2] at z
    exact z
  · obtain ⟨c, e, h⟩ := h
    subst e
    exact .inr (.inr ⟨_, _, r1.str, r2.str, h _ _ Same.refl' (.bl _)⟩)
  · exact h.elim
theorem op_notInS' (hu : X.A.units + 65 < cLine) (F : Fit X C) : Op2 X C (compareOp .NotIn) fNotInS := by
  refine ⟨?_, mo_notInS⟩
  refine fit_cases (X := X) (motive := fun C => OpR X (compareOp .NotIn) (rD2 C fNotInS)) (fun T M0 H0 => ?_) C F
  refine ((L2.op_notInD hu).or (op_notIn_seq.or op_notIn_sign)).imp fun x y H Q ⟨M, d1, d2, r1, r2, dm, h⟩ => ?_
  unfold fNotInS at h
  split at h
  · obtain ⟨⟨s1, s2⟩, h⟩ := h
    refine .inl ⟨_, _, r1.dp s1.pl, r2.dp s2.pl, s1.shaped, s2.shaped, ?_⟩
    rw [pys_any]
    exact h _ _ Same.refl' (.bl _)
  · obtain ⟨⟨s1, s2⟩, h⟩ := h
    obtain ⟨a, xs, rfl, e, p⟩ := r2.tup
    obtain ⟨e1, f1⟩ := r1.flat s1
    obtain ⟨e2, f2⟩ := p.flat s2
    subst e1 e2
    refine .inr (.inl ⟨a, _, rfl, .inr e, f1, f2, ?_⟩)
    have z := h _ _ Same.refl' (.bl _)
    rw [← any_flat s1 s2] at z
    exact z
  · obtain ⟨c, e, h⟩ := h
    subst e
    exact .inr (.inr ⟨_, _, r1.str, r2.str, h _ _ Same.refl' (.bl _)⟩)
  · exact h.elim
end
def slot : Env → Nat → Sl
  | [], _ => .un
  | x :: _, 0 => x
  | _ :: r, n + 1 => slot r n
theorem slot_get : ∀ {r : Env} {i : Nat} {x : Sl}, slot r i = x → x ≠ .un → r[i]? = some x
  | [], _, _, h, n => absurd h.symm n
  | y :: r, 0, x, h, _ => by rw [← h]; rfl
  | y :: r, i + 1, x, h, n => by simpa using slot_get (r := r) (i := i) h n
def wVar (i : Nat) : TP := fun r Q _ => match slot r i with
  | .val d => Q d
  | _ => False
def wPeek (i : Nat) : TP := fun r Q _ => match slot r i with
  | .val d => Q d
  | .own d => Q d
  | _ => False
def wC (d : D) : TP := fun _ Q _ => Q d
section
variable {X : Cx} {C : Ct} {W : XW} {pos : Pos}
theorem mono_var {i : Nat} : Mono (wVar i) := ⟨fun {r Q Q' E E'} hq _ h => by
  unfold wVar at h ⊢
  split at h
  · exact hq _ h
  · exact h⟩
theorem mono_peek {i : Nat} : Mono (wPeek i) := ⟨fun {r Q Q' E E'} hq _ h => by
  unfold wPeek at h ⊢
  split at h
  · exact hq _ h
  · exact hq _ h
  · exact h⟩
theorem mono_c {d : D} : Mono (wC d) := ⟨fun hq _ h => hq _ h⟩
theorem dv_var (i : Nat) {x : Str} (hN : X.N[i]? = some x := by rfl) (hv : Vis X.env.scope x := by first | exact Or.inl rfl | exact Or.inr (Or.inl rfl) | exact Or.inr (Or.inr rfl)) (hd : (x == ("__debug__" : Str)) = false := by decide)
    (hcd : (x == ("__classdict__" : Str)) = false := by decide) : DV X C W (.Name x pos) (wVar i) := by
  refine ⟨(pe_var (i := i) hN hv hd hcd).imp fun σ H Q ⟨M, r, E, S, hW, h⟩ => ?_, mono_var⟩
  unfold wVar at h
  split at h
  · rename_i d e
    obtain ⟨v, h1, h2⟩ := S.val i d (slot_get e (by simp))
    exact ⟨v, h1, h v H Ct.Ex.refl S h2⟩
  · exact h.elim
theorem de_peek (i : Nat) {x : Str} (hN : X.N[i]? = some x := by rfl) (hv : Vis X.env.scope x := by first | exact Or.inl rfl | exact Or.inr (Or.inl rfl) | exact Or.inr (Or.inr rfl)) (hd : (x == ("__debug__" : Str)) = false := by decide)
    (hcd : (x == ("__classdict__" : Str)) = false := by decide) : DE X C W (.Name x pos) (wPeek i) := by
  refine ⟨(pe_var (i := i) hN hv hd hcd).imp fun σ H Q ⟨M, r, E, S, hW, h⟩ => ?_, mono_peek⟩
  unfold wPeek at h
  split at h
  · rename_i d e
    obtain ⟨v, h1, h2⟩ := S.val i d (slot_get e (by simp))
    exact ⟨v, h1, h v H Ct.Ex.refl S h2.q⟩
  · rename_i d e
    obtain ⟨a, h1, h2, h3, h4, h5⟩ := S.own i d (slot_get e (by simp))
    exact ⟨_, h1, h _ H Ct.Ex.refl S (.inr ⟨a, rfl, fun t => h4 (S.inm a t), h5⟩)⟩
  · exact h.elim
theorem dv_int {i : Int} {k : Nat} : DV X C W (.Constant (.int i) k pos) (wC (.int i)) := ⟨pe_int.imp fun σ H Q ⟨M, r, E, S, hW, h⟩ => h _ H Ct.Ex.refl S (.int i), mono_c⟩
theorem dv_str {x : Str} {k : Nat} : DV X C W (.Constant (.str x) k pos) (wC (.str x)) := ⟨pe_str.imp fun σ H Q ⟨M, r, E, S, hW, h⟩ => h _ H Ct.Ex.refl S (.str x), mono_c⟩
theorem dv_bl {b : Bool} {k : Nat} : DV X C W (.Constant (.bool b) k pos) (wC (.bool b)) := ⟨pe_bl.imp fun σ H Q ⟨M, r, E, S, hW, h⟩ => h _ H Ct.Ex.refl S (.bl b), mono_c⟩
theorem dv_none {k : Nat} : DV X C W (.Constant .none k pos) (wC .none) := ⟨pe_non.imp fun σ H Q ⟨M, r, E, S, hW, h⟩ => h _ H Ct.Ex.refl S .non, mono_c⟩
def KC (C : Ct) (v : V) (d : D) : Prop := ∀ M H, C.Rp M H v d
theorem dv_glob {x : Str} {v : V} {u : Value} {d : D} (hk : KC C v d) (hg : Gl X x) (hm : X.mg x = some u) (r : RelV v u) (hd : (x == ("__debug__" : Str)) = false := by decide) : DV X C W (.Name x pos) (wC d) :=
  ⟨(pe_glob hg hm r hd).imp fun σ H Q ⟨M, r, E, S, hW, h⟩ => h _ H Ct.Ex.refl S (hk M H), mono_c⟩
def wNeg (ta : TP) : TP := fun r Q E => ta r (fun x => match x with
  | .int i => Q (.int (-i))
  | _ => False) E
theorem dv_neg {a : Expr} {ta : TP} (ha : DE X C W a ta) : DV X C W (.UnaryOp .USub a pos) (wNeg ta) := by
  refine ⟨(pe_un un_neg ha.pe).imp fun σ H Q ⟨M, r, E, S, hW, h⟩ => ⟨M, r, E, S, hW, ha.mo.imp (fun x q v H1 k S1 p => ?_) (fun _ z => z) h⟩, ⟨fun hq he h => ha.mo.imp (fun x q => ?_) he h⟩⟩
  · cases x with
    | int i => exact ⟨i, p.int, q _ _ k S1 (.int _)⟩
    | _ => exact q.elim
  · cases x with
    | int i => exact hq _ q
    | _ => exact q
abbrev TB := Env → (Bool → Prop) → (Addr → Prop) → Prop
structure MonoB (t : TB) : Prop where
  imp : ∀ {r : Env} {Q Q' : Bool → Prop} {E E' : Addr → Prop}, (∀ d, Q d → Q' d) → (∀ c, E c → E' c) → t r Q E → t r Q' E'
def lB (C : Ct) (W : XW) (t : TB) : TT := fun σ H Q => ∃ M r E, Sim C M r σ H ∧ Wish C W M r σ H E ∧ t r (fun d => ∀ H', C.Ex H H' → Sim C M r σ H' → Q d H') E
structure DT (X : Cx) (C : Ct) (W : XW) (e : Expr) (t : TB) : Prop where
  pt : PT X e (lB C W t)
  mo : MonoB t
structure DW (X : Cx) (C : Ct) (W : XW) (e : Expr) (t : TB) : Prop where
  pw : PW X e (lB C W t)
  mo : MonoB t
theorem _root_.L2.PW.imp {X : Cx} {e : Expr} {t t' : TT} (h : PW X e t) (hi : ∀ σ H Q, t' σ H Q → t σ H Q) : PW X e t' := ⟨fun wh pins s σ H Q I q => h.run wh pins s σ H Q I (hi _ _ _ q)⟩
theorem DW.t {e : Expr} {t : TB} (h : DW X C W e t) : DT X C W e t := ⟨h.pw.pt, h.mo⟩
variable {a b c : Expr} {ta tb tc : TP} {ba bb bc : TB} {rest : List Expr}
def bTest (t : TP) : TB := fun r Q E => t r (fun x => match x with
  | .bool k => Q k
  | _ => False) E
theorem mono_test {t : TP} (h : Mono t) : MonoB (bTest t) := ⟨fun hq he q => h.imp (fun x z => by
  cases x with
  | bool k => exact hq _ z
  | _ => exact z) he q⟩
theorem run_test {t : TP} (h : DE X C W a t) {σ : L2.St} {H : Hp} {Q : Bool → Hp → Prop} (q : lB C W (bTest t) σ H Q) : lP C W t σ H fun x H1 => ∃ k, x = .bl k ∧ Q k H1 := by
  obtain ⟨M, r, E, S, hW, q⟩ := q
  refine ⟨M, r, E, S, hW, h.mo.imp (fun x z v H1 k S1 p => ?_) (fun _ z => z) q⟩
  cases x with
  | bool k' => exact ⟨k', p.bl, z H1 k S1⟩
  | _ => exact z.elim
theorem dt_val {t : TP} (h : DE X C W a t) (he : ∀ whole, isTrue a X.env whole = (do let v ← whole; standAt a.pos; holding [v] (truthy v)) := by intro _; rfl) : DT X C W a (bTest t) :=
  ⟨(pt_val h.pe he).imp fun σ H Q q => run_test h q, mono_test h.mo⟩
theorem dt_cmp {op : CmpOp} {f : B2} (ho : Op2 X C (compareOp op) f) (ha : DE X C W a ta) (hb : DE X C W b tb) (hm : behindInMarks op b = false := by first | exact nomark _ (by decide) (by decide) | rfl) : DT X C W (.Compare a [op] [b] pos) (bTest (wOp2 f ta tb)) := by
  refine ⟨(pt_cmpR ho.ok ha.pe hb.pe hm).imp fun σ H Q q => ?_, mono_test (mono_op2 ho.mo ha.mo hb.mo)⟩
  obtain ⟨M, r, E, S, hW, q⟩ := q
  show tOp (rD2 C f) (lP C W ta) (lP C W tb) σ H fun x H' => ∃ k, x = .bl k ∧ Q k H'
  refine run_op2 ha hb ⟨M, r, E, S, hW, (mono_op2 ho.mo ha.mo hb.mo).imp (fun x z v H1 k S1 p => ?_) (fun _ z => z) q⟩ ho.mo
  cases x with
  | bool k' => exact ⟨k', (Rp.q p).bl, z H1 k S1⟩
  | _ => exact z.elim
def bNot (t : TB) : TB := fun r Q E => t r (fun k => Q (!k)) E
theorem dt_not (h : DT X C W a ba) : DT X C W (.UnaryOp .Not a pos) (bNot ba) :=
  ⟨(pt_not h.pt).imp fun σ H Q ⟨M, r, E, S, hW, q⟩ => ⟨M, r, E, S, hW, q⟩, ⟨fun hq he q => h.mo.imp (fun _ z => hq _ z) he q⟩⟩
def bAnd (t u : TB) : TB := fun r Q E => t r (fun k => if k = true then u r Q E else Q false) E
def bOr (t u : TB) : TB := fun r Q E => t r (fun k => if k = true then Q true else u r Q E) E
theorem mono_and (h : MonoB ba) (h' : MonoB bb) : MonoB (bAnd ba bb) := ⟨fun hq he q => h.imp (fun k z => by
  cases k with
  | true => exact h'.imp hq he z
  | false => exact hq _ z) he q⟩
theorem mono_or (h : MonoB ba) (h' : MonoB bb) : MonoB (bOr ba bb) := ⟨fun hq he q => h.imp (fun k z => by
  cases k with
  | true => exact hq _ z
  | false => exact h'.imp hq he z) he q⟩
theorem dw_and1 (h : DT X C W a ba) : DW X C W (.BoolOp .And [a] pos) ba := ⟨pw_and1 h.pt, h.mo⟩
theorem dw_or1 (h : DT X C W a ba) : DW X C W (.BoolOp .Or [a] pos) ba := ⟨pw_or1 h.pt, h.mo⟩
theorem dw_and (h : DT X C W a ba) (h' : DW X C W (.BoolOp .And (b :: rest) pos) bb) : DW X C W (.BoolOp .And (a :: b :: rest) pos) (bAnd ba bb) := by
  refine ⟨(pw_and h.pt h'.pw).imp fun σ H Q ⟨M, r, E, S, hW, q⟩ => ⟨M, r, E, S, hW, h.mo.imp (fun k z H1 x S1 => ?_) (fun _ z => z) q⟩, mono_and h.mo h'.mo⟩
  cases k with
  | true => exact ⟨M, r, E, S1, hW.mono x, h'.mo.imp (fun k' y H2 x2 S2 => y H2 (x.trans x2) S2) (fun _ z => z) z⟩
  | false => exact z H1 x S1
theorem dw_or (h : DT X C W a ba) (h' : DW X C W (.BoolOp .Or (b :: rest) pos) bb) : DW X C W (.BoolOp .Or (a :: b :: rest) pos) (bOr ba bb) := by
  refine ⟨(pw_or h.pt h'.pw).imp fun σ H Q ⟨M, r, E, S, hW, q⟩ => ⟨M, r, E, S, hW, h.mo.imp (fun k z H1 x S1 => ?_) (fun _ z => z) q⟩, mono_or h.mo h'.mo⟩
  cases k with
  | true => exact z H1 x S1
  | false => exact ⟨M, r, E, S1, hW.mono x, h'.mo.imp (fun k' y H2 x2 S2 => y H2 (x.trans x2) S2) (fun _ z => z) z⟩
def wAnd (t u : TP) : TP := fun r Q E => t r (fun x => match x with
  | .bool k => if k = true then u r Q E else Q (.bool false)
  | _ => False) E
def wOr (t u : TP) : TP := fun r Q E => t r (fun x => match x with
  | .bool k => if k = true then Q (.bool true) else u r Q E
  | _ => False) E
def wNot (t : TP) : TP := fun r Q E => t r (fun x => match x with
  | .bool k => Q (.bool (!k))
  | _ => False) E
theorem mono_wand (h : Mono ta) (h' : Mono tb) : Mono (wAnd ta tb) := ⟨fun hq he q => h.imp (fun x z => by
  cases x with
  | bool k =>
    cases k with
    | true => exact h'.imp hq he z
    | false => exact hq _ z
  | _ => exact z) he q⟩
theorem mono_wor (h : Mono ta) (h' : Mono tb) : Mono (wOr ta tb) := ⟨fun hq he q => h.imp (fun x z => by
  cases x with
  | bool k =>
    cases k with
    | true => exact hq _ z
    | false => exact h'.imp hq he z
  | _ => exact z) he q⟩
theorem dv_one {op : BoolOp} (h : DV X C W a ta) : DV X C W (.BoolOp op [a] pos) ta := ⟨pe_one h.pe, h.mo⟩
theorem dv_and (h : DE X C W a ta) (h' : DV X C W (.BoolOp .And (b :: rest) pos) tb) : DV X C W (.BoolOp .And (a :: b :: rest) pos) (wAnd ta tb) := by
  refine ⟨(pe_and h.pe h'.pe).imp fun σ H Q ⟨M, r, E, S, hW, q⟩ => ⟨M, r, E, S, hW, h.mo.imp (fun x z v H1 k S1 p => ?_) (fun _ z => z) q⟩, mono_wand h.mo h'.mo⟩
  cases x with
  | bool k' =>
    refine ⟨k', p.bl, ?_⟩
    cases k' with
    | true => exact ⟨M, r, E, S1, hW.mono k, h'.mo.imp (fun d y v2 H2 k2 S2 p2 => y v2 H2 (k.trans k2) S2 p2) (fun _ z => z) z⟩
    | false => exact z _ H1 k S1 (.bl false)
  | _ => exact z.elim
theorem dv_or (h : DE X C W a ta) (h' : DV X C W (.BoolOp .Or (b :: rest) pos) tb) : DV X C W (.BoolOp .Or (a :: b :: rest) pos) (wOr ta tb) := by
  refine ⟨(pe_or h.pe h'.pe).imp fun σ H Q ⟨M, r, E, S, hW, q⟩ => ⟨M, r, E, S, hW, h.mo.imp (fun x z v H1 k S1 p => ?_) (fun _ z => z) q⟩, mono_wor h.mo h'.mo⟩
  cases x with
  | bool k' =>
    refine ⟨k', p.bl, ?_⟩
    cases k' with
    | true => exact z _ H1 k S1 (.bl true)
    | false => exact ⟨M, r, E, S1, hW.mono k, h'.mo.imp (fun d y v2 H2 k2 S2 p2 => y v2 H2 (k.trans k2) S2 p2) (fun _ z => z) z⟩
  | _ => exact z.elim
theorem dv_not (h : DE X C W a ta) : DV X C W (.UnaryOp .Not a pos) (wNot ta) := by
  refine ⟨(pe_not h.pe).imp fun σ H Q ⟨M, r, E, S, hW, q⟩ => ⟨M, r, E, S, hW, h.mo.imp (fun x z v H1 k S1 p => ?_) (fun _ z => z) q⟩, ⟨fun hq he q => h.mo.imp (fun x z => ?_) he q⟩⟩
  · cases x with
    | bool k' => exact ⟨k', p.bl, z _ H1 k S1 (.bl _)⟩
    | _ => exact z.elim
  · cases x with
    | bool k => exact hq _ z
    | _ => exact z
def wIf (t : TB) (u v : TP) : TP := fun r Q E => t r (fun k => if k = true then u r Q E else v r Q E) E
theorem mono_if (h : MonoB ba) (h1 : Mono ta) (h2 : Mono tb) : Mono (wIf ba ta tb) := ⟨fun hq he q => h.imp (fun k z => by
  cases k with
  | true => exact h1.imp hq he z
  | false => exact h2.imp hq he z) he q⟩
theorem dv_if (h : DT X C W c ba) (h1 : DV X C W a ta) (h2 : DV X C W b tb) : DV X C W (.IfExp c a b pos) (wIf ba ta tb) := by
  refine ⟨(pe_ifExp h.pt h1.pe h2.pe).imp fun σ H Q ⟨M, r, E, S, hW, q⟩ => ⟨M, r, E, S, hW, h.mo.imp (fun k z H1 x S1 => ?_) (fun _ z => z) q⟩, mono_if h.mo h1.mo h2.mo⟩
  cases k with
  | true => exact ⟨M, r, E, S1, hW.mono x, h1.mo.imp (fun d y v2 H2 k2 S2 p2 => y v2 H2 (x.trans k2) S2 p2) (fun _ z => z) z⟩
  | false => exact ⟨M, r, E, S1, hW.mono x, h2.mo.imp (fun d y v2 H2 k2 S2 p2 => y v2 H2 (x.trans k2) S2 p2) (fun _ z => z) z⟩
theorem run_chain {f g : B2} (ha : DE X C W a ta) (hb : DE X C W b tb) (hc : DE X C W c tc) (hf : Mo2 f) (hg : Mo2 g) {σ : L2.St} {H : Hp} {Q : VK} (q : lV C W (wChain f g ta tb tc) σ H Q) :
    tChain (rD2 C f) (rD2 C g) (lP C W ta) (lP C W tb) (lP C W tc) σ H Q := by
  obtain ⟨M, r, E, S, hW, q⟩ := q
  refine ⟨M, r, E, S, hW, ha.mo.imp (fun x q1 v1 H1 k1 S1 p1 => ⟨M, r, E, S1, hW.mono k1, hb.mo.imp (fun y q2 v2 H2 k2 S2 p2 => ?_) (fun _ z => z) q1⟩) (fun _ z => z) q⟩
  refine ⟨M, x, y, S1.rq k2 p1, p2, S2.dom, hf.imp (fun d z v H3 s p => ?_) q2⟩
  have S3 := S2.same s
  cases d with
  | bool k =>
    refine ⟨k, (Rp.q (C := C) p).bl, ?_⟩
    cases k with
    | true => exact ⟨M, r, E, S3, hW.mono (k1.trans (k2.trans (Same.ex s))), hc.mo.imp (fun u q4 v4 H4 k4 S4 p4 => ⟨M, y, u, S3.rq k4 (S2.rq (Same.ex s) p2), p4, S4.dom, hg.imp (fun d z v H5 s5 p5 => z v H5 (k1.trans (k2.trans ((Same.ex s).trans (k4.trans (Same.ex s5))))) (S4.same s5) p5) q4⟩) (fun _ z => z) z⟩
    | false => exact z _ H3 (k1.trans (k2.trans (Same.ex s))) S3 (.bl false)
  | _ => exact z.elim
end
end HC
namespace HC
open PySem PySem.Spec PyProof.Rows L2
structure Good (X : Cx) (C : Ct) (W : XW) (k : Nat) : Prop where
  fit : Fit X C
  calm : X.calm = true
  room : Room k X.A
  pass : ∀ σ, PassesAt (L2.CX X.prog X.w) X σ (W σ)
  own : PassesOwn (model X.prog X.w) X.A X.env X.xe
  nd : X.N.Nodup
theorem Good.hu {X : Cx} {C : Ct} {W : XW} {k : Nat} (G : Good X C W k) : X.A.units + 64 < cLine := G.room.units
theorem Good.hu65 {X : Cx} {C : Ct} {W : XW} {k : Nat} (G : Good X C W k) : X.A.units + 65 < cLine := by have := G.room.un; omega
theorem Good.hu1 {X : Cx} {C : Ct} {W : XW} {k : Nat} (G : Good X C W k) : X.A.units + 1 < cLine := by have := G.room.un; omega
abbrev TPA := Env → (List D → Prop) → (Addr → Prop) → Prop
inductive RqA (C : Ct) (M : Addr → Prop) (H : Hp) : List V → List D → Prop
  | nil : RqA C M H [] []
  | cons {v : V} {vs : List V} {d : D} {ds : List D} : C.Rq M H v d → RqA C M H vs ds → RqA C M H (v :: vs) (d :: ds)
def lAq (C : Ct) (W : XW) (t : TPA) : TA := fun σ H Q => ∃ M r E, Sim C M r σ H ∧ Wish C W M r σ H E ∧ t r (fun ds => ∀ vs H', C.Ex H H' → Sim C M r σ H' → RqA C M H' vs ds → Q vs H') E
def lAv (C : Ct) (W : XW) (t : TPA) : TA := fun σ H Q => ∃ M r E, Sim C M r σ H ∧ Wish C W M r σ H E ∧ t r (fun ds => ∀ vs H', C.Ex H H' → Sim C M r σ H' → C.RpA M H' vs ds → Q vs H') E
structure MonoA (n : Nat) (t : TPA) : Prop where
  imp : ∀ {r : Env} {Q Q' : List D → Prop} {E E' : Addr → Prop}, (∀ d, d.length = n → Q d → Q' d) → (∀ c, E c → E' c) → t r Q E → t r Q' E'
structure DAq (X : Cx) (C : Ct) (W : XW) (es : List Expr) (t : TPA) : Prop where
  pa : PA X es (lAq C W t)
  mo : MonoA es.length t
structure DAv (X : Cx) (C : Ct) (W : XW) (es : List Expr) (t : TPA) : Prop where
  pa : PA X es (lAv C W t)
  mo : MonoA es.length t
def wNil : TPA := fun _ Q _ => Q []
def wCons (t : TP) (u : TPA) : TPA := fun r Q E => t r (fun x => u r (fun xs => Q (x :: xs)) E) E
section
variable {X : Cx} {C : Ct} {W : XW} {e : Expr} {es : List Expr} {t : TP} {u : TPA} {pos : Pos} {k : Nat}
theorem monoA_nil : MonoA 0 wNil := ⟨fun hq _ h => hq _ rfl h⟩
theorem monoA_cons {n : Nat} (h : Mono t) (h' : MonoA n u) : MonoA (n + 1) (wCons t u) := ⟨fun hq he q => h.imp (fun x z => h'.imp (fun xs hl y => hq _ (by rw [List.length_cons, hl]) y) he z) he q⟩
theorem daq_nil : DAq X C W [] wNil := ⟨pa_nil.imp fun σ H Q ⟨M, r, E, S, hW, q⟩ => q [] H Ct.Ex.refl S .nil, monoA_nil⟩
theorem dav_nil : DAv X C W [] wNil := ⟨pa_nil.imp fun σ H Q ⟨M, r, E, S, hW, q⟩ => q [] H Ct.Ex.refl S .nil, monoA_nil⟩
theorem daq_cons (h : DE X C W e t) (h' : DAq X C W es u) (hs : starEach (e :: es) X.env = (false, eval e X.env) :: starEach es X.env := by rfl) : DAq X C W (e :: es) (wCons t u) := by
  refine ⟨(pa_cons h.pe h'.pa hs).imp fun σ H Q ⟨M, r, E, S, hW, q⟩ => ⟨M, r, E, S, hW, h.mo.imp (fun x z v H1 k1 S1 p1 => ⟨M, r, E, S1, hW.mono k1, h'.mo.imp (fun xs _ y vs H2 k2 S2 p2 => ?_) (fun _ z => z) z⟩) (fun _ z => z) q⟩, monoA_cons h.mo h'.mo⟩
  exact y _ H2 (k1.trans k2) S2 (.cons (S1.rq k2 p1) p2)
theorem dav_cons (h : DV X C W e t) (h' : DAv X C W es u) (hs : starEach (e :: es) X.env = (false, eval e X.env) :: starEach es X.env := by rfl) : DAv X C W (e :: es) (wCons t u) := by
  refine ⟨(pa_cons h.pe h'.pa hs).imp fun σ H Q ⟨M, r, E, S, hW, q⟩ => ⟨M, r, E, S, hW, h.mo.imp (fun x z v H1 k1 S1 p1 => ⟨M, r, E, S1, hW.mono k1, h'.mo.imp (fun xs _ y vs H2 k2 S2 p2 => ?_) (fun _ z => z) z⟩) (fun _ z => z) q⟩, monoA_cons h.mo h'.mo⟩
  exact y _ H2 (k1.trans k2) S2 (.cons (S1.rp k2 p1) p2)
def wTup (u : TPA) : TP := fun r Q E => u r (fun ds => Q (.tuple ds)) E
def wLst (u : TPA) : TP := fun r Q E => u r (fun ds => Q (.list ds)) E
theorem le1000 {n : Nat} (h : n ≤ 1000) : n ≤ sizeLine := Nat.le_of_lt (small1000 h)
theorem dv_tup {x1 : Nat} (h : DAv X C W es u) (hl : es.length ≤ 1000 := by decide) : DV X C W (.Tuple es x1 pos) (wTup u) := by
  refine ⟨(pe_tup h.pa).imp fun σ H Q ⟨M, r, E, S, hW, q⟩ => ⟨M, r, E, S, hW, h.mo.imp (fun ds hd z vs H1 k1 S1 p1 => ⟨le1000 (by rw [HC.RpA.length p1, hd]; exact hl), fun p hp => ?_⟩) (fun _ z => z) q⟩, ⟨fun hq he q => h.mo.imp (fun _ _ z => hq _ z) he q⟩⟩
  exact z _ _ (k1.trans (Same.ex (same_upd hp))) (S1.same (same_upd hp)) (.tup (S1.fresh hp) upd_same (HC.RpA.step (Stp.grow (same_upd hp)) p1))
def fIxS : B2
  | .list ds, .int i, Q => ∃ d, atI ds i = some d ∧ Q d
  | .tuple ds, .int i, Q => ∃ d, atI ds i = some d ∧ Q d
  | .str z, .int i, Q => ∃ c, z.length ≤ sizeLine ∧ atI z.cps.toList i = some c ∧ Q (.str ⟨#[c]⟩)
  | _, _, _ => False
theorem mo_ixS : Mo2 fIxS := by
  refine ⟨fun {x y Q Q'} hq h => ?_⟩
  unfold fIxS at h ⊢
  split at h
  · exact let ⟨d, e, q⟩ := h; ⟨d, e, hq _ q⟩
  · exact let ⟨d, e, q⟩ := h; ⟨d, e, hq _ q⟩
  · exact let ⟨d, l, e, q⟩ := h; ⟨d, l, e, hq _ q⟩
  · exact h
theorem ix_S (F : Fit X C) : IxR X (rD2 C fIxS) := by
  refine fit_cases (X := X) (motive := fun C => IxR X (rD2 C fIxS)) (fun T M0 H0 => ?_) C F
  intro value slice pins s σ H x y v uu Q I rx ry ⟨M, d1, d2, r1, r2, dm, h⟩ hs
  refine ix_seq value slice pins s σ H x y v uu Q I rx ry ?_ hs
  unfold fIxS at h
  split at h
  · obtain ⟨d, e, h⟩ := h
    obtain ⟨a, xs, rfl, e1, p1⟩ := r1.lst
    obtain ⟨v, e2, p2⟩ := HC.RpA.at p1 e
    exact .inl ⟨a, xs, _, v, rfl, r2.int, SqL.of e1, e2, h _ _ Same.refl' p2⟩
  · obtain ⟨d, e, h⟩ := h
    obtain ⟨a, xs, rfl, e1, p1⟩ := r1.tup
    obtain ⟨v, e2, p2⟩ := HC.RpA.at p1 e
    exact .inr (.inl ⟨a, xs, _, v, rfl, r2.int, e1, e2, h _ _ Same.refl' p2⟩)
  · obtain ⟨c, hl, e, h⟩ := h
    exact .inr (.inr ⟨_, _, c, r1.str, r2.int, hl, e, h _ _ Same.refl' (.str _)⟩)
  · exact h.elim
abbrev TPO := Env → (Option Int → Prop) → (Addr → Prop) → Prop
def lO (C : Ct) (W : XW) (t : TPO) : TO := fun σ H Q => ∃ M r E, Sim C M r σ H ∧ Wish C W M r σ H E ∧ t r (fun o => ∀ H', C.Ex H H' → Sim C M r σ H' → Q o H') E
structure MonoO (t : TPO) : Prop where
  imp : ∀ {r : Env} {Q Q' : Option Int → Prop} {E E' : Addr → Prop}, (∀ d, Q d → Q' d) → (∀ c, E c → E' c) → t r Q E → t r Q' E'
structure DO (X : Cx) (C : Ct) (W : XW) (e : Option Expr) (t : TPO) : Prop where
  po : PO X e (lO C W t)
  mo : MonoO t
theorem _root_.L2.PO.imp {X : Cx} {e : Option Expr} {t t' : TO} (h : PO X e t) (hi : ∀ σ H Q, t' σ H Q → t σ H Q) : PO X e t' := ⟨fun pins s σ H Q I q => h.run pins s σ H Q I (hi _ _ _ q)⟩
def wNoPart : TPO := fun _ Q _ => Q none
def wPart (t : TP) : TPO := fun r Q E => t r (fun x => match x with
  | .int i => Q (some i)
  | _ => False) E
theorem do_none : DO X C W none wNoPart := ⟨po_none.imp fun σ H Q ⟨M, r, E, S, hW, q⟩ => q H Ct.Ex.refl S, ⟨fun hq _ h => hq _ h⟩⟩
theorem do_some (h : DE X C W e t) : DO X C W (some e) (wPart t) := by
  refine ⟨(po_some h.pe).imp fun σ H Q ⟨M, r, E, S, hW, q⟩ => ⟨M, r, E, S, hW, h.mo.imp (fun x z v H1 k1 S1 p1 => ?_) (fun _ z => z) q⟩, ⟨fun hq he q => h.mo.imp (fun x z => ?_) he q⟩⟩
  · cases x with
    | int i => exact ⟨i, p1.int, z H1 k1 S1⟩
    | _ => exact z.elim
  · cases x with
    | int i => exact hq _ z
    | _ => exact z
def fSl : D → Option Int → Option Int → (D → Prop) → Prop
  | .list ds, lo, hi, Q => Q (.list (cutL ds lo hi))
  | .tuple ds, lo, hi, Q => Q (.tuple (cutL ds lo hi))
  | _, _, _, _ => False
theorem cutL_all {α : Type} (xs : List α) (lo hi : Option Int) (h : HT.sIx xs.length 0 lo = 0 ∧ HT.sIx xs.length xs.length hi = xs.length) : cutL xs lo hi = xs := by
  unfold cutL
  rw [h.1, h.2]
  show List.take (xs.length - 0) (List.drop 0 xs) = xs
  simp
def wSl (t : TP) (lo hi : TPO) : TP := fun r Q E => t r (fun x => lo r (fun a => hi r (fun b => fSl x a b Q) E) E) E
theorem mo_sl {x : D} {a b : Option Int} {Q Q' : D → Prop} (hq : ∀ d, Q d → Q' d) (h : fSl x a b Q) : fSl x a b Q' := by
  unfold fSl at h ⊢
  split at h <;> first | exact hq _ h | exact h
def rDSl (C : Ct) : V → Option Int → Option Int → Hp → VK → Prop := fun x lo hi H Q => ∃ M d1, C.Rq M H x d1 ∧ Dom M H ∧ fSl d1 lo hi fun d => ∀ v H', Same H H' → C.Rp M H' v d → Q v H'
theorem sl_D (F : Fit X C) : SlR X (rDSl C) := by
  refine fit_cases (X := X) (motive := fun C => SlR X (rDSl C)) (fun T M0 H0 => ?_) C F
  intro pins s σ H x v vl vu lo hi sl Q I rx hs pl pu ⟨M, d1, r1, dm, h⟩
  unfold fSl at h
  split at h
  · obtain ⟨a, xs, rfl, e1, p1⟩ := r1.lst
    refine sl_list pins s σ H _ v vl vu _ _ sl Q I rx hs pl pu ⟨a, xs, rfl, SqL.of e1, fun p hp => h _ _ (same_upd hp) (.lst (dm.fresh hp) upd_same ?_)⟩
    exact (HC.RpA.cut p1 _ _).step (Stp.grow (same_upd hp))
  · obtain ⟨a, xs, rfl, e1, p1⟩ := r1.tup
    refine sl_tupA pins s σ H _ v vl vu _ _ sl Q I rx hs pl pu ⟨a, xs, rfl, e1, fun hw => ?_, fun _ p hp => h _ _ (same_upd hp) (.tup (dm.fresh hp) upd_same ((HC.RpA.cut p1 _ _).step (Stp.grow (same_upd hp))))⟩
    rw [HC.RpA.length p1] at hw
    rw [cutL_all _ _ _ hw] at h
    exact h _ _ Same.refl' r1.tupRp
  · exact h.elim
theorem dv_slice {lo hi : Option Expr} {tl th : TPO} {p2 : Pos} (F : Fit X C) (he : DE X C W e t) (hl : DO X C W lo tl) (hh : DO X C W hi th) : DV X C W (.Subscript e (.Slice lo hi none p2) pos) (wSl t tl th) := by
  refine ⟨(pe_slice (sl_D F) he.pe hl.po hh.po).imp fun σ H Q ⟨M, r, E, S, hW, q⟩ => ⟨M, r, E, S, hW, he.mo.imp (fun x z v H1 k1 S1 p1 => ⟨M, r, E, S1, hW.mono k1, hl.mo.imp (fun a y H2 k2 S2 => ⟨M, r, E, S2, hW.mono (k1.trans k2), hh.mo.imp (fun b y2 H3 k3 S3 => ?_) (fun _ z => z) y⟩) (fun _ z => z) z⟩) (fun _ z => z) q⟩,
    ⟨fun hq he' q => he.mo.imp (fun x z => hl.mo.imp (fun a y => hh.mo.imp (fun b y2 => mo_sl hq y2) he' y) he' z) he' q⟩⟩
  exact ⟨M, x, S2.rq k3 (S1.rq k2 p1), S3.dom, mo_sl (fun d w v H4 s p => w v H4 (k1.trans (k2.trans (k3.trans (Same.ex s)))) (S3.same s) p) y2⟩
end
abbrev SpD := List D → (D → Prop) → (Addr → Prop) → Prop
structure MonoSp (n : Nat) (sp : SpD) : Prop where
  imp : ∀ {ds : List D} {Q Q' : D → Prop} {E E' : Addr → Prop}, (∀ d, Q d → Q' d) → (∀ c, E c → E' c) → sp ds Q E → sp ds Q' E'
  len : ∀ {ds : List D} {Q : D → Prop} {E : Addr → Prop}, sp ds Q E → ds.length = n
def lSp (K : PySem.W.Frag) (P : Program) (w : World) (sp : SpD) : Sp := fun vs H Q E => ∃ M ds, Dom M H ∧ RpA K P w M H vs ds ∧
  sp ds (fun d => ∀ v H', Same H H' → Rp K P w M H' v d → Q v H') fun c => ∀ H', Same H H' → E (.ref c) Option.none H'
def lSpT (K : PySem.W.Frag) (P : Program) (w : World) (sp : SpD) : Sp := fun vs H Q E => ∃ M g n us ds, vs = .ref g :: us ∧ Dom M H ∧ M g ∧ M n ∧ DrawsOk H g n ∧ RpA K P w M H us ds ∧
  sp ds (fun d => ∀ v H', (∀ a o, a ≠ g → a ≠ n → H a = some o → H' a = some o) → DrawsOk H' g n → Rp K P w M H' v d → Q v H')
    fun c => ∀ H', (∀ a o, a ≠ g → a ≠ n → H a = some o → H' a = some o) → DrawsOk H' g n → E (.ref c) Option.none H'
structure FnD (P : Program) (w : World) (K : PySem.W.Frag) (mg : Str → Option Value) (base : Heap) (k : Nat) (x : Str) (n : Nat) (sp : SpD) : Prop where
  ex : ∃ (f : Addr) (fd : FuncData) (ps : List Str), FnOk P w K mg base (L2.CX P w) k f fd ps (lSp K P w sp) ∧ mg x = some (.ref f) ∧ PySem.W.keepIn K (.ref f) = true ∧ Binds K fd ps []
  mo : MonoSp n sp
structure FnT (P : Program) (w : World) (K : PySem.W.Frag) (mg : Str → Option Value) (base : Heap) (k : Nat) (x : Str) (n : Nat) (sp : SpD) : Prop where
  ex : ∃ (f : Addr) (fd : FuncData) (ps : List Str), FnOk P w K mg base (L2.CX P w) k f fd ps (lSpT K P w sp) ∧ mg x = some (.ref f) ∧ PySem.W.keepIn K (.ref f) = true ∧ Binds K fd ps []
  mo : MonoSp n sp
def wCall (sp : SpD) (u : TPA) : TP := fun r Q E => u r (fun ds => sp ds Q E) E
def wCallT (i : Nat) (sp : SpD) (u : TPA) : TP := fun r Q E => match slot r i with
  | .tok => u r (fun ds => sp ds Q E) E
  | _ => False
section
variable {X : Cx} {C : Ct} {W : XW} {e : Expr} {es : List Expr} {t : TP} {u : TPA} {pos p : Pos} {k j n : Nat} {x : Str} {sp : SpD}
theorem mono_call {m : Nat} (hu : MonoA m u) (hs : MonoSp n sp) : Mono (wCall sp u) := ⟨fun hq he q => hu.imp (fun ds _ z => hs.imp hq he z) he q⟩
theorem dv_call (G : Good X C W k) (F : FnD X.prog X.w X.K X.mg X.base j x n sp) (ha : DAv X C W (e :: es) u) (hj : j ≤ k := by decide) (hg : Gl X x := by rfl) (hdb : (x == ("__debug__" : Str)) = false := by decide)
    (he : starEach (e :: es) X.env = (false, eval e X.env) :: starEach es X.env := by rfl) (hpl : (backTo pos (starEach es X.env)).any (·.1) = false := by rfl) : DV X C W (.Call (.Name x p) (e :: es) [] pos) (wCall sp u) := by
  refine ⟨?_, mono_call ha.mo F.mo⟩
  obtain ⟨f, fd, ps, hF, hm, hk, hb⟩ := F.ex
  refine (pe_callS (E := W) hF (G.room.mono hj) hg hm hk hb G.pass ha.pa hdb he hpl).imp fun σ H Q ⟨M, r, E, S, hW, q⟩ => ⟨M, r, E, S, hW, ha.mo.imp (fun ds _ z vs H1 k1 S1 p1 => ?_) (fun _ z => z) q⟩
  have fit := G.fit
  obtain ⟨K, P, w, T, M0, H0⟩ := C
  obtain ⟨a, b, c⟩ := fit
  cases a; cases b; cases c
  exact ⟨M, ds, S1.dom, p1, F.mo.imp (fun d y v H2 s p2 => y v H2 (k1.trans (Same.ex s)) (S1.same s) p2) (fun c y H2 s => hW c H2 (k1.trans (Same.ex s)) (S1.same s) y) z⟩
theorem mono_callT {i m : Nat} (hu : MonoA m u) (hs : MonoSp n sp) : Mono (wCallT i sp u) := ⟨fun {r Q Q' E E'} hq he q => by
  unfold wCallT at q ⊢
  split at q
  · exact hu.imp (fun ds _ z => hs.imp hq he z) he q
  · exact q⟩
theorem dv_callT (i : Nat) {y : Str} {py : Pos} (G : Good X C W k) (F : FnT X.prog X.w X.K X.mg X.base j x n sp) (ha : DAv X C W es u) (hj : j ≤ k := by decide) (hN : X.N[i]? = some y := by rfl)
    (hv : Vis X.env.scope y := by first | exact Or.inl rfl | exact Or.inr (Or.inl rfl) | exact Or.inr (Or.inr rfl)) (hg : Gl X x := by rfl) (hdb : (x == ("__debug__" : Str)) = false := by decide)
    (he : starEach (.Name y py :: es) X.env = (false, eval (.Name y py) X.env) :: starEach es X.env := by rfl) (hpl : (backTo pos (starEach es X.env)).any (·.1) = false := by rfl)
    (hd : (y == ("__debug__" : Str)) = false := by decide) (hcd : (y == ("__classdict__" : Str)) = false := by decide) : DV X C W (.Call (.Name x p) (.Name y py :: es) [] pos) (wCallT i sp u) := by
  refine ⟨?_, mono_callT ha.mo F.mo⟩
  obtain ⟨f, fd, ps, hF, hm, hk, hb⟩ := F.ex
  refine (pe_callS (E := W) hF (G.room.mono hj) hg hm hk hb G.pass (pa_cons (pe_var (i := i) hN hv hd hcd) ha.pa he) hdb he hpl).imp fun σ H Q ⟨M, r, E, S, hW, q⟩ => ?_
  unfold wCallT at q
  split at q
  · rename_i et
    obtain ⟨g, nn, hT, eg⟩ := S.tk i (slot_get et (by simp))
    refine ⟨_, eg, M, r, E, S, hW, ha.mo.imp (fun ds _ z vs H1 k1 S1 p1 => ?_) (fun _ z => z) q⟩
    have fit := G.fit
    obtain ⟨K, P, w, T, M0, H0⟩ := C
    obtain ⟨a, b, c⟩ := fit
    cases a; cases b; cases c
    have hT : T = some (.dr g nn) := hT
    subst hT
    have tk : DrawsOk H1 g nn := S1.base.tok
    have inG : ∀ a : Addr, (Ct.mk X.K X.prog X.w (some (.dr g nn)) M0 H0).inT a ↔ (a = g ∨ a = nn) := fun a => Iff.rfl
    have ex : ∀ H2 : Hp, (∀ a o, a ≠ g → a ≠ nn → H1 a = some o → H2 a = some o) → (Ct.mk X.K X.prog X.w (some (.dr g nn)) M0 H0).Ex H1 H2 := fun H2 h a o na q => h a o (fun z => na (.inl z)) (fun z => na (.inr z)) q
    refine ⟨M, g, nn, vs, ds, rfl, S1.dom, S1.tm (.inl rfl), S1.tm (.inr rfl), tk, p1, F.mo.imp (fun d y v H2 s t2 p2 => ?_) (fun c y H2 s t2 => ?_) z⟩
    · exact y v H2 (k1.trans (ex H2 s)) (S1.grow (ex H2 s) t2) p2
    · exact hW c H2 (k1.trans (ex H2 s)) (S1.grow (ex H2 s) t2) y
  · exact q.elim
abbrev Bn := List D → (D → Prop) → Prop
structure MoB (g : Bn) : Prop where
  imp : ∀ {ds : List D} {Q Q' : D → Prop}, (∀ d, Q d → Q' d) → g ds Q → g ds Q'
def rDn (C : Ct) (g : Bn) : List V → Hp → VK → Prop := fun xs H Q => ∃ M ds, RqA C M H xs ds ∧ Dom M H ∧ g ds fun d => ∀ v H', Same H H' → C.Rp M H' v d → Q v H'
structure Blt (X : Cx) (C : Ct) (f : Value) (g : Bn) : Prop where
  ok : CallR X f (rDn C g)
  mo : MoB g
def wB (g : Bn) (u : TPA) : TP := fun r Q E => u r (fun ds => g ds Q) E
theorem mono_b {m : Nat} {g : Bn} (hu : MonoA m u) (hg : MoB g) : Mono (wB g u) := ⟨fun hq he q => hu.imp (fun ds _ z => hg.imp hq z) he q⟩
theorem run_b {g : Bn} (ha : DAq X C W es u) (hg : MoB g) {σ : L2.St} {H : Hp} {Q : VK} (q : lV C W (wB g u) σ H Q) : lAq C W u σ H fun vs H1 => rDn C g vs H1 Q := by
  obtain ⟨M, r, E, S, hW, q⟩ := q
  exact ⟨M, r, E, S, hW, ha.mo.imp (fun ds _ z vs H1 k1 S1 p1 => ⟨M, ds, p1, S1.dom, hg.imp (fun d y v H2 s p => y v H2 (k1.trans (Same.ex s)) (S1.same s) p) z⟩) (fun _ z => z) q⟩
theorem dv_callB {id : String} {g : Bn} (hc : Blt X C (.builtin id) g) (ha : DAq X C W (e :: es) u) (hm : X.mg x = none) (hv : bootBuiltins x = some (.builtin id)) (hg : Gl X x := by rfl) (hn : x ≠ "__name__" := by decide) (hdb : (x == ("__debug__" : Str)) = false := by decide)
    (he : starEach (e :: es) X.env = (false, eval e X.env) :: starEach es X.env := by rfl) (hpl : (backTo pos (starEach es X.env)).any (·.1) = false := by rfl) : DV X C W (.Call (.Name x p) (e :: es) [] pos) (wB g u) :=
  ⟨(pe_callB hc.ok hg hm hv ha.pa hn hdb he hpl).imp fun σ H Q q => run_b ha hc.mo q, mono_b ha.mo hc.mo⟩
theorem dv_callTy {T : String} {g : Bn} (hc : Blt X C (.type T) g) (ha : DAq X C W (e :: es) u) (hm : X.mg x = none) (hv : bootBuiltins x = some (.type T)) (hg : Gl X x := by rfl) (hn : x ≠ "__name__" := by decide) (hdb : (x == ("__debug__" : Str)) = false := by decide)
    (he : starEach (e :: es) X.env = (false, eval e X.env) :: starEach es X.env := by rfl) (hpl : (backTo pos (starEach es X.env)).any (·.1) = false := by rfl) : DV X C W (.Call (.Name x p) (e :: es) [] pos) (wB g u) :=
  ⟨(pe_callTy hc.ok hg hm hv ha.pa hn hdb he hpl).imp fun σ H Q q => run_b ha hc.mo q, mono_b ha.mo hc.mo⟩
theorem rq1 {M : Addr → Prop} {H : Hp} {vs : List V} {d : D} (h : RqA C M H vs [d]) : ∃ v, vs = [v] ∧ C.Rq M H v d := by
  cases h with
  | cons a b => cases b; exact ⟨_, rfl, a⟩
theorem rq2 {M : Addr → Prop} {H : Hp} {vs : List V} {d d' : D} (h : RqA C M H vs [d, d']) : ∃ v v', vs = [v, v'] ∧ C.Rq M H v d ∧ C.Rq M H v' d' := by
  cases h with
  | cons a b =>
    obtain ⟨v, rfl, q⟩ := rq1 b
    exact ⟨_, v, rfl, a, q⟩
def gLenS : Bn
  | [.list ds], Q => Q (.int ds.length)
  | [.tuple ds], Q => Q (.int ds.length)
  | [.str z], Q => z.length ≤ sizeLine ∧ Q (.int z.length)
  | _, _ => False
theorem b_lenS (F : Fit X C) : Blt X C (.builtin "len") gLenS := by
  refine ⟨?_, ⟨fun {ds Q Q'} hq h => ?_⟩⟩
  · refine fit_cases (X := X) (motive := fun C => CallR X (.builtin "len") (rDn C gLenS)) (fun T M0 H0 => ?_) C F
    refine (call_len_seq.or call_len_str).imp fun xs H Q ⟨M, ds, r, dm, h⟩ => ?_
    unfold gLenS at h
    split at h
    · obtain ⟨v, rfl, r1⟩ := rq1 r
      obtain ⟨a, ys, rfl, e1, p1⟩ := r1.lst
      refine .inl ⟨a, ys, rfl, .inl (SqL.of e1), ?_⟩
      rw [HC.RpA.length p1]
      exact h _ _ Same.refl' (.int _)
    · obtain ⟨v, rfl, r1⟩ := rq1 r
      obtain ⟨a, ys, rfl, e1, p1⟩ := r1.tup
      refine .inl ⟨a, ys, rfl, .inr e1, ?_⟩
      rw [HC.RpA.length p1]
      exact h _ _ Same.refl' (.int _)
    · obtain ⟨v, rfl, r1⟩ := rq1 r
      exact .inr ⟨_, by rw [r1.str], h.1, h.2 _ _ Same.refl' (.int _)⟩
    · exact h.elim
  · unfold gLenS at h ⊢
    split at h <;> first | exact hq _ h | exact ⟨h.1, hq _ h.2⟩ | exact h
def dInts : List D → Option (List Int)
  | [] => some []
  | .int i :: r => (dInts r).map (i :: ·)
  | _ :: _ => none
theorem ints_map : ∀ ns : List Int, dInts (ns.map D.int) = some ns
  | [] => rfl
  | n :: r => by
    show (dInts (r.map D.int)).map (n :: ·) = _
    rw [ints_map r]
    rfl
theorem of_ints : ∀ {ds : List D} {ns : List Int}, dInts ds = some ns → ds = ns.map D.int
  | [], _, h => by cases h; rfl
  | .int i :: r, ns, h => by
    unfold dInts at h
    cases q : dInts r with
    | none => rw [q] at h; cases h
    | some ms => rw [q] at h; cases h; rw [of_ints q]; rfl
  | .none :: _, _, h => by cases h
  | .bool _ :: _, _, h => by cases h
  | .str _ :: _, _, h => by cases h
  | .list _ :: _, _, h => by cases h
  | .tuple _ :: _, _, h => by cases h
  | .dict _ :: _, _, h => by cases h
  | .tdict _ :: _, _, h => by cases h
  | .exc _ :: _, _, h => by cases h
  | .kdict _ :: _, _, h => by cases h
  | .iobj _ _ _ _ _ :: _, _, h => by cases h
  | .held _ _ :: _, _, h => by cases h
theorem HC.RpA.ofInts {K : PySem.W.Frag} {P : Program} {w : World} {M : Addr → Prop} {H : Hp} : ∀ {vs : List V} {ns : List Int}, RpA K P w M H vs (ns.map D.int) → vs = ns.map V.int
  | _, [], .nil => rfl
  | _, n :: r, .cons a b => by
    cases a
    rw [HC.RpA.ofInts b]
    rfl
def IsMax (m : Int) (ns : List Int) : Prop := m ∈ ns ∧ ∀ y ∈ ns, y ≤ m
def IsMin (m : Int) (ns : List Int) : Prop := m ∈ ns ∧ ∀ y ∈ ns, m ≤ y
def gMin : Bn
  | [.int a, .int b], Q => Q (.int (if b < a then b else a))
  | [.list ds], Q => ∃ ns, dInts ds = some ns ∧ 0 < ns.length ∧ ∀ m, IsMin m ns → Q (.int m)
  | _, _ => False
def gMax : Bn
  | [.int a, .int b], Q => Q (.int (if b > a then b else a))
  | [.list ds], Q => ∃ ns, dInts ds = some ns ∧ 0 < ns.length ∧ ∀ m, IsMax m ns → Q (.int m)
  | _, _ => False
theorem b_min (G : Good X C W k) : Blt X C (.builtin "min") gMin := by
  refine ⟨?_, ⟨fun {ds Q Q'} hq h => ?_⟩⟩
  · refine fit_cases (X := X) (motive := fun C => CallR X (.builtin "min") (rDn C gMin)) (fun T M0 H0 => ?_) C G.fit
    refine ((call_min2 G.calm).or (cr_min G.calm)).imp fun xs H Q ⟨M, ds, r, dm, h⟩ => ?_
    unfold gMin at h
    split at h
    · obtain ⟨v, v', rfl, r1, r2⟩ := rq2 r
      exact .inl ⟨_, _, by rw [r1.int, r2.int], h _ _ Same.refl' (.int _)⟩
    · obtain ⟨ns, e, hl, h⟩ := h
      obtain ⟨v, rfl, r1⟩ := rq1 r
      obtain ⟨a, ys, rfl, e1, p1⟩ := r1.lst
      cases of_ints e
      rw [HC.RpA.ofInts p1] at e1
      exact .inr ⟨a, ns, rfl, SqL.of e1, hl, fun m h1 h2 => h m ⟨h1, h2⟩ _ _ Same.refl' (.int _)⟩
    · exact h.elim
  · unfold gMin at h ⊢
    split at h
    · exact hq _ h
    · exact let ⟨ns, e, l, q⟩ := h; ⟨ns, e, l, fun m z => hq _ (q m z)⟩
    · exact h
theorem b_max (G : Good X C W k) : Blt X C (.builtin "max") gMax := by
  refine ⟨?_, ⟨fun {ds Q Q'} hq h => ?_⟩⟩
  · refine fit_cases (X := X) (motive := fun C => CallR X (.builtin "max") (rDn C gMax)) (fun T M0 H0 => ?_) C G.fit
    refine ((call_max2 G.calm).or (cr_max G.calm)).imp fun xs H Q ⟨M, ds, r, dm, h⟩ => ?_
    unfold gMax at h
    split at h
    · obtain ⟨v, v', rfl, r1, r2⟩ := rq2 r
      exact .inl ⟨_, _, by rw [r1.int, r2.int], h _ _ Same.refl' (.int _)⟩
    · obtain ⟨ns, e, hl, h⟩ := h
      obtain ⟨v, rfl, r1⟩ := rq1 r
      obtain ⟨a, ys, rfl, e1, p1⟩ := r1.lst
      cases of_ints e
      rw [HC.RpA.ofInts p1] at e1
      exact .inr ⟨a, ns, rfl, SqL.of e1, hl, fun m h1 h2 => h m ⟨h1, h2⟩ _ _ Same.refl' (.int _)⟩
    · exact h.elim
  · unfold gMax at h ⊢
    split at h
    · exact hq _ h
    · exact let ⟨ns, e, l, q⟩ := h; ⟨ns, e, l, fun m z => hq _ (q m z)⟩
    · exact h
def dBools : List D → Option (List Bool)
  | [] => some []
  | .bool i :: r => (dBools r).map (i :: ·)
  | _ :: _ => none
theorem bools_map : ∀ ns : List Bool, dBools (ns.map D.bool) = some ns
  | [] => rfl
  | n :: r => by
    show (dBools (r.map D.bool)).map (n :: ·) = _
    rw [bools_map r]
    rfl
theorem of_bools : ∀ {ds : List D} {ns : List Bool}, dBools ds = some ns → ds = ns.map D.bool
  | [], _, h => by cases h; rfl
  | .bool i :: r, ns, h => by
    unfold dBools at h
    cases q : dBools r with
    | none => rw [q] at h; cases h
    | some ms => rw [q] at h; cases h; rw [of_bools q]; rfl
  | .none :: _, _, h => by cases h
  | .int _ :: _, _, h => by cases h
  | .str _ :: _, _, h => by cases h
  | .list _ :: _, _, h => by cases h
  | .tuple _ :: _, _, h => by cases h
  | .dict _ :: _, _, h => by cases h
  | .tdict _ :: _, _, h => by cases h
  | .exc _ :: _, _, h => by cases h
  | .kdict _ :: _, _, h => by cases h
  | .iobj _ _ _ _ _ :: _, _, h => by cases h
  | .held _ _ :: _, _, h => by cases h
theorem HC.RpA.ofBools {K : PySem.W.Frag} {P : Program} {w : World} {M : Addr → Prop} {H : Hp} : ∀ {vs : List V} {ns : List Bool}, RpA K P w M H vs (ns.map D.bool) → vs = ns.map V.bl
  | _, [], .nil => rfl
  | _, n :: r, .cons a b => by
    cases a
    rw [HC.RpA.ofBools b]
    rfl
def gAll : Bn
  | [.list ds], Q => ∃ ns, dBools ds = some ns ∧ Q (.bool (ns.all id))
  | _, _ => False
theorem b_all (G : Good X C W k) : Blt X C (.builtin "all") gAll := by
  refine ⟨?_, ⟨fun {ds Q Q'} hq h => ?_⟩⟩
  · refine fit_cases (X := X) (motive := fun C => CallR X (.builtin "all") (rDn C gAll)) (fun T M0 H0 => ?_) C G.fit
    refine (cr_all G.calm).imp fun xs H Q ⟨M, ds, r, dm, h⟩ => ?_
    unfold gAll at h
    split at h
    · obtain ⟨ns, e, h⟩ := h
      obtain ⟨v, rfl, r1⟩ := rq1 r
      obtain ⟨a, ys, rfl, e1, p1⟩ := r1.lst
      cases of_bools e
      rw [HC.RpA.ofBools p1] at e1
      exact ⟨a, ns, rfl, SqL.of e1, h _ _ Same.refl' (.bl _)⟩
    · exact h.elim
  · unfold gAll at h ⊢
    split at h
    · exact let ⟨ns, e, q⟩ := h; ⟨ns, e, hq _ q⟩
    · exact h
def gList : Bn
  | [.list ds], Q => Q (.list ds)
  | [.tuple ds], Q => Q (.list ds)
  | _, _ => False
def gTuple : Bn
  | [.list ds], Q => Q (.tuple ds)
  | [.tuple ds], Q => Q (.tuple ds)
  | _, _ => False
theorem b_list (F : Fit X C) : Blt X C (.type "list") gList := by
  refine ⟨?_, ⟨fun {ds Q Q'} hq h => ?_⟩⟩
  · refine fit_cases (X := X) (motive := fun C => CallR X (.type "list") (rDn C gList)) (fun T M0 H0 => ?_) C F
    refine call_list_of.imp fun xs H Q ⟨M, ds, r, dm, h⟩ => ?_
    unfold gList at h
    split at h
    · obtain ⟨v, rfl, r1⟩ := rq1 r
      obtain ⟨a, ys, rfl, e1, p1⟩ := r1.lst
      exact ⟨a, ys, rfl, .inl (SqL.of e1), fun l hl => h _ _ (same_upd hl) (.lst (dm.fresh hl) upd_same (HC.RpA.step (Stp.grow (same_upd hl)) p1))⟩
    · obtain ⟨v, rfl, r1⟩ := rq1 r
      obtain ⟨a, ys, rfl, e1, p1⟩ := r1.tup
      exact ⟨a, ys, rfl, .inr e1, fun l hl => h _ _ (same_upd hl) (.lst (dm.fresh hl) upd_same (HC.RpA.step (Stp.grow (same_upd hl)) p1))⟩
    · exact h.elim
  · unfold gList at h ⊢
    split at h <;> first | exact hq _ h | exact h
theorem b_tuple (F : Fit X C) : Blt X C (.type "tuple") gTuple := by
  refine ⟨?_, ⟨fun {ds Q Q'} hq h => ?_⟩⟩
  · refine fit_cases (X := X) (motive := fun C => CallR X (.type "tuple") (rDn C gTuple)) (fun T M0 H0 => ?_) C F
    refine call_tuple_of.imp fun xs H Q ⟨M, ds, r, dm, h⟩ => ?_
    unfold gTuple at h
    split at h
    · obtain ⟨v, rfl, r1⟩ := rq1 r
      obtain ⟨a, ys, rfl, e1, p1⟩ := r1.lst
      exact ⟨a, ys, rfl, .inl ⟨SqL.of e1, fun l hl => h _ _ (same_upd hl) (.tup (dm.fresh hl) upd_same (HC.RpA.step (Stp.grow (same_upd hl)) p1))⟩⟩
    · obtain ⟨v, rfl, r1⟩ := rq1 r
      obtain ⟨a, ys, rfl, e1, p1⟩ := r1.tup
      exact ⟨a, ys, rfl, .inr ⟨e1, h _ _ Same.refl' r1.tupRp⟩⟩
    · exact h.elim
  · unfold gTuple at h ⊢
    split at h <;> first | exact hq _ h | exact h
def gAbs : Bn
  | [.int i], Q => Q (.int (if i < 0 then -i else i))
  | _, _ => False
theorem b_abs : Blt X C (.builtin "abs") gAbs := by
  refine ⟨call_abs.imp fun xs H Q ⟨M, ds, r, dm, h⟩ => ?_, ⟨fun {ds Q Q'} hq h => ?_⟩⟩
  · unfold gAbs at h
    split at h
    · obtain ⟨v, rfl, r1⟩ := rq1 r
      exact ⟨_, by rw [r1.int], h _ _ Same.refl' (.int _)⟩
    · exact h.elim
  · unfold gAbs at h ⊢
    split at h <;> first | exact hq _ h | exact h
def isT (T : String) : D → Option Bool
  | .none => kitB "NoneType" T
  | .bool _ => kitB "bool" T
  | .int _ => kitB "int" T
  | .str _ => kitB "str" T
  | .list _ => kitB "list" T
  | .tuple _ => kitB "tuple" T
  | _ => Option.none
def wIsi (T : String) (t : TP) : TP := fun r Q E => t r (fun x => ∃ b, isT T x = some b ∧ Q (.bool b)) E
theorem ty_of (F : Fit X C) {M : Addr → Prop} {H : Hp} {v : V} {d : D} {T : String} {b : Bool} (r : C.Rq M H v d) (h : isT T d = some b) : ∃ t, TyX X.K H v (.type t) ∧ kitB t T = some b := by
  have F' := F
  obtain ⟨K, P, w, T', M0, H0⟩ := C
  obtain ⟨a, b', c⟩ := F'
  cases a; cases b'; cases c
  cases d with
  | none => rw [r.non]; exact ⟨_, .base .non, h⟩
  | bool i => rw [r.bl]; exact ⟨_, .base (.bl _), h⟩
  | int i => rw [r.int]; exact ⟨_, .base (.int _), h⟩
  | str i => rw [r.str]; exact ⟨_, .base (.str _), h⟩
  | list ds =>
    obtain ⟨a, xs, rfl, e, _⟩ := r.lst
    exact ⟨_, .base (.lst e), h⟩
  | tuple ds =>
    obtain ⟨a, xs, rfl, e, _⟩ := r.tup
    rcases e with (e | ⟨o, e⟩) | ⟨o, its, n, e1, e2, _⟩
    · exact ⟨_, .base (.tup e), h⟩
    · exact ⟨_, .fTuple e, h⟩
    · exact ⟨_, .kTuple e1 e2, h⟩
  | dict _ => cases h
  | tdict _ => cases h
  | exc _ => cases h
  | kdict _ => cases h
  | iobj _ _ _ _ _ => cases h
  | held _ _ => cases h
theorem dv_isi {T : String} {y : Str} {p1 : Pos} (G : Good X C W k) (ha : DE X C W e t) (m1 : X.mg "isinstance" = none) (m2 : X.mg y = none) (hv : bootBuiltins y = some (.type T)) (hg : Gl X "isinstance" := by rfl) (hg2 : Gl X y := by rfl)
    (hn : y ≠ "__name__" := by decide) (hd : (y == ("__debug__" : Str)) = false := by decide)
    (he : starEach [e, .Name y p1] X.env = (false, eval e X.env) :: starEach [.Name y p1] X.env := by rfl) (hpl : (backTo pos (starEach [.Name y p1] X.env)).any (·.1) = false := by rfl) :
    DV X C W (.Call (.Name "isinstance" p) [e, .Name y p1] [] pos) (wIsi T t) := by
  refine ⟨(pe_callB call_isi hg m1 (by decide +kernel) (pa_cons ha.pe (pa_cons (pe_bltn hg2 m2 hv (v := .ty T) rfl hn hd) pa_nil) he) (by decide) (by decide) he hpl).imp fun σ H Q ⟨M, r, E, S, hW, q⟩ => ⟨M, r, E, S, hW, ha.mo.imp (fun x z v H1 k1 S1 p1 => ?_) (fun _ z => z) q⟩,
    ⟨fun hq he' q => ha.mo.imp (fun x z => let ⟨b, h1, h2⟩ := z; ⟨b, h1, hq _ h2⟩) he' q⟩⟩
  obtain ⟨b, h1, h2⟩ := z
  obtain ⟨tt, h3, h4⟩ := ty_of G.fit p1 h1
  exact ⟨v, .ty T, .type tt, .type T, b, rfl, .ty T, h3, kit_ty h4, h2 _ H1 k1 S1 (.bl b)⟩
end
end HC
namespace HC
open PySem PySem.Spec PyProof.Rows L2
structure Grow (M M' : Addr → Prop) (H : Hp) : Prop where
  up : ∀ a, M a → M' a
  nw : ∀ a, M' a → M a ∨ H a = none
theorem Grow.refl {M : Addr → Prop} {H : Hp} : Grow M M H := ⟨fun _ h => h, fun _ h => .inl h⟩
theorem Grow.stp {C : Ct} {M M' : Addr → Prop} {r : Env} {σ : L2.St} {H H' : Hp} (g : Grow M M' H) (S : Sim C M r σ H) (k : C.Ex H H') : Stp M H M' H' := fun a o e m =>
  ⟨k a o (fun t => m (S.tm t)) e, fun z => (g.nw a z).elim m fun q => by rw [e] at q; cases q⟩
theorem Grow.trans {C : Ct} {M M1 M2 : Addr → Prop} {H H1 : Hp} (a : Grow M M1 H) (b : Grow M1 M2 H1) (k : C.Ex H H1) (nt : ∀ x, C.inT x → M x) : Grow M M2 H :=
  ⟨fun x h => b.up x (a.up x h), fun x h => by
    rcases b.nw x h with h | h
    · exact a.nw x h
    · by_cases ht : C.inT x
      · exact .inl (nt x ht)
      · right
        cases q : H x with
        | none => rfl
        | some o => rw [k x o ht q] at h; cases h⟩
inductive SlR (C : Ct) (M : Addr → Prop) (H : Hp) (N : Addr → Prop) : V → Sl → Prop
  | val {v : V} {d : D} : C.Rp M H v d → SlR C M H N v (.val d)
  | own {a : Addr} {d : D} : M a → N a → C.Top M H a d → SlR C M H N (.ref a) (.own d)
abbrev TX := Env → (Sl → Prop) → (Addr → Prop) → Prop
structure MonoX (t : TX) : Prop where
  imp : ∀ {r : Env} {Q Q' : Sl → Prop} {E E' : Addr → Prop}, (∀ d, Q d → Q' d) → (∀ c, E c → E' c) → t r Q E → t r Q' E'
def lX (C : Ct) (W : XW) (t : TX) : TE := fun σ H Q => ∃ M r E, Sim C M r σ H ∧ Wish C W M r σ H E ∧ t r (fun s => ∀ v M' H', C.Ex H H' → Grow M M' H → Sim C M' r σ H' → SlR C M' H' (fun a => H a = none) v s → Q v H') E
structure DX (X : Cx) (C : Ct) (W : XW) (e : Expr) (t : TX) : Prop where
  pe : PE X e (lX C W t)
  mo : MonoX t
def xVal (t : TP) : TX := fun r Q E => t r (fun d => Q (.val d)) E
section
variable {X : Cx} {C : Ct} {W : XW} {e : Expr} {es : List Expr} {t : TP} {u : TPA} {pos : Pos} {k : Nat}
theorem DV.x (h : DV X C W e t) : DX X C W e (xVal t) :=
  ⟨h.pe.imp fun σ H Q ⟨M, r, E, S, hW, q⟩ => ⟨M, r, E, S, hW, h.mo.imp (fun d z v H' k S' p => z v M H' k Grow.refl S' (.val p)) (fun _ z => z) q⟩, ⟨fun hq he q => h.mo.imp (fun d z => hq _ z) he q⟩⟩
theorem Sim.take {M : Addr → Prop} {r : Env} {σ : L2.St} {H H' : Hp} (S : Sim C M r σ H) {p : Addr} (hp : H p = none) (k : Same H H') (hs : H' p ≠ none) : Sim C (fun a => M a ∨ a = p) r σ H' := by
  have S1 := S.same k
  have st : Stp M H (fun a => M a ∨ a = p) H' := fun a o e m => ⟨k a o e, fun z => z.elim m fun q => by rw [q, hp] at e; cases e⟩
  refine ⟨S.len, fun i d e => ?_, fun i d e => ?_, S.sep, S.tk, ⟨S1.base.keep, tok_step st (S.reg k) S.base.tok⟩, fun a m => .inl (S.m0 a m), fun a m => ?_, S.inm⟩
  · obtain ⟨v, h1, h2⟩ := S.val i d e
    exact ⟨v, h1, h2.step st⟩
  · obtain ⟨a, h1, h2, h3, h4, h5⟩ := S.own i d e
    exact ⟨a, h1, .inl h2, h3, h4, h5.step st fun o q => k a o q⟩
  · rcases m with m | rfl
    · exact S1.dom a m
    · exact hs
theorem Sim.newH0 {M : Addr → Prop} {r : Env} {σ : L2.St} {H : Hp} (S : Sim C M r σ H) {p : Addr} (hp : H p = none) : C.H0 p = none ∧ ¬ C.M0 p := by
  have nm : ¬ C.M0 p := fun m => S.dom p (S.m0 p m) hp
  refine ⟨?_, nm⟩
  cases q : C.H0 p with
  | none => rfl
  | some o =>
    have ht : ¬ C.inT p := fun t => nm (S.inm p t)
    rw [S.base.keep p o ht q] at hp; cases hp
end
abbrev GD := D → Env → Option Env
def lG (C : Ct) (is : List Nat) (g : GD) : TG := fun v σ H Q => ∃ M r d r', Sim C M r σ H ∧ C.Rp M H v d ∧ g d r = some r' ∧ ∀ σ', Sim C M r' σ' H → (∀ vs : List Nat, (∀ i ∈ is, i ∈ vs) → wipe σ' vs = wipe σ vs) → Q σ' H
structure DG (X : Cx) (C : Ct) (tg : Expr) (is : List Nat) (g : GD) : Prop where
  pg : PG X tg (lG C is g)
def gN (i : Nat) : GD := fun d r => some (r.set i (.val d))
theorem Sim.set {C : Ct} {M : Addr → Prop} {r : Env} {σ : L2.St} {H : Hp} (S : Sim C M r σ H) {i : Nat} {v : V} {d : D} (p : C.Rp M H v d) : Sim C M (r.set i (.val d)) (σ.set i (some v)) H := by
  have hl : (r.set i (.val d)).length = r.length := List.length_set ..
  refine ⟨by rw [List.length_set, List.length_set]; exact S.len, fun j e q => ?_, fun j e q => ?_, fun a b x y c q1 q2 q3 q4 => ?_, fun j q => ?_, S.base, S.m0, S.dom, S.inm⟩
  · by_cases hj : i = j
    · subst hj
      by_cases hi : i < r.length
      · rw [List.getElem?_set_self hi] at q
        cases q
        exact ⟨v, List.getElem?_set_self (by rw [S.len]; exact hi), p⟩
      · rw [List.getElem?_eq_none (by rw [hl]; omega)] at q; cases q
    · rw [List.getElem?_set_ne hj] at q ⊢
      exact S.val j e q
  · by_cases hj : i = j
    · subst hj
      by_cases hi : i < r.length
      · rw [List.getElem?_set_self hi] at q; cases q
      · rw [List.getElem?_eq_none (by rw [hl]; omega)] at q; cases q
    · rw [List.getElem?_set_ne hj] at q ⊢
      exact S.own j e q
  · have ne : ∀ {j x}, (r.set i (.val d))[j]? = some (.own x) → i ≠ j := fun {j x} q z => by
      subst z
      by_cases hi : i < r.length
      · rw [List.getElem?_set_self hi] at q; cases q
      · rw [List.getElem?_eq_none (by rw [hl]; omega)] at q; cases q
    have n1 := ne q1
    have n2 := ne q2
    rw [List.getElem?_set_ne n1] at q1 q3
    rw [List.getElem?_set_ne n2] at q2 q4
    exact S.sep a b x y c q1 q2 q3 q4
  · by_cases hj : i = j
    · subst hj
      by_cases hi : i < r.length
      · rw [List.getElem?_set_self hi] at q; cases q; exact trivial
      · rw [List.getElem?_eq_none (by rw [hl]; omega)] at q; cases q
    · rw [List.getElem?_set_ne hj] at q ⊢
      exact S.tk j q
theorem Sim.setOwn {C : Ct} {M : Addr → Prop} {r : Env} {σ : L2.St} {H : Hp} (S : Sim C M r σ H) {i : Nat} {a : Addr} {d : D} (m : M a) (h0 : C.H0 a = none) (m0 : ¬ C.M0 a) (p : C.Top M H a d) (nw : ∀ (j : Nat) (e : D), r[j]? = some (.own e) → σ[j]? = some (some (.ref a)) → i = j) :
    Sim C M (r.set i (.own d)) (σ.set i (some (.ref a))) H := by
  have hl : (r.set i (.own d)).length = r.length := List.length_set ..
  have out : ∀ {j : Nat} {x : Sl}, ¬ i < r.length → (r.set i (.own d))[j]? = some x → i = j → False := fun {j x} hi q z => by
    subst z
    rw [List.getElem?_eq_none (by rw [hl]; omega)] at q; cases q
  refine ⟨by rw [List.length_set, List.length_set]; exact S.len, fun j e q => ?_, fun j e q => ?_, fun j b x y c q1 q2 q3 q4 => ?_, fun j q => ?_, S.base, S.m0, S.dom, S.inm⟩
  · by_cases hj : i = j
    · by_cases hi : i < r.length
      · subst hj
        rw [List.getElem?_set_self hi] at q; cases q
      · exact (out hi q hj).elim
    · rw [List.getElem?_set_ne hj] at q ⊢
      exact S.val j e q
  · by_cases hj : i = j
    · by_cases hi : i < r.length
      · subst hj
        rw [List.getElem?_set_self hi] at q
        cases q
        exact ⟨a, List.getElem?_set_self (by rw [S.len]; exact hi), m, h0, m0, p⟩
      · exact (out hi q hj).elim
    · rw [List.getElem?_set_ne hj] at q ⊢
      exact S.own j e q
  · by_cases h1 : i = j
    · by_cases h2 : i = b
      · omega
      · by_cases hi : i < r.length
        · rw [List.getElem?_set_ne h2] at q2 q4
          rw [← h1, List.getElem?_set_self (by rw [S.len]; exact hi)] at q3
          cases q3
          exact absurd (nw b y q2 q4) h2
        · exact (out hi q1 h1).elim
    · by_cases h2 : i = b
      · by_cases hi : i < r.length
        · rw [List.getElem?_set_ne h1] at q1 q3
          rw [← h2, List.getElem?_set_self (by rw [S.len]; exact hi)] at q4
          cases q4
          exact absurd (nw j x q1 q3) h1
        · exact (out hi q2 h2).elim
      · rw [List.getElem?_set_ne h1] at q1 q3
        rw [List.getElem?_set_ne h2] at q2 q4
        exact S.sep j b x y c q1 q2 q3 q4
  · by_cases hj : i = j
    · by_cases hi : i < r.length
      · subst hj
        rw [List.getElem?_set_self hi] at q; cases q; exact trivial
      · exact (out hi q hj).elim
    · rw [List.getElem?_set_ne hj] at q ⊢
      exact S.tk j q
theorem wipe_set {σ : L2.St} {i : Nat} {x : Option V} : ∀ {vs : List Nat}, i ∈ vs → wipe (σ.set i x) vs = wipe σ vs
  | [], h => by simp at h
  | v :: vs, h => by
    unfold wipe
    by_cases hv : i ∈ vs
    · rw [wipe_set hv]
    · have e : i = v := by
        rcases List.mem_cons.mp h with e | e
        · exact e
        · exact absurd e hv
      subst e
      have : ∀ ws : List Nat, i ∉ ws → wipe (σ.set i x) ws = (wipe σ ws).set i x := by
        intro ws
        induction ws with
        | nil => intro _; rfl
        | cons y ys ih =>
          intro hn
          simp only [List.mem_cons, not_or] at hn
          unfold wipe
          rw [ih hn.2, List.set_comm _ _ hn.1]
      rw [this vs hv, List.set_set]
section
variable {X : Cx} {C : Ct} {W : XW} {pos : Pos} {k : Nat}
theorem dg_name (i : Nat) {x : Str} (hN : X.N.Nodup) (hi : X.N[i]? = some x := by rfl) (hx : Loc X.env.scope x := by first | exact Or.inl rfl | exact Or.inr rfl) (hf : X.fn x = true ∨ X.env.scope.names.lookup x = some .local := by first | exact .inl rfl | exact .inr rfl | assumption) : DG X C (.Name x pos) [i] (gN i) := by
  refine ⟨(pg_name hN hi hx hf).imp fun v σ H Q ⟨M, r, d, r', S, p, e, q⟩ => ?_⟩
  cases e
  exact q _ (S.set p) fun vs h => wipe_set (h i (by simp))
abbrev GDs := List D → Env → Option Env
def lGs (C : Ct) (is : List Nat) (g : GDs) : TGs := fun vs σ H Q => ∃ M r ds r', Sim C M r σ H ∧ C.RpA M H vs ds ∧ g ds r = some r' ∧ ∀ σ', Sim C M r' σ' H → (∀ vs : List Nat, (∀ i ∈ is, i ∈ vs) → wipe σ' vs = wipe σ vs) → Q σ' H
structure DGs (X : Cx) (C : Ct) (tgs : List Expr) (is : List Nat) (n : Nat) (g : GDs) : Prop where
  pg : PGs X tgs (lGs C is g)
  len : ∀ {ds : List D} {r r' : Env}, g ds r = some r' → ds.length = n
def gNil' : GDs := fun ds r => match ds with
  | [] => some r
  | _ :: _ => Option.none
def gCons' (g : GD) (h : GDs) : GDs := fun ds r => match ds with
  | [] => Option.none
  | d :: ds => match g d r with
    | some r1 => h ds r1
    | Option.none => Option.none
def gT (h : GDs) : GD := fun d r => match d with
  | .tuple ds => h ds r
  | _ => Option.none
theorem _root_.L2.PGs.imp {X : Cx} {e : List Expr} {t t' : TGs} (h : PGs X e t) (hi : ∀ v σ H Q, t' v σ H Q → t v σ H Q) : PGs X e t' := ⟨fun pins s σ H v u Q I r q => h.run pins s σ H v u Q I r (hi _ _ _ _ q)⟩
theorem dgs_nil : DGs X C [] [] 0 gNil' := by
  refine ⟨pgs_nil.imp fun vs σ H Q ⟨M, r, ds, r', S, p, e, q⟩ => ?_, fun {ds r r'} h => ?_⟩
  · cases ds with
    | nil => cases p; cases e; exact ⟨rfl, q σ S fun _ _ => rfl⟩
    | cons _ _ => cases e
  · cases ds with
    | nil => rfl
    | cons _ _ => cases h
theorem dgs_cons {tg : Expr} {tgs : List Expr} {is js : List Nat} {n : Nat} {g : GD} {h : GDs} (h1 : DG X C tg is g) (h2 : DGs X C tgs js n h)
    (hs : (assignEach (tg :: tgs) X.env).map (·.2) = assign tg X.env :: (assignEach tgs X.env).map (·.2) := by rfl) : DGs X C (tg :: tgs) (is ++ js) (n + 1) (gCons' g h) := by
  refine ⟨(pgs_cons h1.pg h2.pg hs).imp fun vs σ H Q ⟨M, r, ds, r', S, p, e, q⟩ => ?_, fun {ds r r'} e => ?_⟩
  · cases ds with
    | nil => cases e
    | cons d ds =>
      cases p with
      | cons p ps =>
        unfold gCons' at e
        cases e1 : g d r with
        | none => simp only [e1] at e; cases e
        | some r1 =>
          simp only [e1] at e
          refine ⟨_, _, rfl, M, r, d, r1, S, p, e1, fun σ1 S1 w1 => ⟨M, r1, ds, r', S1, ps, e, fun σ2 S2 w2 => q σ2 S2 fun vs hv => ?_⟩⟩
          rw [w2 vs fun i hi => hv i (List.mem_append_right _ hi), w1 vs fun i hi => hv i (List.mem_append_left _ hi)]
  · cases ds with
    | nil => cases e
    | cons d ds =>
      unfold gCons' at e
      cases e1 : g d r with
      | none => simp only [e1] at e; cases e
      | some r1 =>
        simp only [e1] at e
        rw [List.length_cons, h2.len e]
theorem dg_tup {tgs : List Expr} {is : List Nat} {n kk : Nat} {h : GDs} (G : Good X C W k) (h1 : DGs X C tgs is n h) (hn : (assignEach tgs X.env).length = n := by rfl) (hst : (assignEach tgs X.env).findIdx? (·.1) = none := by rfl) :
    DG X C (.Tuple tgs kk pos) is (gT h) := by
  refine ⟨?_⟩
  have pg := pg_tup (pos := pos) (k := kk) G.calm h1.pg hn hst
  have F := G.fit
  obtain ⟨K, P, w, T, M0, H0⟩ := C
  obtain ⟨a, b, c⟩ := F
  cases a; cases b; cases c
  refine pg.imp fun v σ H Q ⟨M, r, d, r', S, p, e, q⟩ => ?_
  cases d with
  | tuple ds =>
    obtain ⟨a, rfl⟩ := HC.Rp.tupRef p
    obtain ⟨xs, h2, h3⟩ := HC.Rp.sqT p
    have e : h ds r = some r' := e
    exact ⟨a, xs, rfl, h2, by rw [HC.RpA.length h3]; exact h1.len e, M, r, ds, r', S, h3, e, q⟩
  | _ => cases e
end
structure En where
  nx : Env → Prop
  rt : D → Prop
  bk : Env → Prop
  ct : Env → Prop
  ex : Env → Addr → Prop
structure En.Le (e e' : En) : Prop where
  nx : ∀ r, e.nx r → e'.nx r
  rt : ∀ d, e.rt d → e'.rt d
  bk : ∀ r, e.bk r → e'.bk r
  ct : ∀ r, e.ct r → e'.ct r
  ex : ∀ r c, e.ex r c → e'.ex r c
theorem En.Le.refl (e : En) : En.Le e e := ⟨fun _ h => h, fun _ h => h, fun _ h => h, fun _ h => h, fun _ _ h => h⟩
abbrev TSD := En → Env → Prop
structure MonoS (t : TSD) : Prop where
  imp : ∀ {e e' : En} {r : Env}, En.Le e e' → t e r → t e' r
structure Fits (C : Ct) (W : XW) (M : Addr → Prop) (H : Hp) (e : En) (De : Ends) : Prop where
  nx : ∀ M' r σ H', Stp M H M' H' → Sim C M' r σ H' → e.nx r → De.nx σ H'
  rt : ∀ M' r σ H' v d, Sim C M' r σ H' → C.Rp M' H' v d → e.rt d → De.rt v H'
  bk : ∀ M' r σ H', Stp M H M' H' → Sim C M' r σ H' → e.bk r → De.bk σ H'
  ct : ∀ M' r σ H', Stp M H M' H' → Sim C M' r σ H' → e.ct r → De.ct σ H'
  ex : ∀ M' r σ H' c, Stp M H M' H' → Sim C M' r σ H' → e.ex r c → W σ (.ref c) Option.none H'
theorem Fits.step {C : Ct} {W : XW} {M M' : Addr → Prop} {H H' : Hp} {e : En} {De : Ends} (f : Fits C W M H e De) (s : Stp M H M' H') : Fits C W M' H' e De :=
  ⟨fun M2 r σ H2 t S q => f.nx M2 r σ H2 (s.trans t) S q, f.rt, fun M2 r σ H2 t S q => f.bk M2 r σ H2 (s.trans t) S q, fun M2 r σ H2 t S q => f.ct M2 r σ H2 (s.trans t) S q, fun M2 r σ H2 c t S q => f.ex M2 r σ H2 c (s.trans t) S q⟩
theorem Fits.wish {C : Ct} {W : XW} {M : Addr → Prop} {H : Hp} {e : En} {De : Ends} (f : Fits C W M H e De) {r : Env} {σ : L2.St} (S : Sim C M r σ H) : Wish C W M r σ H (e.ex r) := fun c H2 k S2 q => f.ex M r σ H2 c (S.stp k) S2 q
end HC
namespace HC
open PySem PySem.Spec PyProof.Rows L2
def lS (C : Ct) (W : XW) (t : TSD) : TS := fun De σ H => ∃ M r e, Sim C M r σ H ∧ Fits C W M H e De ∧ t e r
structure DS (X : Cx) (C : Ct) (W : XW) (st : Stmt) (t : TSD) : Prop where
  ps : PS X st (lS C W t)
  mo : MonoS t
structure DSs (X : Cx) (C : Ct) (W : XW) (st : List Stmt) (t : TSD) : Prop where
  ps : PSs X st (lS C W t)
  mo : MonoS t
def sNil : TSD := fun e r => e.nx r
def sSeq (t u : TSD) : TSD := fun e r => t { e with nx := u e } r
section
variable {C : Ct} {M : Addr → Prop} {r : Env} {σ : L2.St} {H H' : Hp}
theorem Sim.none_of (S : Sim C M r σ H') (k : C.Ex H H') {p : Addr} (h : H' p = none) : H p = none := by
  by_cases ht : C.inT p
  · exact absurd h (S.dom p (S.tm ht))
  · cases q : H p with
    | none => rfl
    | some o => rw [k p o ht q] at h; cases h
theorem Sim.old (S : Sim C M r σ H) {a : Addr} (h : H a = none) {j : Nat} {e : D} (e1 : r[j]? = some (.own e)) (e2 : σ[j]? = some (some (.ref a))) : False := by
  obtain ⟨b, h1, h2, _⟩ := S.own j e e1
  rw [e2] at h1
  cases h1
  exact S.dom a h2 h
theorem Sim.setSl {M' : Addr → Prop} {s : Sl} {v : V} {i : Nat} (S : Sim C M r σ H) (S' : Sim C M' r σ H') (p : SlR C M' H' (fun a => H a = none) v s) : Sim C M' (r.set i s) (σ.set i (some v)) H' := by
  cases p with
  | val p => exact S'.set p
  | own m n p =>
    obtain ⟨h0, m0⟩ := S.newH0 n
    exact S'.setOwn m h0 m0 p fun j e e1 e2 => (S.old n e1 e2).elim
theorem Sim.mut {i : Nat} {a : Addr} {d d' : D} {o : HO} (S : Sim C M r σ H) (hr : r[i]? = some (.own d)) (hs : σ[i]? = some (some (.ref a))) (p : Stp M H M (upd H a o) → C.Top M (upd H a o) a d') :
    Stp M H M (upd H a o) ∧ Sim C M (r.set i (.own d')) σ (upd H a o) := by
  obtain ⟨a', e1, m, h0, m0, tp⟩ := S.own i d hr
  rw [hs] at e1
  cases e1
  have st : Stp M H M (upd H a o) := fun b x e n => ⟨by rw [upd_ne (fun z : b = a => n (z ▸ m))]; exact e, n⟩
  have nt : ¬ C.inT a := fun t => m0 (S.inm a t)
  refine ⟨st, ?_⟩
  have hi : i < r.length := (List.getElem?_eq_some_iff.mp hr).1
  refine ⟨by rw [List.length_set]; exact S.len, fun j e q => ?_, fun j e q => ?_, fun j b x y c q1 q2 q3 q4 => ?_, fun j q => ?_, ⟨fun b x n e => ?_, ?_⟩, S.m0, fun b mb z => ?_, S.inm⟩
  · by_cases hj : i = j
    · subst hj
      rw [List.getElem?_set_self hi] at q; cases q
    · rw [List.getElem?_set_ne hj] at q
      obtain ⟨v, h1, h2⟩ := S.val j e q
      exact ⟨v, h1, h2.step st⟩
  · by_cases hj : i = j
    · subst hj
      rw [List.getElem?_set_self hi] at q
      cases q
      exact ⟨a, hs, m, h0, m0, p st⟩
    · rw [List.getElem?_set_ne hj] at q
      obtain ⟨b, h1, h2, h3, h4, h5⟩ := S.own j e q
      exact ⟨b, h1, h2, h3, h4, h5.step st fun x z => by
        rw [upd_ne (fun y : b = a => hj (S.sep i j d e a hr q hs (y ▸ h1)))]
        exact z⟩
  · have back : ∀ {j : Nat} {x : D}, (r.set i (.own d'))[j]? = some (.own x) → ∃ x', r[j]? = some (.own x') := fun {j x} q => by
      by_cases hj : i = j
      · subst hj; exact ⟨d, hr⟩
      · rw [List.getElem?_set_ne hj] at q; exact ⟨x, q⟩
    obtain ⟨x', b1⟩ := back q1
    obtain ⟨y', b2⟩ := back q2
    exact S.sep j b x' y' c b1 b2 q3 q4
  · by_cases hj : i = j
    · subst hj
      rw [List.getElem?_set_self hi] at q; cases q; exact trivial
    · rw [List.getElem?_set_ne hj] at q
      exact S.tk j q
  · rw [upd_ne (fun z : b = a => by rw [z, h0] at e; cases e)]
    exact S.base.keep b x n e
  · exact tok_step st (fun b hb => upd_ne (fun z => nt (z ▸ hb))) S.base.tok
  · by_cases hb : b = a
    · subst hb; rw [upd_same] at z; cases z
    · rw [upd_ne hb] at z; exact S.dom b mb z
def frz (r : Env) (i : Nat) : Env := match slot r i with
  | .own d => r.set i (.val d)
  | _ => r
theorem Sim.freeze (S : Sim C M r σ H) (i : Nat) : ∃ M', Stp M H M' H ∧ Sim C M' (frz r i) σ H := by
  unfold frz
  cases hsl : slot r i with
  | un => exact ⟨M, Stp.refl, S⟩
  | val d => exact ⟨M, Stp.refl, S⟩
  | tok => exact ⟨M, Stp.refl, S⟩
  | obj d => exact ⟨M, Stp.refl, S⟩
  | own d =>
    have hr := slot_get hsl (by simp)
    obtain ⟨a, e1, m, h0, m0, tp⟩ := S.own i d hr
    have hi : i < r.length := (List.getElem?_eq_some_iff.mp hr).1
    have ls : ∀ b, (M b ∧ b ≠ a) → M b := fun b h => h.1
    have st : Stp M H (fun b => M b ∧ b ≠ a) H := Stp.less ls
    refine ⟨fun b => M b ∧ b ≠ a, st, ?_⟩
    refine ⟨by rw [List.length_set]; exact S.len, fun j e q => ?_, fun j e q => ?_, fun j b x y c q1 q2 q3 q4 => ?_, fun j q => ?_, S.base.to st, fun b mb => ⟨S.m0 b mb, fun z => m0 (z ▸ mb)⟩, fun b mb => S.dom b mb.1, S.inm⟩
    · by_cases hj : i = j
      · subst hj
        rw [List.getElem?_set_self hi] at q
        cases q
        exact ⟨_, e1, (tp.step st fun o z => z).rp fun z => z.2 rfl⟩
      · rw [List.getElem?_set_ne hj] at q
        obtain ⟨v, h1, h2⟩ := S.val j e q
        exact ⟨v, h1, h2.step st⟩
    · by_cases hj : i = j
      · subst hj
        rw [List.getElem?_set_self hi] at q; cases q
      · rw [List.getElem?_set_ne hj] at q
        obtain ⟨b, h1, h2, h3, h4, h5⟩ := S.own j e q
        exact ⟨b, h1, ⟨h2, fun y => hj (S.sep i j d e a hr q e1 (y ▸ h1))⟩, h3, h4, h5.step st fun o z => z⟩
    · have ne : ∀ {j x}, (r.set i (.val d))[j]? = some (.own x) → i ≠ j := fun {j x} q z => by
        subst z
        rw [List.getElem?_set_self hi] at q; cases q
      rw [List.getElem?_set_ne (ne q1)] at q1
      rw [List.getElem?_set_ne (ne q2)] at q2
      exact S.sep j b x y c q1 q2 q3 q4
    · by_cases hj : i = j
      · subst hj
        rw [List.getElem?_set_self hi] at q; cases q; exact trivial
      · rw [List.getElem?_set_ne hj] at q
        exact S.tk j q
end
section
variable {X : Cx} {C : Ct} {W : XW} {e : Expr} {t : TSD} {u : TSD} {st : Stmt} {rest : List Stmt} {pos : Pos} {k : Nat}
theorem dss_nil : DSs X C W [] sNil := ⟨pss_nil.imp fun De σ H ⟨M, r, e, S, f, q⟩ => f.nx M r σ H Stp.refl S q, ⟨fun h q => h.nx _ q⟩⟩
theorem mono_seq (h1 : MonoS t) (h2 : MonoS u) : MonoS (sSeq t u) := ⟨fun {e e' r} h q => h1.imp (e := { e with nx := u e }) (e' := { e' with nx := u e' }) ⟨fun _ z => h2.imp h z, h.rt, h.bk, h.ct, h.ex⟩ q⟩
theorem dss_cons (h1 : DS X C W st t) (h2 : DSs X C W rest u) : DSs X C W (st :: rest) (sSeq t u) :=
  ⟨(pss_cons h1.ps h2.ps).imp fun De σ H ⟨M, r, e, S, f, q⟩ => ⟨M, r, { e with nx := u e }, S, ⟨fun M' r' σ' H' s S' z => ⟨M', r', e, S', f.step s, z⟩, f.rt, f.bk, f.ct, f.ex⟩, q⟩, mono_seq h1.mo h2.mo⟩
theorem dss_one (h1 : DS X C W st t) : DSs X C W [st] t := ⟨pss_one h1.ps, h1.mo⟩
def sFrz (i : Nat) (t : TSD) : TSD := fun e r => t e (frz r i)
theorem ds_frz (i : Nat) (h : DS X C W st t) : DS X C W st (sFrz i t) :=
  ⟨h.ps.imp fun De σ H ⟨M, r, e, S, f, q⟩ => let ⟨M', s, S'⟩ := S.freeze i; ⟨M', frz r i, e, S', f.step s, q⟩, ⟨fun h' q => h.mo.imp h' q⟩⟩
def sAsg (i : Nat) (t : TX) : TSD := fun e r => t r (fun s => e.nx (r.set i s)) (e.ex r)
theorem ds_asg (i : Nat) {x : Str} {t : TX} {pos' : Pos} (G : Good X C W k) (he : DX X C W e t) (hi : X.N[i]? = some x := by rfl) (hx : Loc X.env.scope x := by first | exact Or.inl rfl | exact Or.inr rfl) (hs : swapsWith e (some (.Name x pos')) pos.line X.env = pure false := by rfl)
    (hf : X.fn x = true ∨ X.env.scope.names.lookup x = some .local := by first | exact .inl rfl | exact .inr rfl | assumption) : DS X C W (.Assign [.Name x pos'] e pos) (sAsg i t) := by
  refine ⟨(ps_set G.nd hi hx he.pe hs hf).imp fun De σ H ⟨M, r, e, S, f, q⟩ => ⟨M, r, e.ex r, S, f.wish S, he.mo.imp (fun s z v M' H' k' g S' p => ?_) (fun _ z => z) q⟩, ⟨fun h q => he.mo.imp (fun s z => h.nx _ z) (fun c z => h.ex _ c z) q⟩⟩
  exact f.nx M' _ _ H' (g.stp S k') (S.setSl S' p) z
def sExpr (t : TP) : TSD := fun e r => t r (fun _ => e.nx r) (e.ex r)
theorem ds_expr {t : TP} (he : DE X C W e t) (hs : swapsWith e none pos.line X.env = pure false := by rfl) : DS X C W (.Expr e pos) (sExpr t) :=
  ⟨(ps_expr he.pe hs).imp fun De σ H ⟨M, r, e, S, f, q⟩ => ⟨M, r, e.ex r, S, f.wish S, he.mo.imp (fun s z v H' k' S' p => f.nx M r σ H' (S.stp k') S' z) (fun _ z => z) q⟩, ⟨fun h q => he.mo.imp (fun s z => h.nx _ z) (fun c z => h.ex _ c z) q⟩⟩
def sRet (t : TP) : TSD := fun e r => t r e.rt (e.ex r)
theorem ds_ret {t : TP} (he : DV X C W e t) : DS X C W (.Return (some e) pos) (sRet t) :=
  ⟨(ps_ret he.pe).imp fun De σ H ⟨M, r, e, S, f, q⟩ => ⟨M, r, e.ex r, S, f.wish S, he.mo.imp (fun d z v H' k' S' p => f.rt M r σ H' v d S' p z) (fun _ z => z) q⟩, ⟨fun h q => he.mo.imp (fun s z => h.rt _ z) (fun c z => h.ex _ c z) q⟩⟩
def sIf (b : TB) (t u : TSD) : TSD := fun e r => b r (fun k => if k = true then t e r else u e r) (e.ex r)
theorem ds_if {c : Expr} {b : TB} {s1 s2 : List Stmt} (hc : DT X C W c b) (h1 : DSs X C W s1 t) (h2 : DSs X C W s2 u) : DS X C W (.If c s1 s2 pos) (sIf b t u) := by
  refine ⟨(ps_if hc.pt h1.ps h2.ps).imp fun De σ H ⟨M, r, e, S, f, q⟩ => ⟨M, r, e.ex r, S, f.wish S, hc.mo.imp (fun k' z H1 k1 S1 => ?_) (fun _ z => z) q⟩, ⟨fun h q => hc.mo.imp (fun k' z => ?_) (fun c z => h.ex _ c z) q⟩⟩
  · cases k' with
    | true => exact ⟨M, r, e, S1, f.step (S.stp k1), z⟩
    | false => exact ⟨M, r, e, S1, f.step (S.stp k1), z⟩
  · cases k' with
    | true => exact h1.mo.imp h z
    | false => exact h2.mo.imp h z
def sUnp (t : TP) (g : GD) : TSD := fun e r => t r (fun d => ∃ r', g d r = some r' ∧ e.nx r') (e.ex r)
theorem ds_unp {tg : Expr} {is : List Nat} {g : GD} {t : TP} (he : DV X C W e t) (hg : DG X C tg is g) (hs : swapsWithSole [tg] e pos.line X.env = pure false := by rfl) (hw : swappedStores [tg] e X.env = pure none := by rfl)
    (h1 : (assignEach [tg] X.env).map (·.2) = [assign tg X.env] := by rfl) : DS X C W (.Assign [tg] e pos) (sUnp t g) := by
  refine ⟨(ps_asg he.pe hg.pg hs hw h1).imp fun De σ H ⟨M, r, e, S, f, q⟩ => ⟨M, r, e.ex r, S, f.wish S, he.mo.imp (fun d ⟨r', e1, z⟩ v H' k' S' p => ?_) (fun _ z => z) q⟩, ⟨fun h q => he.mo.imp (fun s ⟨r', e1, z⟩ => ⟨r', e1, h.nx _ z⟩) (fun c z => h.ex _ c z) q⟩⟩
  exact ⟨M, r, d, r', S', p, e1, fun σ' S2 _ => f.nx M r' σ' H' (S.stp k') S2 z⟩
def sApp (i : Nat) (t : TP) : TSD := fun e r => match slot r i with
  | .own (.list ds) => t r (fun d => ds.length < sizeLine ∧ e.nx (r.set i (.own (.list (ds ++ [d]))))) (e.ex r)
  | _ => False
theorem ds_app (i : Nat) {x : Str} {t : TP} {p1 p2 p3 : Pos} (G : Good X C W k) (he : DV X C W e t) (hN : X.N[i]? = some x := by rfl) (hv : Vis X.env.scope x := by first | exact Or.inl rfl | exact Or.inr (Or.inl rfl) | exact Or.inr (Or.inr rfl))
    (hd : (x == ("__debug__" : Str)) = false := by decide) (hcd : (x == ("__classdict__" : Str)) = false := by decide)
    (hbase : attributeBase (.Name x p1) "append" X.env (eval (.Name x p1) X.env) = eval (.Name x p1) X.env := by rfl)
    (hfew : ((backTo p3 (starEach [e] X.env)).all (fun x => !x.1) && (backToKw p3 (keywordEach [] X.env)).all (fun x => x.1.isSome) && decide (([e] : List Expr).length + ([] : List Keyword).length + (if ([] : List Keyword).isEmpty then 0 else 1) < 30)) = true := by rfl)
    (hline : (p2.endLine == p3.line) = true := by rfl) (hst : starEach [e] X.env = (false, eval e X.env) :: starEach [] X.env := by rfl) (hsw : swapsWith (.Call (.Attribute (.Name x p1) "append" p2) [e] [] p3) none pos.line X.env = pure false := by rfl) :
    DS X C W (.Expr (.Call (.Attribute (.Name x p1) "append" p2) [e] [] p3) pos) (sApp i t) := by
  refine ⟨(ps_expr (pe_bm PySem.F.plainAttrs_list PySem.F.slot_list_append PySem.F.type_list_append mt_append (pe_var (i := i) hN hv hd hcd) (pa_cons he.pe pa_nil hst) hbase hfew hline hst rfl) hsw).imp fun De σ H ⟨M, r, e, S, f, q⟩ => ?_, ⟨fun {e e' r} h q => ?_⟩⟩
  · unfold sApp at q
    split at q
    · rename_i ds es
      have hr := slot_get es (by simp)
      obtain ⟨a, e1, m, h0, m0, tp⟩ := S.own i _ hr
      cases tp with
      | @lst xs _ ea pa =>
        refine ⟨.ref a, e1, .inl ⟨rfl, _, SqL.of ea⟩, M, r, e.ex r, S, f.wish S, he.mo.imp (fun d ⟨hl, z⟩ v H1 k1 S1 p => ?_) (fun _ z => z) q⟩
        have nt : ¬ C.inT a := fun t => m0 (S.inm a t)
        have ea1 : H1 a = some (.lst xs) := k1 a _ nt ea
        refine ⟨a, xs, v, rfl, rfl, ea1, by rw [HC.RpA.length pa]; exact hl, ?_⟩
        obtain ⟨s2, S2⟩ := S1.mut (o := .lst (xs ++ [v])) (d' := .list (ds ++ [d])) hr e1 fun s2 => .lst upd_same (HC.RpA.append ((HC.RpA.step (S.stp k1) pa).step s2) (.cons (HC.Rp.step s2 p) .nil))
        exact f.nx M _ σ _ ((S.stp k1).trans s2) S2 z
    · exact q.elim
  · unfold sApp at q ⊢
    split at q
    · exact he.mo.imp (fun d ⟨hl, z⟩ => ⟨hl, h.nx _ z⟩) (fun c z => h.ex _ c z) q
    · exact q
end
end HC
namespace HC
open PySem PySem.Spec PyProof.Rows L2
structure Yields (C : Ct) (M : Addr → Prop) (H : Hp) (J : It) (ds : List D) : Prop where
  go : ∀ i M1 H1, Stp M H M1 H1 → i < ds.length → J.go i H1
  yld : ∀ i M1 H1 x H2, Stp M H M1 H1 → Dom M1 H1 → i < ds.length → J.yld i H1 x H2 → ∃ d, ds[i]? = some d ∧ Same H1 H2 ∧ C.Rp M1 H2 x d
  stop : ∀ i M1 H1, Stp M H M1 H1 → ds.length ≤ i → J.stop i H1
structure MonoI (t : TPA) : Prop where
  imp : ∀ {r : Env} {Q Q' : List D → Prop} {E E' : Addr → Prop}, (∀ d, Q d → Q' d) → (∀ c, E c → E' c) → t r Q E → t r Q' E'
def lI (C : Ct) (W : XW) (t : TPA) : TI := fun σ H R => ∃ M r E, Sim C M r σ H ∧ Wish C W M r σ H E ∧ t r (fun ds => ∀ J H', C.Ex H H' → Sim C M r σ H' → Yields C M H' J ds → R J H') E
structure DI (X : Cx) (C : Ct) (W : XW) (tg iter : Expr) (t : TPA) : Prop where
  pi : PI X tg iter (lI C W t)
  mo : MonoI t
section
variable {X : Cx} {C : Ct} {W : XW} {tg e : Expr} {t : TP} {u : TPA} {pos : Pos} {k : Nat}
theorem yields_list {M : Addr → Prop} {H : Hp} {a : Addr} {xs : List V} {ds : List D} (m : ¬ M a) (ea : H a = some (.lst xs)) (p : C.RpA M H xs ds) : Yields C M H (Itl C.K a) ds := by
  refine ⟨fun i M1 H1 s hi => ?_, fun i M1 H1 x H2 s dm hi ⟨e1, e2⟩ => ?_, fun i M1 H1 s hi => ?_⟩
  · obtain ⟨v, hv, _⟩ := HC.RpA.get p (List.getElem?_eq_getElem hi)
    exact ⟨xs, v, SqL.of (s a _ ea m).1, hv⟩
  · have hx := e2 xs (SqL.of (s a _ ea m).1)
    obtain ⟨d, h1, h2⟩ := HC.RpA.getV p hx
    subst e1
    exact ⟨d, h1, Same.refl', h2.step s⟩
  · exact ⟨xs, SqL.of (s a _ ea m).1, by rw [HC.RpA.length p]; exact hi⟩
theorem yields_tup {M : Addr → Prop} {H : Hp} {a : Addr} {xs : List V} {ds : List D} (hs : ∀ M1 H1, Stp M H M1 H1 → SqT C.K H1 a xs) (p : C.RpA M H xs ds) : Yields C M H (Itt C.K a) ds := by
  refine ⟨fun i M1 H1 s hi => ?_, fun i M1 H1 x H2 s dm hi ⟨e1, e2⟩ => ?_, fun i M1 H1 s hi => ?_⟩
  · obtain ⟨v, hv, _⟩ := HC.RpA.get p (List.getElem?_eq_getElem hi)
    exact ⟨xs, v, hs M1 H1 s, hv⟩
  · have hx := e2 xs (hs M1 H1 s)
    obtain ⟨d, h1, h2⟩ := HC.RpA.getV p hx
    subst e1
    exact ⟨d, h1, Same.refl', h2.step s⟩
  · exact ⟨xs, hs M1 H1 s, by rw [HC.RpA.length p]; exact hi⟩
def rngD (lo : Int) (n : Nat) : List D := (List.range n).map fun (i : Nat) => D.int (lo + i)
theorem yields_rng {M : Addr → Prop} {H : Hp} (lo : Int) (n : Nat) : Yields C M H (Itr lo n) (rngD lo n) := by
  have hl : (rngD lo n).length = n := by unfold rngD; rw [List.length_map, List.length_range]
  refine ⟨fun i M1 H1 s hi => by rw [hl] at hi; exact hi, fun i M1 H1 x H2 s dm hi ⟨e1, e2⟩ => ?_, fun i M1 H1 s hi => by rw [hl] at hi; exact hi⟩
  rw [hl] at hi
  subst e1 e2
  refine ⟨.int (lo + i), ?_, Same.refl', .int _⟩
  unfold rngD
  rw [List.getElem?_map, List.getElem?_range hi]
  rfl
def iRange : TPA → TPA := fun u r Q E => u r (fun ds => match ds with
  | [.int j] => (-(2 ^ 62) ≤ j ∧ j < 2 ^ 62) ∧ Q (rngD 0 j.toNat)
  | [.int i, .int j] => (-(2 ^ 62) ≤ i ∧ i < 2 ^ 62 ∧ -(2 ^ 62) ≤ j ∧ j < 2 ^ 62) ∧ Q (rngD i (j - i).toNat)
  | _ => False) E
theorem mono_irange {n : Nat} (h : MonoA n u) : MonoI (iRange u) := ⟨fun hq he q => h.imp (fun d _ z => by
  split at z
  · exact ⟨z.1, hq _ z.2⟩
  · exact ⟨z.1, hq _ z.2⟩
  · exact z) he q⟩
theorem di_range1 {p : Pos} (ha : DAq X C W [e] u) (hm : X.mg "range" = none) (hg : Gl X "range" := by rfl) (hs : starEach [e] X.env = [(false, eval e X.env)] := by rfl) : DI X C W tg (.Call (.Name "range" p) [e] [] pos) (iRange u) := by
  refine ⟨(pi_range1 hg hm ha.pa hs).imp fun σ H R ⟨M, r, E, S, hW, q⟩ => ⟨M, r, E, S, hW, ha.mo.imp (fun ds hl z vs H1 k1 S1 p1 => ?_) (fun _ z => z) q⟩, mono_irange ha.mo⟩
  split at z
  · obtain ⟨v, rfl, p⟩ := rq1 p1
    rw [p.int]
    exact ⟨_, rfl, z.1.1, z.1.2, z.2 _ H1 k1 S1 (yields_rng _ _)⟩
  · cases hl
  · exact z.elim
theorem di_range2 {p : Pos} {e2 : Expr} (ha : DAq X C W [e, e2] u) (hm : X.mg "range" = none) (hg : Gl X "range" := by rfl) (hs : starEach [e, e2] X.env = [(false, eval e X.env), (false, eval e2 X.env)] := by rfl) (hs2 : starEach [e2] X.env = [(false, eval e2 X.env)] := by rfl) :
    DI X C W tg (.Call (.Name "range" p) [e, e2] [] pos) (iRange u) := by
  refine ⟨(pi_range2 hg hm ha.pa hs hs2).imp fun σ H R ⟨M, r, E, S, hW, q⟩ => ⟨M, r, E, S, hW, ha.mo.imp (fun ds hl z vs H1 k1 S1 p1 => ?_) (fun _ z => z) q⟩, mono_irange ha.mo⟩
  split at z
  · cases hl
  · obtain ⟨v, v', rfl, p, p'⟩ := rq2 p1
    rw [p.int, p'.int]
    exact ⟨_, _, rfl, z.1, z.2 _ H1 k1 S1 (yields_rng _ _)⟩
  · exact z.elim
def enumD : Nat → List D → List D
  | _, [] => []
  | n, d :: r => .tuple [.int n, d] :: enumD (n + 1) r
theorem enumD_length : ∀ (n : Nat) (ds : List D), (enumD n ds).length = ds.length
  | _, [] => rfl
  | n, d :: r => by
    show (enumD (n + 1) r).length + 1 = r.length + 1
    rw [enumD_length]
theorem enumD_get : ∀ (n : Nat) (ds : List D) (i : Nat) (d : D), ds[i]? = some d → (enumD n ds)[i]? = some (.tuple [.int ((n + i : Nat) : Int), d])
  | _, [], _, _, h => by simp at h
  | n, x :: r, 0, d, h => by simp at h; subst h; rfl
  | n, x :: r, i + 1, d, h => by
    show (enumD (n + 1) r)[i]? = _
    rw [enumD_get (n + 1) r i d (by simpa using h)]
    have e : n + 1 + i = n + (i + 1) := by omega
    rw [e]
theorem yields_enum {M : Addr → Prop} {H : Hp} {a : Addr} {xs : List V} {ds : List D} (m : ¬ M a) (ea : H a = some (.lst xs)) (p : C.RpA M H xs ds) : Yields C M H (Ite C.K a) (enumD 0 ds) := by
  refine ⟨fun i M1 H1 s hi => ?_, fun i M1 H1 x H2 s dm hi ⟨T, y, e1, e2, e3, e4⟩ => ?_, fun i M1 H1 s hi => ?_⟩
  · rw [enumD_length] at hi
    obtain ⟨v, hv, _⟩ := HC.RpA.get p (List.getElem?_eq_getElem hi)
    exact ⟨xs, v, SqL.of (s a _ ea m).1, hv⟩
  · have hx := e4 xs (SqL.of (s a _ ea m).1)
    obtain ⟨d, h1, h2⟩ := HC.RpA.getV p hx
    subst e1 e3
    refine ⟨_, enumD_get 0 ds i d h1, same_upd e2, .tup (dm.fresh e2) upd_same ?_⟩
    rw [Nat.zero_add]
    exact .cons (.int _) (.cons ((h2.step s).step (Stp.grow (same_upd e2))) .nil)
  · rw [enumD_length] at hi
    exact ⟨xs, SqL.of (s a _ ea m).1, by rw [HC.RpA.length p]; exact hi⟩
def iEnumD (t : TP) : TPA := fun r Q E => t r (fun d => match d with
  | .list ds => Q (enumD 0 ds)
  | _ => False) E
theorem di_enum {p tpos : Pos} {elts : List Expr} {kk : Nat} (G : Good X C W k) (he : DV X C W e t) (hm : X.mg "enumerate" = none) (hg : Gl X "enumerate" := by rfl) (hs : starEach [e] X.env = [(false, eval e X.env)] := by rfl)
    (hs' : starEach [e] X.env = (false, eval e X.env) :: starEach [] X.env := by rfl) : DI X C W (.Tuple elts kk tpos) (.Call (.Name "enumerate" p) [e] [] pos) (iEnumD t) := by
  have fk := G.fit.k
  refine ⟨(pi_enum hg hm (pa_cons he.pe pa_nil hs') hs).imp fun σ H R ⟨M, r, E, S, hW, q⟩ => ⟨M, r, E, S, hW, he.mo.imp (fun d z v H1 k1 S1 p1 => ?_) (fun _ z => z) q⟩, ⟨fun hq he' q => he.mo.imp (fun d z => ?_) he' q⟩⟩
  · cases d with
    | list ds =>
      cases p1 with
      | @lst a xs _ m ea pa => exact ⟨a, xs, rfl, SqL.of ea, by rw [fk]; exact z _ H1 k1 S1 (yields_enum m ea pa)⟩
    | _ => exact z.elim
  · cases d with
    | list ds => exact hq _ z
    | _ => exact z
end
def En.lp (e : En) (n : Env → Prop) : En := { e with nx := n, ct := n, bk := e.nx }
theorem En.Le.lp {e e' : En} {n n' : Env → Prop} (h : En.Le e e') (hn : ∀ r, n r → n' r) : En.Le (e.lp n) (e'.lp n') := ⟨hn, h.rt, h.nx, hn, h.ex⟩
theorem Fits.lp {C : Ct} {W : XW} {M M' : Addr → Prop} {H H' : Hp} {e : En} {De : Ends} {n : Env → Prop} {N : L2.St → Hp → Prop} (f : Fits C W M H e De) (s : Stp M H M' H') (hn : ∀ M2 r σ H2, Stp M H M2 H2 → Sim C M2 r σ H2 → n r → N σ H2) :
    Fits C W M' H' (e.lp n) { De with nx := N, ct := N, bk := De.nx } :=
  ⟨fun M4 r4 σ4 H4 s4 S4 q4 => hn M4 r4 σ4 H4 (s.trans s4) S4 q4, f.rt, fun M4 r4 σ4 H4 s4 S4 q4 => f.nx M4 r4 σ4 H4 (s.trans s4) S4 q4, fun M4 r4 σ4 H4 s4 S4 q4 => hn M4 r4 σ4 H4 (s.trans s4) S4 q4, fun M4 r4 σ4 H4 c s4 S4 q4 => f.ex M4 r4 σ4 H4 c (s.trans s4) S4 q4⟩
def loopW (g : GD) (body : TSD) (e : En) : List D → Env → Prop
  | [], r => e.nx r
  | d :: ds, r => ∃ r1, g d r = some r1 ∧ body (e.lp (loopW g body e ds)) r1
def sFor (u : TPA) (g : GD) (body : TSD) : TSD := fun e r => u r (fun ds => loopW g body e ds r) (e.ex r)
section
variable {X : Cx} {C : Ct} {W : XW} {tg iter : Expr} {u : TPA} {pos : Pos} {k : Nat} {g : GD} {is : List Nat} {body : TSD} {sts : List Stmt}
theorem mono_loop (hb : MonoS body) {e e' : En} (h : En.Le e e') : ∀ (ds : List D) (r : Env), loopW g body e ds r → loopW g body e' ds r
  | [], r, q => h.nx r q
  | d :: ds, r, ⟨r1, e1, q⟩ => ⟨r1, e1, hb.imp (h.lp fun r' z => mono_loop hb h ds r' z) q⟩
theorem loop_drop {ds : List D} {i : Nat} {d : D} (h : ds[i]? = some d) : ds.drop i = d :: ds.drop (i + 1) := by
  obtain ⟨hi, e⟩ := List.getElem?_eq_some_iff.mp h
  rw [List.drop_eq_getElem_cons hi, e]
theorem ds_for (G : Good X C W k) (hi : DI X C W tg iter u) (hg : DG X C tg is g) (hb : DSs X C W sts body) (hs : ∀ x, foldedSetIterable iter X.env x = pure x := by intro _; rfl) : DS X C W (.For tg iter sts [] pos) (sFor u g body) := by
  refine ⟨(ps_for G.own G.calm hi.pi hg.pg hb.ps hs).imp fun De σ H ⟨M, r, e, S, f, q⟩ => ⟨M, r, e.ex r, S, f.wish S, hi.mo.imp (fun ds z J H1 k1 S1 Y => ?_) (fun _ z => z) q⟩, ⟨fun h q => hi.mo.imp (fun ds z => mono_loop hb.mo h ds _ z) (fun c z => h.ex _ c z) q⟩⟩
  have s1 : Stp M H M H1 := S.stp k1
  refine ⟨fun i m σ' H' => m = ds.length - i ∧ i ≤ ds.length ∧ ∃ M' r', Stp M H1 M' H' ∧ Sim C M' r' σ' H' ∧ loopW g body e (ds.drop i) r', ⟨ds.length, by simp, Nat.zero_le _, M, r, Stp.refl, S1, z⟩, ?_⟩
  rintro i m σ' H' ⟨rfl, hle, M', r', st, S', z'⟩
  by_cases hlt : i < ds.length
  · refine .inr ⟨Y.go i M' H' st hlt, fun σ2 H2 => ∃ M2 r2, Stp M H1 M2 H2 ∧ Sim C M2 r2 σ2 H2 ∧ loopW g body e (ds.drop (i + 1)) r2, fun σ2 H2 ⟨M2, r2, t2, S2, z2⟩ => ⟨ds.length - (i + 1), by omega, rfl, hlt, M2, r2, t2, S2, z2⟩, fun x H2 y => ?_⟩
    obtain ⟨d, hd, sm, p⟩ := Y.yld i M' H' x H2 st S'.dom hlt y
    rw [loop_drop hd] at z'
    obtain ⟨r1, e1, z'⟩ := z'
    have S2 := S'.same sm
    have st2 : Stp M H1 M' H2 := st.trans (Stp.grow sm)
    exact ⟨M', r', d, r1, S2, p, e1, fun σ3 S3 _ => ⟨M', r1, _, S3, (f.step s1).lp st2 fun M4 r4 σ4 H4 s4 S4 q4 => ⟨M4, r4, s4, S4, q4⟩, z'⟩⟩
  · have ei : i = ds.length := by omega
    subst ei
    rw [List.drop_length] at z'
    exact .inl ⟨Y.stop _ M' H' st (Nat.le_refl _), f.nx M' r' σ' H' (s1.trans st) S' z'⟩
def sWhile (b : TB) (body : TSD) : TSD := fun e r => ∃ I : Nat → Env → Prop, (∃ m, I m r) ∧ ∀ m r, I m r → b r (fun k => if k = true then body (e.lp fun r' => ∃ m', m' < m ∧ I m' r') r else e.nx r) (e.ex r)
theorem ds_while {c : Expr} {b : TB} (G : Good X C W k) (hc : DT X C W c b) (hb : DSs X C W sts body) : DS X C W (.While c sts [] pos) (sWhile b body) := by
  refine ⟨(ps_while G.own hc.pt hb.ps).imp fun De σ H ⟨M, r, e, S, f, I, ⟨m, hm⟩, step⟩ => ?_, ⟨fun {e e' r} h ⟨I, h0, hs⟩ => ⟨I, h0, fun m r hm => hc.mo.imp (fun k z => ?_) (fun c z => h.ex _ c z) (hs m r hm)⟩⟩⟩
  · refine ⟨fun m σ' H' => ∃ M' r', Stp M H M' H' ∧ Sim C M' r' σ' H' ∧ I m r', ⟨m, M, r, Stp.refl, S, hm⟩, ?_⟩
    rintro m σ' H' ⟨M', r', st, S', hI⟩
    refine ⟨M', r', e.ex r', S', (f.step st).wish S', hc.mo.imp (fun k z H2 k2 S2 => ?_) (fun _ z => z) (step m r' hI)⟩
    have st2 : Stp M H M' H2 := st.trans (S'.stp k2)
    cases k with
    | true =>
      exact ⟨fun σ3 H3 => ∃ m' M3 r3, m' < m ∧ Stp M H M3 H3 ∧ Sim C M3 r3 σ3 H3 ∧ I m' r3, fun σ3 H3 ⟨m', M3, r3, l, a, b, c⟩ => ⟨m', l, M3, r3, a, b, c⟩, M', r', _, S2, f.lp st2 fun M4 r4 σ4 H4 s4 S4 ⟨m', l, q4⟩ => ⟨m', M4, r4, l, s4, S4, q4⟩, z⟩
    | false => exact f.nx M' r' σ' H2 st2 S2 z
  · cases k with
    | true => exact hb.mo.imp (h.lp fun _ z => z) z
    | false => exact h.nx _ z
end
end HC
namespace HC
open PySem PySem.Spec PyProof.Rows L2
def lN (C : Ct) (W : XW) (t : TP) : TE := fun σ H Q => ∃ M r E, Sim C M r σ H ∧ Wish C W M r σ H E ∧
  t r (fun d => ∀ p H', C.Ex H H' → H p = none → Sim C (fun a => M a ∨ a = p) r σ H' → C.Top (fun a => M a ∨ a = p) H' p d → Q (.ref p) H') E
structure DN (X : Cx) (C : Ct) (W : XW) (e : Expr) (t : TP) : Prop where
  pe : PE X e (lN C W t)
  mo : Mono t
def xOwn (t : TP) : TX := fun r Q E => t r (fun d => Q (.own d)) E
section
variable {X : Cx} {C : Ct} {W : XW} {e : Expr} {es : List Expr} {t : TP} {u : TPA} {pos : Pos} {k : Nat}
theorem Sim.drop {M : Addr → Prop} {r : Env} {σ : L2.St} {H H' : Hp} {p : Addr} (S : Sim C M r σ H) (hp : H p = none) (S' : Sim C (fun a => M a ∨ a = p) r σ H') : Sim C M r σ H' := by
  have st : Stp (fun a => M a ∨ a = p) H' M H' := Stp.less fun a m => .inl m
  refine ⟨S'.len, fun i d q => ?_, fun i d q => ?_, S'.sep, S'.tk, S'.base.to st, S.m0, fun a m => S'.dom a (.inl m), S.inm⟩
  · obtain ⟨v, h1, h2⟩ := S'.val i d q
    exact ⟨v, h1, h2.step st⟩
  · obtain ⟨a, h1, h2, h3, h4, h5⟩ := S'.own i d q
    obtain ⟨b, g1, g2, _⟩ := S.own i d q
    rw [h1] at g1
    cases g1
    exact ⟨a, h1, g2, h3, h4, h5.step st fun o z => z⟩
theorem DN.x (h : DN X C W e t) : DX X C W e (xOwn t) :=
  ⟨h.pe.imp fun σ H Q ⟨M, r, E, S, hW, q⟩ => ⟨M, r, E, S, hW, h.mo.imp (fun d z p H' k' hp S' tp => z _ _ H' k' ⟨fun a m => .inl m, fun a m => m.elim .inl fun e => .inr (e ▸ hp)⟩ S' (.own (.inr rfl) hp tp)) (fun _ z => z) q⟩, ⟨fun hq he q => h.mo.imp (fun d z => hq _ z) he q⟩⟩
theorem DN.v (h : DN X C W e t) : DV X C W e t :=
  ⟨h.pe.imp fun σ H Q ⟨M, r, E, S, hW, q⟩ => ⟨M, r, E, S, hW, h.mo.imp (fun d z p H' k' hp S' tp => z _ H' k' (S.drop hp S') ((tp.step (Stp.less fun a m => .inl m) fun o z => z).rp (S.fresh hp))) (fun _ z => z) q⟩, h.mo⟩
theorem dn_lst (h : DAv X C W es u) (hl : es.length ≤ 1000 := by decide) : DN X C W (.List es pos) (wLst u) := by
  refine ⟨(pe_lst h.pa).imp fun σ H Q ⟨M, r, E, S, hW, q⟩ => ⟨M, r, E, S, hW, h.mo.imp (fun ds hd z vs H1 k1 S1 p1 => ⟨le1000 (by rw [HC.RpA.length p1, hd]; exact hl), fun p hp => ?_⟩) (fun _ z => z) q⟩, ⟨fun hq he q => h.mo.imp (fun _ _ z => hq _ z) he q⟩⟩
  have S2 := S1.take (p := p) (H' := upd H1 p (.lst vs)) hp (same_upd hp) (by rw [upd_same]; simp)
  refine z p _ (k1.trans (Same.ex (same_upd hp))) (S1.none_of k1 hp) S2 (.lst upd_same ?_)
  exact HC.RpA.step (fun a o e m => ⟨same_upd hp a o e, fun z => z.elim m fun q => by rw [q, hp] at e; cases e⟩) p1
end
def W0 : XW := fun _ _ _ _ => False
def E0' : Addr → Prop := fun _ => False
def wipeD (r : Env) : List Nat → Env
  | [] => r
  | v :: vs => (wipeD r vs).set v .un
theorem Sim.un {C : Ct} {M : Addr → Prop} {r : Env} {σ : L2.St} {H : Hp} (S : Sim C M r σ H) (i : Nat) : Sim C M (r.set i .un) (σ.set i none) H := by
  have hl : (r.set i Sl.un).length = r.length := List.length_set ..
  have ne : ∀ {j : Nat} {x : Sl}, x ≠ .un → (r.set i .un)[j]? = some x → i ≠ j := fun {j x} hx q z => by
    subst z
    by_cases hi : i < r.length
    · rw [List.getElem?_set_self hi] at q; cases q; exact hx rfl
    · rw [List.getElem?_eq_none (by rw [hl]; omega)] at q; cases q
  refine ⟨by rw [List.length_set, List.length_set]; exact S.len, fun j d q => ?_, fun j d q => ?_, fun j b x y c q1 q2 q3 q4 => ?_, fun j q => ?_, S.base, S.m0, S.dom, S.inm⟩
  · have n := ne (by simp) q
    rw [List.getElem?_set_ne n] at q ⊢
    exact S.val j d q
  · have n := ne (by simp) q
    rw [List.getElem?_set_ne n] at q ⊢
    exact S.own j d q
  · have n1 := ne (by simp) q1
    have n2 := ne (by simp) q2
    rw [List.getElem?_set_ne n1] at q1 q3
    rw [List.getElem?_set_ne n2] at q2 q4
    exact S.sep j b x y c q1 q2 q3 q4
  · rename_i x'
    by_cases hx : x' = .un
    · subst hx; exact trivial
    · have n := ne hx q
      rw [List.getElem?_set_ne n] at q ⊢
      exact S.tk j q
theorem Sim.wipe {C : Ct} {M : Addr → Prop} {r : Env} {σ : L2.St} {H : Hp} (S : Sim C M r σ H) : ∀ vs : List Nat, Sim C M (wipeD r vs) (L2.wipe σ vs) H
  | [] => S
  | v :: vs => (Sim.wipe S vs).un v
structure DTs (X : Cx) (C : Ct) (W : XW) (ifs : List Expr) (t : TB) : Prop where
  pt : PTs X ifs (lB C W t)
  mo : MonoB t
def bYes : TB := fun _ Q _ => Q true
theorem _root_.L2.PTs.imp {X : Cx} {e : List Expr} {t t' : TT} (h : PTs X e t) (hi : ∀ σ H Q, t' σ H Q → t σ H Q) : PTs X e t' := ⟨fun pins s σ H Q I q => h.run pins s σ H Q I (hi _ _ _ q)⟩
theorem dts_nil {X : Cx} {C : Ct} {W : XW} : DTs X C W [] bYes := ⟨pts_nil.imp fun σ H Q ⟨M, r, E, S, hW, q⟩ => q H Ct.Ex.refl S, ⟨fun hq _ h => hq _ h⟩⟩
theorem dts_one {X : Cx} {C : Ct} {W : XW} {c : Expr} {t : TB} (h : DT X C W c t) : DTs X C W [c] t := ⟨pts_one h.pt, h.mo⟩
def compW (g : GD) (tt : TB) (te : TP) (r : Env) : List D → (List D → Prop) → Prop
  | [], Q => Q []
  | d :: ds, Q => ∃ r1, g d r = some r1 ∧ tt r1 (fun b => if b = true then te r1 (fun y => compW g tt te r ds (fun ys => Q (y :: ys))) E0' else compW g tt te r ds Q) E0'
def wComp (vs : List Nat) (u : TPA) (g : GD) (tt : TB) (te : TP) : TP := fun r Q E => u r (fun ds => ds.length ≤ sizeLine ∧ compW g tt te (wipeD r vs) ds fun ys => Q (.list ys)) E
section
variable {g : GD} {tt : TB} {te : TP}
theorem mono_compW (ht : MonoB tt) (he : Mono te) (r : Env) : ∀ (ds : List D) {Q Q' : List D → Prop}, (∀ d, Q d → Q' d) → compW g tt te r ds Q → compW g tt te r ds Q'
  | [], _, _, h, q => h _ q
  | d :: ds, Q, Q', h, ⟨r1, e1, q⟩ => ⟨r1, e1, ht.imp (fun b z => by
    cases b with
    | true => exact he.imp (fun y w => mono_compW ht he r ds (fun ys v => h _ v) w) (fun _ z => z) z
    | false => exact mono_compW ht he r ds h z) (fun _ z => z) q⟩
theorem mono_comp {vs : List Nat} {u : TPA} (hu : MonoI u) (ht : MonoB tt) (he : Mono te) : Mono (wComp vs u g tt te) := ⟨fun hq hE q => hu.imp (fun ds ⟨l, z⟩ => ⟨l, mono_compW ht he _ ds (fun ys w => hq _ w) z⟩) hE q⟩
variable {X : Cx} {C : Ct} {W : XW} {elt tg iter : Expr} {ifs : List Expr} {scope : Scope} {own : List (Str × Nat)} {is : List Nat} {u : TPA} {pos : Pos} {k : Nat}
theorem Good.blk (G : Good X C W k) (s : Shared) (H : Hp) (Ca : Addr) (cl : List (Str × Addr)) (fp : List Addr) : Good (X.blk s H scope (compEnvC scope cl Ca X.env) fp) C W0 k :=
  ⟨⟨G.fit.k, G.fit.p, G.fit.w⟩, G.calm, G.room, fun σ pins H s e s' I c => by
    obtain ⟨a, B, H', cls, d, _, _, _, _, _, _, _, z⟩ := c
    exact z.elim, PassesOwn.never, G.nd⟩
theorem run_comp (hu : MonoI u) (ht : MonoB tt) (he : Mono te) (hi : ∀ i ∈ is, i ∈ own.map (·.2)) {σ : L2.St} {H : Hp} {Q : VK} (h : lN C W (wComp (own.map (·.2)) u g tt te) σ H Q) :
    tLc (lI C W u) (lG C is g) (lB C W0 tt) (lV C W0 te) (own.map (·.2)) σ H Q := by
  obtain ⟨M, r, E, S, hW, q⟩ := h
  refine ⟨M, r, E, S, hW, hu.imp (fun ds ⟨hl, z⟩ J H1 k1 S1 Y D hD => ?_) (fun _ z => z) q⟩
  have nD : ¬ M D := S1.fresh hD
  have n0 := S1.newH0 hD
  have ntD : ¬ C.inT D := fun t => n0.2 (S1.inm D t)
  have S2 : Sim C (fun a => M a ∨ a = D) r σ (upd H1 D (.lst [])) := S1.take hD (same_upd hD) (by rw [upd_same]; simp)
  have stD : Stp M H1 (fun a => M a ∨ a = D) (upd H1 D (.lst [])) := fun a o e m => ⟨same_upd hD a o e, fun z => z.elim m fun q => by rw [q, hD] at e; cases e⟩
  refine ⟨fun i m H' => m = ds.length - i ∧ i ≤ ds.length ∧ C.Ex H1 H' ∧ Sim C (fun a => M a ∨ a = D) r σ H' ∧ Stp M H1 (fun a => M a ∨ a = D) H' ∧ ∃ acc ys, H' D = some (.lst acc) ∧ C.RpA (fun a => M a ∨ a = D) H' acc ys ∧ ys.length ≤ i ∧
    compW g tt te (wipeD r (own.map (·.2))) (ds.drop i) (fun zs => (∀ p H', C.Ex H H' → H p = none → Sim C (fun a => M a ∨ a = p) r σ H' → C.Top (fun a => M a ∨ a = p) H' p (.list (ys ++ zs)) → Q (.ref p) H')),
    ⟨ds.length, by simp, Nat.zero_le _, Same.ex (same_upd hD), S2, stD, [], [], upd_same, .nil, Nat.le_refl _, z⟩, ?_⟩
  rintro i m H' ⟨rfl, hle, kx, S', st', acc, ys, eD, pA, ly, z'⟩
  by_cases hlt : i < ds.length
  · refine .inr ⟨Y.go i _ H' st' hlt, fun H2 => C.Ex H1 H2 ∧ Sim C (fun a => M a ∨ a = D) r σ H2 ∧ Stp M H1 (fun a => M a ∨ a = D) H2 ∧ ∃ acc ys, H2 D = some (.lst acc) ∧ C.RpA (fun a => M a ∨ a = D) H2 acc ys ∧ ys.length ≤ i + 1 ∧
      compW g tt te (wipeD r (own.map (·.2))) (ds.drop (i + 1)) (fun zs => (∀ p H', C.Ex H H' → H p = none → Sim C (fun a => M a ∨ a = p) r σ H' → C.Top (fun a => M a ∨ a = p) H' p (.list (ys ++ zs)) → Q (.ref p) H')), fun H2 h2 => ⟨ds.length - (i + 1), by omega, rfl, hlt, h2⟩, fun x H2 y => ?_⟩
    obtain ⟨d, hd, sm, p⟩ := Y.yld i _ H' x H2 st' S'.dom hlt y
    rw [loop_drop hd] at z'
    obtain ⟨r1, e1, z'⟩ := z'
    have SA := S'.same sm
    have wS := SA.wipe (own.map (·.2))
    refine ⟨_, _, d, r1, wS, p, e1, fun σ3 S3 w3 => ⟨?_, ?_⟩⟩
    · have e := w3 (own.map (·.2)) hi
      rw [e]
      have tw : ∀ (vs ws : List Nat), (∀ v ∈ vs, v ∈ ws) → L2.wipe (L2.wipe σ vs) ws = L2.wipe σ ws := by
        intro vs
        induction vs with
        | nil => intro ws _; rfl
        | cons v vs ih =>
          intro ws hv
          show L2.wipe ((L2.wipe σ vs).set v none) ws = _
          rw [wipe_set (hv v (by simp))]
          exact ih ws fun x hx => hv x (List.mem_cons_of_mem _ hx)
      exact tw _ _ fun _ h => h
    · refine ⟨_, r1, E0', S3, fun c H4 _ _ z => z, ht.imp (fun b z H4 k4 S4 => ?_) (fun _ z => z) z'⟩
      have kx4 : C.Ex H' H4 := (Same.ex sm).trans k4
      have SB : Sim C (fun a => M a ∨ a = D) r σ H4 := SA.grow k4 S4.base.tok
      have st4 : Stp M H1 (fun a => M a ∨ a = D) H4 := st'.trans (S'.stp kx4)
      cases b with
      | true =>
        refine ⟨_, r1, E0', S4, fun c H4 _ _ z => z, he.imp (fun yd w vy H5 k5 S5 p5 => ?_) (fun _ z => z) z⟩
        have kx5 : C.Ex H' H5 := kx4.trans k5
        have eD5 : H5 D = some (.lst acc) := kx5 D _ ntD eD
        have SC : Sim C (fun a => M a ∨ a = D) r σ H5 := SB.grow k5 S5.base.tok
        have st5 : Stp M H1 (fun a => M a ∨ a = D) H5 := st'.trans (S'.stp kx5)
        have pA5 : C.RpA (fun a => M a ∨ a = D) H5 acc ys := HC.RpA.step (S'.stp kx5) pA
        refine ⟨acc, eD5, by rw [HC.RpA.length pA]; omega, ?_⟩
        have stU : Stp (fun a => M a ∨ a = D) H5 (fun a => M a ∨ a = D) (upd H5 D (.lst (acc ++ [vy]))) := fun b x e n => ⟨by rw [upd_ne (fun z : b = D => n (.inr z))]; exact e, n⟩
        have SD : Sim C (fun a => M a ∨ a = D) r σ (upd H5 D (.lst (acc ++ [vy]))) := by
          refine ⟨SC.len, fun j dd q => ?_, fun j dd q => ?_, SC.sep, SC.tk, ⟨fun b x n e => ?_, ?_⟩, SC.m0, fun b mb zz => ?_, SC.inm⟩
          · obtain ⟨v, h1, h2⟩ := SC.val j dd q
            exact ⟨v, h1, h2.step stU⟩
          · obtain ⟨a, h1, h2, h3, h4, h5⟩ := SC.own j dd q
            obtain ⟨b, g1, g2, _⟩ := S1.own j dd q
            rw [h1] at g1
            cases g1
            exact ⟨a, h1, h2, h3, h4, h5.step stU fun o zz => by
              rw [upd_ne (fun y : a = D => nD (y ▸ g2))]
              exact zz⟩
          · rw [upd_ne (fun zz : b = D => by rw [zz, n0.1] at e; cases e)]
            exact SC.base.keep b x n e
          · exact tok_step stU (fun b hb => upd_ne (fun z => ntD (z ▸ hb))) SC.base.tok
          · by_cases hb : b = D
            · subst hb; rw [upd_same] at zz; cases zz
            · rw [upd_ne hb] at zz; exact SC.dom b mb zz
        refine ⟨fun b x n e => ?_, SD, st5.trans stU, acc ++ [vy], ys ++ [yd], upd_same, HC.RpA.append (HC.RpA.step stU pA5) (.cons (HC.Rp.step stU p5) .nil), by rw [List.length_append]; show ys.length + 1 ≤ i + 1; omega, ?_⟩
        · rw [upd_ne (fun zz : b = D => by rw [zz, hD] at e; cases e)]
          exact kx5 b x n (kx b x n e)
        · refine mono_compW ht he _ _ (fun zs v p H' a b c tp => v p H' a b c ?_) w
          have e : ys ++ [yd] ++ zs = ys ++ yd :: zs := by rw [List.append_assoc]; rfl
          rw [e] at tp
          exact tp
      | false => exact ⟨kx.trans kx4, SB, st4, acc, ys, kx4 D _ ntD eD, HC.RpA.step (S'.stp kx4) pA, by omega, z⟩
  · have ei : i = ds.length := by omega
    subst ei
    rw [List.drop_length] at z'
    refine .inl ⟨Y.stop _ _ H' st' (Nat.le_refl _), ?_⟩
    have z'' : (∀ p H', C.Ex H H' → H p = none → Sim C (fun a => M a ∨ a = p) r σ H' → C.Top (fun a => M a ∨ a = p) H' p (.list (ys ++ [])) → Q (.ref p) H') := z'
    rw [List.append_nil] at z''
    exact z'' D H' (k1.trans kx) (S1.none_of k1 hD) S' (.lst eD pA)
theorem dn_comp (own : List (Str × Nat)) (G : Good X C W k) (hi : DI X C W tg iter u) (ok : BlkOk X.N X.env.scope scope own)
    (hg : ∀ (s : Shared) (H : Hp) (Ca : Addr) (cl : List (Str × Addr)) (fp : List Addr), Good (X.blk s H scope (compEnvC scope cl Ca X.env) fp) C W0 k → DG (X.blk s H scope (compEnvC scope cl Ca X.env) fp) C tg is g)
    (ht : ∀ (s : Shared) (H : Hp) (Ca : Addr) (cl : List (Str × Addr)) (fp : List Addr), Good (X.blk s H scope (compEnvC scope cl Ca X.env) fp) C W0 k → DTs (X.blk s H scope (compEnvC scope cl Ca X.env) fp) C W0 ifs tt)
    (he : ∀ (s : Shared) (H : Hp) (Ca : Addr) (cl : List (Str × Addr)) (fp : List Addr), Good (X.blk s H scope (compEnvC scope cl Ca X.env) fp) C W0 k → DV (X.blk s H scope (compEnvC scope cl Ca X.env) fp) C W0 elt te)
    (his : ∀ i ∈ is, i ∈ own.map (·.2) := by decide) (hs : ∀ x, foldedSetIterable iter X.env x = pure x := by intro _; rfl) :
    DN X C W (.ListComp elt [⟨tg, iter, ifs, 0⟩] scope pos) (wComp (own.map (·.2)) u g tt te) := by
  have mt : MonoB tt := (ht X.s_0 (fun _ => none) 0 [] [] (G.blk _ _ _ _ _)).mo
  have me : Mono te := (he X.s_0 (fun _ => none) 0 [] [] (G.blk _ _ _ _ _)).mo
  refine ⟨(pe_lc G.calm G.nd hi.pi ok (fun s H Ca cl fp => (hg s H Ca cl fp (G.blk ..)).pg) (fun s H Ca cl fp => (ht s H Ca cl fp (G.blk ..)).pt) (fun s H Ca cl fp => (he s H Ca cl fp (G.blk ..)).pe) hs).imp fun σ H Q h => run_comp hi.mo mt me his h, mono_comp hi.mo mt me⟩
theorem ds_setLcV (i : Nat) {y : Str} {py spos : Pos} (own : List (Str × Nat)) (G : Good X C W k) (hi : DI X C W tg iter u) (ok : BlkOk X.N X.env.scope scope own)
    (hg : ∀ (s : Shared) (H : Hp) (Ca : Addr) (cl : List (Str × Addr)) (fp : List Addr), Good (X.blk s H scope (compEnvC scope cl Ca X.env) fp) C W0 k → DG (X.blk s H scope (compEnvC scope cl Ca X.env) fp) C tg is g)
    (ht : ∀ (s : Shared) (H : Hp) (Ca : Addr) (cl : List (Str × Addr)) (fp : List Addr), Good (X.blk s H scope (compEnvC scope cl Ca X.env) fp) C W0 k → DTs (X.blk s H scope (compEnvC scope cl Ca X.env) fp) C W0 ifs tt)
    (he : ∀ (s : Shared) (H : Hp) (Ca : Addr) (cl : List (Str × Addr)) (fp : List Addr), Good (X.blk s H scope (compEnvC scope cl Ca X.env) fp) C W0 k → DV (X.blk s H scope (compEnvC scope cl Ca X.env) fp) C W0 elt te)
    (hsw : swapsWith (.ListComp elt [⟨tg, iter, ifs, 0⟩] scope pos) (some (.Name y py)) spos.line X.env = pure true) (hy : X.N[i]? = some y := by rfl) (hyl : X.env.scope.names.lookup y = some .local := by rfl)
    (his : ∀ i ∈ is, i ∈ own.map (·.2) := by decide) (hs : ∀ x, foldedSetIterable iter X.env x = pure x := by intro _; rfl) :
    DS X C W (.Assign [.Name y py] (.ListComp elt [⟨tg, iter, ifs, 0⟩] scope pos) spos) (sAsg i (xVal (wComp (own.map (·.2)) u g tt te))) := by
  have mt : MonoB tt := (ht X.s_0 (fun _ => none) 0 [] [] (G.blk _ _ _ _ _)).mo
  have me : Mono te := (he X.s_0 (fun _ => none) 0 [] [] (G.blk _ _ _ _ _)).mo
  have mo := mono_comp (vs := own.map (·.2)) (g := g) hi.mo mt me
  refine ⟨(ps_setLc G.calm G.nd hy hyl hsw hi.pi ok (fun s H Ca cl fp => (hg s H Ca cl fp (G.blk ..)).pg) (fun s H Ca cl fp => (ht s H Ca cl fp (G.blk ..)).pt) (fun s H Ca cl fp => (he s H Ca cl fp (G.blk ..)).pe) hs).imp fun De σ H ⟨M, r, e, S, f, q⟩ => ?_, ⟨fun {e e' r} h q => mo.imp (fun d z => h.nx _ z) (fun c z => h.ex _ c z) (show wComp (own.map (·.2)) u g tt te r (fun d => e.nx (r.set i (.val d))) (e.ex r) from q)⟩⟩
  refine run_comp hi.mo mt me his ⟨M, r, e.ex r, S, f.wish S, mo.imp (fun d z p H' k' hp S' tp => ?_) (fun _ z => z) (show wComp (own.map (·.2)) u g tt te r (fun d => e.nx (r.set i (.val d))) (e.ex r) from q)⟩
  exact f.nx M _ _ H' (S.stp k') ((S.drop hp S').set ((tp.step (Stp.less fun a m => .inl m) fun o z => z).rp (S.fresh hp))) z
end
end HC
namespace HC
open PySem PySem.Spec PyProof.Rows L2
abbrev TXA := Env → (List Sl → Prop) → (Addr → Prop) → Prop
inductive SlRA (C : Ct) (M : Addr → Prop) (H : Hp) (N : Addr → Prop) : List V → List Sl → Prop
  | nil : SlRA C M H N [] []
  | cons {v : V} {s : Sl} {vs : List V} {ss : List Sl} : SlR C M H N v s → SlRA C M H N vs ss → (∀ (a : Addr) (d : D) (j : Nat) (e : D), v = .ref a → s = .own d → ss[j]? = some (.own e) → vs[j]? ≠ some (.ref a)) → SlRA C M H N (v :: vs) (s :: ss)
def lAx (C : Ct) (W : XW) (t : TXA) : TA := fun σ H Q => ∃ M r E, Sim C M r σ H ∧ Wish C W M r σ H E ∧ t r (fun ss => ∀ vs M' H', C.Ex H H' → Grow M M' H → Sim C M' r σ H' → SlRA C M' H' (fun a => H a = none) vs ss → Q vs H') E
structure MonoXA (n : Nat) (t : TXA) : Prop where
  imp : ∀ {r : Env} {Q Q' : List Sl → Prop} {E E' : Addr → Prop}, (∀ d, d.length = n → Q d → Q' d) → (∀ c, E c → E' c) → t r Q E → t r Q' E'
structure DAx (X : Cx) (C : Ct) (W : XW) (es : List Expr) (t : TXA) : Prop where
  pa : PA X es (lAx C W t)
  mo : MonoXA es.length t
def xNil : TXA := fun _ Q _ => Q []
def xCons (t : TX) (u : TXA) : TXA := fun r Q E => t r (fun x => u r (fun xs => Q (x :: xs)) E) E
section
variable {X : Cx} {C : Ct} {W : XW} {e : Expr} {es : List Expr} {t : TX} {u : TXA} {pos : Pos} {k : Nat}
theorem dax_nil : DAx X C W [] xNil := ⟨pa_nil.imp fun σ H Q ⟨M, r, E, S, hW, q⟩ => q [] M H Ct.Ex.refl Grow.refl S .nil, ⟨fun hq _ h => hq _ rfl h⟩⟩
theorem Wish.grow {M M' : Addr → Prop} {r : Env} {σ : L2.St} {H H1 : Hp} {E : Addr → Prop} (h : Wish C W M r σ H E) (S : Sim C M r σ H) (k : C.Ex H H1) (g : Grow M M' H) : Wish C W M' r σ H1 E := fun c H' k' S' q => by
  refine h c H' (k.trans k') ?_ q
  have st : Stp M' H' M H' := Stp.less g.up
  refine ⟨S'.len, fun i d z => ?_, fun i d z => ?_, S'.sep, S'.tk, S'.base.to st, S.m0, fun a m => S'.dom a (g.up a m), S.inm⟩
  · obtain ⟨v, h1, h2⟩ := S'.val i d z
    exact ⟨v, h1, h2.step st⟩
  · obtain ⟨a, h1, h2, h3, h4, h5⟩ := S'.own i d z
    obtain ⟨b, g1, g2, _⟩ := S.own i d z
    rw [h1] at g1
    cases g1
    exact ⟨a, h1, g2, h3, h4, h5.step st fun o y => y⟩
theorem Stp.slr {M M' : Addr → Prop} {H H' : Hp} {N : Addr → Prop} {v : V} {s : Sl} (st : Stp M H M' H') (up : ∀ a, M a → M' a) (nt : ∀ a, N a → M a → ¬ C.inT a) (k : C.Ex H H') (p : SlR C M H N v s) : SlR C M' H' N v s := by
  cases p with
  | val p => exact .val (HC.Rp.step st p)
  | own m n p => exact .own (up _ m) n (HC.Top.step st (fun o z => k _ o (nt _ n m) z) p)
theorem dax_cons (h : DX X C W e t) (h' : DAx X C W es u) (hs : starEach (e :: es) X.env = (false, eval e X.env) :: starEach es X.env := by rfl) : DAx X C W (e :: es) (xCons t u) := by
  refine ⟨(pa_cons h.pe h'.pa hs).imp fun σ H Q ⟨M, r, E, S, hW, q⟩ => ⟨M, r, E, S, hW, h.mo.imp (fun x z v M1 H1 k1 g1 S1 p1 => ⟨M1, r, E, S1, hW.grow S k1 g1, h'.mo.imp (fun xs _ y vs M2 H2 k2 g2 S2 p2 => ?_) (fun _ z => z) z⟩) (fun _ z => z) q⟩,
    ⟨fun hq he q => h.mo.imp (fun x z => h'.mo.imp (fun xs hl y => hq _ (by rw [List.length_cons, List.length_cons, hl]) y) he z) he q⟩⟩
  have bk : ∀ a, H1 a = none → H a = none := fun a z => S1.none_of k1 z
  have nn : ∀ a, H a = none → ¬ C.inT a := fun a z t => S.dom a (S.tm t) z
  refine y _ M2 H2 (k1.trans k2) (g1.trans g2 k1 (fun a t => S.tm t)) S2 (.cons (Stp.slr (g2.stp S1 k2) g2.up (fun a n _ => nn a n) k2 p1) ?_ ?_)
  · have up : ∀ {vs ss}, SlRA C M2 H2 (fun a => H1 a = none) vs ss → SlRA C M2 H2 (fun a => H a = none) vs ss := by
      intro vs ss hh
      induction hh with
      | nil => exact .nil
      | cons a b c ih =>
        refine .cons ?_ ih c
        cases a with
        | val p => exact .val p
        | own m n p => exact .own m (bk _ n) p
    exact up p2
  · intro a d j e ev es' ej vj
    subst ev es'
    cases p1 with
    | own m n p =>
      have there : H1 a ≠ none := by
        cases p with
        | lst hh _ => rw [hh]; simp
        | dctK hh _ => rw [hh]; simp
        | dctN hh _ _ => rw [hh]; simp
        | hld hh => exact hh.some'
      have new : ∀ {vs ss}, SlRA C M2 H2 (fun a => H1 a = none) vs ss → ∀ (j : Nat), ss[j]? = some (.own e) → vs[j]? = some (.ref a) → H1 a = none := by
        intro vs ss hh
        induction hh with
        | nil => intro j z; simp at z
        | cons a b c ih =>
          intro j z1 z2
          cases j with
          | zero =>
            simp at z1 z2
            subst z1 z2
            cases a with
            | own m n p => exact n
          | succ j => exact ih j (by simpa using z1) (by simpa using z2)
      exact there (new p2 j ej vj)
end
section
variable {C : Ct} {M : Addr → Prop} {r : Env} {σ : L2.St} {H H' : Hp}
theorem Sim.setNew {M' : Addr → Prop} {N : Addr → Prop} {v : V} {s : Sl} (i : Nat) (S' : Sim C M' r σ H') (p : SlR C M' H' N v s) (h : ∀ a d, v = .ref a → s = .own d → C.H0 a = none ∧ ¬ C.M0 a ∧ ∀ (j : Nat) (e : D), r[j]? = some (.own e) → σ[j]? ≠ some (some (.ref a))) :
    Sim C M' (r.set i s) (σ.set i (some v)) H' := by
  cases p with
  | val p => exact S'.set p
  | own m n p =>
    obtain ⟨h0, m0, nw⟩ := h _ _ rfl rfl
    exact S'.setOwn m h0 m0 p fun j e e1 e2 => absurd e2 (nw j e e1)
theorem Sim.set2 {M' : Addr → Prop} {v w : V} {s s' : Sl} (i j : Nat) (S : Sim C M r σ H) (S' : Sim C M' r σ H') (p : SlRA C M' H' (fun a => H a = none) [v, w] [s, s']) : Sim C M' ((r.set i s).set j s') ((σ.set i (some v)).set j (some w)) H' := by
  cases p with
  | cons p1 q d1 =>
    cases q with
    | cons p2 q d2 =>
      have S1 := S.setSl (i := i) S' p1
      refine S1.setNew j p2 fun a d ev es => ?_
      subst ev es
      have n : H a = none := by cases p2 with | own _ n _ => exact n
      obtain ⟨h0, m0⟩ := S.newH0 n
      refine ⟨h0, m0, fun l e e1 e2 => ?_⟩
      by_cases hl : i = l
      · subst hl
        by_cases hi : i < r.length
        · rw [List.getElem?_set_self hi] at e1
          rw [List.getElem?_set_self (by rw [S.len]; exact hi)] at e2
          cases e1; cases e2
          exact d1 a _ 0 d rfl rfl rfl rfl
        · rw [List.getElem?_eq_none (by rw [List.length_set]; omega)] at e1; cases e1
      · rw [List.getElem?_set_ne hl] at e1 e2
        exact S.old n e1 e2
theorem Sim.set3 {M' : Addr → Prop} {v w z : V} {s s' s'' : Sl} (i j l : Nat) (hij : i ≠ j) (S : Sim C M r σ H) (S' : Sim C M' r σ H') (p : SlRA C M' H' (fun a => H a = none) [v, w, z] [s, s', s'']) :
    Sim C M' (((r.set i s).set j s').set l s'') (((σ.set i (some v)).set j (some w)).set l (some z)) H' := by
  cases p with
  | cons p1 q d1 =>
    cases q with
    | cons p2 q d2 =>
      cases q with
      | cons p3 q d3 =>
        have S1 := S.set2 i j S' (.cons p1 (.cons p2 .nil (fun a d j e _ _ z => by simp at z)) fun a d jj e e1 e2 e3 e4 => by
          cases jj with
          | zero => exact d1 a d 0 e e1 e2 (by simpa using e3) (by simpa using e4)
          | succ n => simp at e3)
        refine S1.setNew l p3 fun a d ev es => ?_
        subst ev es
        have n : H a = none := by cases p3 with | own _ n _ => exact n
        obtain ⟨h0, m0⟩ := S.newH0 n
        refine ⟨h0, m0, fun y e e1 e2 => ?_⟩
        by_cases hj : j = y
        · subst hj
          by_cases hi : j < r.length
          · rw [List.getElem?_set_self (by rw [List.length_set]; exact hi)] at e1
            rw [List.getElem?_set_self (by rw [List.length_set, S.len]; exact hi)] at e2
            cases e1; cases e2
            exact d2 a _ 0 d rfl rfl rfl rfl
          · rw [List.getElem?_eq_none (by rw [List.length_set, List.length_set]; omega)] at e1; cases e1
        · rw [List.getElem?_set_ne hj] at e1 e2
          by_cases hi' : i = y
          · subst hi'
            by_cases hi : i < r.length
            · rw [List.getElem?_set_self hi] at e1
              rw [List.getElem?_set_self (by rw [S.len]; exact hi)] at e2
              cases e1; cases e2
              exact d1 a _ 1 d rfl rfl rfl rfl
            · rw [List.getElem?_eq_none (by rw [List.length_set]; omega)] at e1; cases e1
          · rw [List.getElem?_set_ne hi'] at e1 e2
            exact S.old n e1 e2
theorem slra2 {M : Addr → Prop} {H : Hp} {N : Addr → Prop} {vs : List V} {s s' : Sl} (h : SlRA C M H N vs [s, s']) : ∃ v w, vs = [v, w] := by
  cases h with
  | cons _ h _ =>
    cases h with
    | cons _ h _ => cases h; exact ⟨_, _, rfl⟩
theorem slra3 {M : Addr → Prop} {H : Hp} {N : Addr → Prop} {vs : List V} {s s' s'' : Sl} (h : SlRA C M H N vs [s, s', s'']) : ∃ v w z, vs = [v, w, z] := by
  cases h with
  | cons _ h _ =>
    obtain ⟨v, w, e⟩ := slra2 h
    exact ⟨_, v, w, by rw [e]⟩
end
def sPar2 (i j : Nat) (u : TXA) : TSD := fun e r => u r (fun ss => match ss with
  | [s, s'] => e.nx ((r.set i s).set j s')
  | _ => False) (e.ex r)
def sPar3 (i j l : Nat) (u : TXA) : TSD := fun e r => u r (fun ss => match ss with
  | [s, s', s''] => e.nx (((r.set i s).set j s').set l s'')
  | _ => False) (e.ex r)
section
variable {X : Cx} {C : Ct} {W : XW} {a b c e : Expr} {u : TXA} {t : TP} {pos : Pos} {k : Nat}
theorem mono_par2 {i j n : Nat} (h : MonoXA n u) : MonoS (sPar2 i j u) := ⟨fun hh q => h.imp (fun ss _ z => by
  split at z
  · exact hh.nx _ z
  · exact z) (fun c z => hh.ex _ c z) q⟩
theorem mono_par3 {i j l n : Nat} (h : MonoXA n u) : MonoS (sPar3 i j l u) := ⟨fun hh q => h.imp (fun ss _ z => by
  split at z
  · exact hh.nx _ z
  · exact z) (fun c z => hh.ex _ c z) q⟩
theorem ds_par2 (i j : Nat) {x y : Str} {px py pt pt2 : Pos} {kt k2 : Nat} (G : Good X C W k) (ha : DAx X C W [a, b] u) (hi : X.N[i]? = some x := by rfl) (hj : X.N[j]? = some y := by rfl) (hij : i ≠ j := by decide)
    (hx : X.env.scope.names.lookup x = some .local := by rfl) (hy : X.env.scope.names.lookup y = some .local := by rfl) (hw : swappedStores [.Tuple [.Name x px, .Name y py] kt pt] (.Tuple [a, b] k2 pt2) X.env = pure (some [x, y]) := by rfl)
    (hs : swapsWithSole [.Tuple [.Name x px, .Name y py] kt pt] (.Tuple [a, b] k2 pt2) pos.line X.env = pure false := by rfl) : DS X C W (.Assign [.Tuple [.Name x px, .Name y py] kt pt] (.Tuple [a, b] k2 pt2) pos) (sPar2 i j u) := by
  refine ⟨(ps_par G.calm G.nd hi hj hij hx hy ha.pa hw hs).imp fun De σ H ⟨M, r, e, S, f, q⟩ => ⟨M, r, e.ex r, S, f.wish S, ha.mo.imp (fun ss _ z vs M' H' k' g S' p => ?_) (fun _ z => z) q⟩, mono_par2 ha.mo⟩
  split at z
  · obtain ⟨v, w, rfl⟩ := slra2 p
    exact ⟨v, w, rfl, f.nx M' _ _ H' (g.stp S k') (S.set2 i j S' p) z⟩
  · exact z.elim
theorem ds_par3 (i j l : Nat) {x y z : Str} {px py pz pt pt2 : Pos} {kt k2 : Nat} (G : Good X C W k) (ha : DAx X C W [a, b, c] u) (hi : X.N[i]? = some x := by rfl) (hj : X.N[j]? = some y := by rfl) (hl : X.N[l]? = some z := by rfl) (hij : i ≠ j := by decide) (hil : i ≠ l := by decide) (hjl : j ≠ l := by decide)
    (hx : X.env.scope.names.lookup x = some .local := by rfl) (hy : X.env.scope.names.lookup y = some .local := by rfl) (hz : X.env.scope.names.lookup z = some .local := by rfl)
    (hw : swappedStores [.Tuple [.Name x px, .Name y py, .Name z pz] kt pt] (.Tuple [a, b, c] k2 pt2) X.env = pure (some [x, y, z]) := by rfl)
    (hs : swapsWithSole [.Tuple [.Name x px, .Name y py, .Name z pz] kt pt] (.Tuple [a, b, c] k2 pt2) pos.line X.env = pure false := by rfl) : DS X C W (.Assign [.Tuple [.Name x px, .Name y py, .Name z pz] kt pt] (.Tuple [a, b, c] k2 pt2) pos) (sPar3 i j l u) := by
  refine ⟨(ps_par3 G.calm G.nd hi hj hl hij hil hjl hx hy hz ha.pa hw hs).imp fun De σ H ⟨M, r, e, S, f, q⟩ => ⟨M, r, e.ex r, S, f.wish S, ha.mo.imp (fun ss _ z vs M' H' k' g S' p => ?_) (fun _ z => z) q⟩, mono_par3 ha.mo⟩
  split at z
  · obtain ⟨v, w, y, rfl⟩ := slra3 p
    exact ⟨v, w, y, rfl, f.nx M' _ _ H' (g.stp S k') (S.set3 i j l hij S' p) z⟩
  · exact z.elim
def sAug (i : Nat) (t : TP) : TSD := fun e r => match slot r i with
  | .val (.int a) => t r (fun d => match d with
    | .int b => e.nx (r.set i (.val (.int (a + b))))
    | _ => False) (e.ex r)
  | .own (.list ds) => t r (fun d => match d with
    | .list es => ds.length + es.length ≤ sizeLine ∧ e.nx (r.set i (.own (.list (ds ++ es))))
    | _ => False) (e.ex r)
  | _ => False
theorem set_self {α : Type} : ∀ {l : List α} {i : Nat} {x : α}, l[i]? = some x → l.set i x = l
  | [], _, _, h => by simp at h
  | y :: r, 0, x, h => by simp at h; subst h; rfl
  | y :: r, i + 1, x, h => by
    show y :: r.set i x = y :: r
    rw [set_self (by simpa using h)]
theorem ds_aug (i : Nat) {x : Str} {pos' : Pos} (G : Good X C W k) (he : DE X C W e t) (hi : X.N[i]? = some x := by rfl) (hx : Loc X.env.scope x := by first | exact Or.inl rfl | exact Or.inr rfl)
    (hf : X.fn x = true ∨ X.env.scope.names.lookup x = some .local := by first | exact .inl rfl | exact .inr rfl | assumption) : DS X C W (.AugAssign (.Name x pos') .Add e pos) (sAug i t) := by
  have ho : PIp X .Add (fun x y H Q => ipI (fun i j => i + j) x y H Q ∨ rExt2 x y H Q) := fun pins s σ H x y v u Q I r1 r2 h => by
    rcases h with h | h
    · exact ip_add pins s σ H x y v u Q I r1 r2 h
    · exact iop_ext pins s σ H x y v u Q I r1 r2 h
  refine ⟨(ps_aug G.nd hi hx he.pe ho hf).imp fun De σ H ⟨M, r, e, S, f, q⟩ => ?_, ⟨fun {e e' r} h q => ?_⟩⟩
  · unfold sAug at q
    split at q
    · rename_i a hsl
      obtain ⟨v, h1, h2⟩ := S.val i _ (slot_get hsl (by simp))
      cases h2
      refine ⟨_, h1, M, r, e.ex r, S, f.wish S, he.mo.imp (fun d z v H1 k1 S1 p1 => ?_) (fun _ z => z) q⟩
      cases d with
      | int b => exact .inl ⟨a, b, rfl, p1.int, f.nx M _ _ H1 (S.stp k1) (S1.set (.int _)) z⟩
      | _ => exact z.elim
    · rename_i ds hsl
      have hr := slot_get hsl (by simp)
      obtain ⟨a, e1, m, h0, m0, tp⟩ := S.own i _ hr
      cases tp with
      | @lst xs _ ea pa =>
        refine ⟨_, e1, M, r, e.ex r, S, f.wish S, he.mo.imp (fun d z v H1 k1 S1 p1 => ?_) (fun _ z => z) q⟩
        cases d with
        | list es =>
          obtain ⟨b, ys, rfl, eb, pb⟩ := p1.lst
          have nt : ¬ C.inT a := fun t => m0 (S.inm a t)
          have ea1 : H1 a = some (.lst xs) := k1 a _ nt ea
          refine .inr ⟨a, b, xs, ys, rfl, rfl, ea1, eb, by rw [HC.RpA.length pa, HC.RpA.length pb]; exact z.1, ?_⟩
          obtain ⟨s2, S2⟩ := S1.mut (o := .lst (xs ++ ys)) (d' := .list (ds ++ es)) hr e1 fun s2 => .lst upd_same (((HC.RpA.step (S.stp k1) pa).append pb).step s2)
          rw [set_self e1]
          exact f.nx M _ σ _ ((S.stp k1).trans s2) S2 z.2
        | _ => exact z.elim
    · exact q.elim
  · unfold sAug at q ⊢
    split at q
    · refine he.mo.imp (fun d z => ?_) (fun c z => h.ex _ c z) q
      cases d with
      | int b => exact h.nx _ z
      | _ => exact z
    · refine he.mo.imp (fun d z => ?_) (fun c z => h.ex _ c z) q
      cases d with
      | list b => exact ⟨z.1, h.nx _ z.2⟩
      | _ => exact z
    · exact q
def sRaise (c : Addr) : TSD := fun e r => e.ex r c
structure XCls (K : PySem.W.Frag) (mg : Str → Option Value) (x : Str) (c : Addr) : Prop where
  g : mg x = some (.ref c)
  k : PySem.W.keepIn K (.ref c) = true
  e : PySem.W.excIn K c [.type "ValueError", .type "Exception", .type "BaseException", .type "object"] "ValueError.__new__" = true
  b : PySem.W.subIn K (.ref c) (.type "BaseException") = some true
  t : PySem.W.typeIn K (.ref c) = some (.type "type")
theorem ds_raise {x m : Str} {c : Addr} {j : Nat} {p1 p2 p3 : Pos} (G : Good X C W k) (tk : Takes X (fun cls d σ H => W σ cls d H)) (E : XCls X.K X.mg x c) (hg : Gl X x := by rfl) (hdb : (x == ("__debug__" : Str)) = false := by decide) :
    DS X C W (.Raise (some (.Call (.Name x p1) [.Constant (.str m) j p2] [] p3)) none pos) (sRaise c) :=
  ⟨(ps_raise G.calm tk (pmk_own PySem.F.excBase_ValueError E.e E.g E.k (raises_own E.b E.t) hg hdb)).imp fun De σ H ⟨M, r, e, S, f, q⟩ => f.ex M r σ H c Stp.refl S q, ⟨fun h q => h.ex _ _ q⟩⟩
end
def startD (n : Nat) (ds : List D) : Env := ds.map Sl.val ++ List.replicate (n - ds.length) .un
def endD (Q : D → Prop) (E : Addr → Prop) : En := ⟨fun _ => Q .none, Q, fun _ => False, fun _ => False, fun _ => E⟩
section
variable {P : Program} {w : World} {K : PySem.W.Frag} {mg : Str → Option Value} {base : Heap}
theorem start_sim {C : Ct} {M : Addr → Prop} {H : Hp} {N : List Str} {vs : List V} {ds : List D} (p : C.RpA M H vs ds) (hb : Base C M H) (hm : ∀ a, C.M0 a → M a) (hd : Dom M H) (hi : ∀ a, C.inT a → C.M0 a) : Sim C M (startD N.length ds) (L2.start N vs) H := by
  have hl := HC.RpA.length p
  have hun : ∀ {i : Nat} {x : Sl}, (startD N.length ds)[i]? = some x → x ≠ .un → ∃ d, ds[i]? = some d ∧ x = .val d := fun {i x} h n => by
    unfold startD at h
    by_cases hi : i < ds.length
    · rw [List.getElem?_append_left (by simpa using hi), List.getElem?_map, List.getElem?_eq_getElem hi] at h
      cases h
      exact ⟨_, List.getElem?_eq_getElem hi, rfl⟩
    · rw [List.getElem?_append_right (by simpa using hi), List.getElem?_replicate] at h
      split at h
      · cases h; exact absurd rfl n
      · cases h
  refine ⟨?_, fun i d h => ?_, fun i d h => ?_, fun i j x y c h => ?_, fun i h => ?_, hb, hm, hd, hi⟩
  · unfold L2.start startD
    rw [List.length_append, List.length_append, List.length_map, List.length_map, List.length_replicate, List.length_replicate, hl]
  · obtain ⟨d', e1, e2⟩ := hun h (by simp)
    cases e2
    obtain ⟨v, h1, h2⟩ := HC.RpA.get p e1
    refine ⟨v, ?_, h2⟩
    unfold L2.start
    obtain ⟨hv, _⟩ := List.getElem?_eq_some_iff.mp h1
    rw [List.getElem?_append_left (by simpa using hv), List.getElem?_map, h1]
    rfl
  · obtain ⟨_, _, e2⟩ := hun h (by simp)
    cases e2
  · obtain ⟨_, _, e2⟩ := hun h (by simp)
    cases e2
  · rename_i x
    by_cases hx : x = .un
    · subst hx; exact trivial
    · obtain ⟨_, _, e2⟩ := hun h hx
      cases e2
      exact trivial
theorem same_of_base {H H' : Hp} {M M' : Addr → Prop} (h : Base ⟨K, P, w, Option.none, M, H⟩ M' H') : Same H H' := fun a o e => h.keep a o (fun t => t) e
theorem fn_D {x qual : Str} {st : Stmt} {f : Addr} {fd : FuncData} {N ps : List Str} {k n : Nat} {sp : SpD} {t : TSD} (F : Fun K x qual st f fd) (S : FnScope N ps (defScope st)) (mo : MonoSp n sp) (hn : n = ps.length) (hm : mg x = some (.ref f)) (hbi : Binds K fd ps [])
    (hb : ∀ (cdv : Value) (A : Around) (outer : List PySem.Env) (s : Shared) (H : Hp) (E : XK) (C : Ct) (W : XW), Good (cxOf (L2.CX P w) P w K mg base N qual (defScope st) f cdv A outer s H E) C W k →
      Takes (cxOf (L2.CX P w) P w K mg base N qual (defScope st) f cdv A outer s H E) (fun cls d σ H => W σ cls d H) → C.NoOb → DSs (cxOf (L2.CX P w) P w K mg base N qual (defScope st) f cdv A outer s H E) C W (defBody st) t)
    (hs : ∀ ds Q E, sp ds Q E → t (endD Q E) (startD N.length ds)) : FnD P w K mg base (k + 1) x n sp := by
  refine ⟨⟨f, fd, ps, F.okX S (fun vs H Q E h => ?_) (fun cdv A outer s H vs Q E hr h => ?_), hm, F.kp, hbi⟩, mo⟩
  · obtain ⟨M, ds, _, p, q⟩ := h
    rw [HC.RpA.length p, mo.len q, hn]
  · obtain ⟨M, ds, dm, p, q⟩ := h
    have tk : Takes (cxOf (L2.CX P w) P w K mg base N qual (defScope st) f cdv A outer s H E) (fun cls d _ H => E cls d H) := takes_of rfl rfl rfl rfl
    refine ⟨_, (hb cdv A outer s H E ⟨K, P, w, Option.none, M, H⟩ (fun _ cls d H => E cls d H) ⟨⟨rfl, rfl, rfl⟩, rfl, hr, fun σ => passAt tk σ, passes_of rfl, S.nd⟩ tk (fun _ z => by cases z)).ps, M, startD N.length ds, endD _ _, ?_, ?_, hs ds _ _ q⟩
    · exact start_sim p ⟨Ct.Ex.refl, trivial⟩ (fun _ h => h) dm (fun _ h => h.elim)
    · exact ⟨fun M' r' σ' H' _ S' z => z .non H' (same_of_base S'.base) .non, fun M' r' σ' H' v d S' p z => z v H' (same_of_base S'.base) (HC.Rp.less S'.m0 p), fun _ _ _ _ _ _ z => z.elim, fun _ _ _ _ _ _ z => z.elim, fun M' r' σ' H' c _ S' z => z H' (same_of_base S'.base)⟩
def startT (n : Nat) (ds : List D) : Env := Sl.tok :: startD (n - 1) ds
theorem startT_sim {C : Ct} {M : Addr → Prop} {H : Hp} {N : List Str} {g nn : Addr} {vs : List V} {ds : List D} (hT : C.T = some (.dr g nn)) (hN : N.length = N.length - 1 + 1) (p : C.RpA M H vs ds) (hb : Base C M H) (hm : ∀ a, C.M0 a → M a) (hd : Dom M H) (hi : ∀ a, C.inT a → C.M0 a) : Sim C M (startT N.length ds) (L2.start N (.ref g :: vs)) H := by
  have S0 : Sim C M (startD (N.tail).length ds) (L2.start N.tail vs) H := start_sim p hb hm hd hi
  have e1 : N.tail.length = N.length - 1 := List.length_tail
  have e2 : L2.start N (.ref g :: vs) = some (.ref g) :: L2.start N.tail vs := by
    unfold L2.start
    rw [e1, List.map_cons, List.cons_append, List.length_cons]
    have : N.length - (vs.length + 1) = N.length - 1 - vs.length := by omega
    rw [this]
  rw [e1] at S0
  unfold startT
  rw [e2]
  refine ⟨by rw [List.length_cons, List.length_cons, S0.len], fun i d h => ?_, fun i d h => ?_, fun i j x y c h1 h2 h3 h4 => ?_, fun i h => ?_, hb, hm, hd, hi⟩
  · cases i with
    | zero => simp at h
    | succ i => simpa using S0.val i d (by simpa using h)
  · cases i with
    | zero => simp at h
    | succ i => simpa using S0.own i d (by simpa using h)
  · cases i with
    | zero => simp at h1
    | succ i =>
      cases j with
      | zero => simp at h2
      | succ j => rw [S0.sep i j x y c (by simpa using h1) (by simpa using h2) (by simpa using h3) (by simpa using h4)]
  · cases i with
    | zero =>
      have h' : some Sl.tok = some _ := h
      cases h'
      exact ⟨g, nn, hT, rfl⟩
    | succ i => simpa using S0.tk i (by simpa using h)
theorem fn_T {x qual : Str} {st : Stmt} {f : Addr} {fd : FuncData} {N ps : List Str} {k n : Nat} {sp : SpD} {t : TSD} (F : Fun K x qual st f fd) (S : FnScope N ps (defScope st)) (mo : MonoSp n sp) (hn : ps.length = n + 1) (hN : N.length = N.length - 1 + 1) (hm : mg x = some (.ref f)) (hbi : Binds K fd ps [])
    (hb : ∀ (cdv : Value) (A : Around) (outer : List PySem.Env) (s : Shared) (H : Hp) (E : XK) (C : Ct) (W : XW), Good (cxOf (L2.CX P w) P w K mg base N qual (defScope st) f cdv A outer s H E) C W k →
      Takes (cxOf (L2.CX P w) P w K mg base N qual (defScope st) f cdv A outer s H E) (fun cls d σ H => W σ cls d H) → C.NoOb → DSs (cxOf (L2.CX P w) P w K mg base N qual (defScope st) f cdv A outer s H E) C W (defBody st) t)
    (hs : ∀ ds Q E, sp ds Q E → t (endD Q E) (startT N.length ds)) : FnT P w K mg base (k + 1) x n sp := by
  refine ⟨⟨f, fd, ps, F.okX S (fun vs H Q E h => ?_) (fun cdv A outer s H vs Q E hr h => ?_), hm, F.kp, hbi⟩, mo⟩
  · obtain ⟨M, g, nn, us, ds, rfl, _, _, _, _, p, q⟩ := h
    rw [List.length_cons, HC.RpA.length p, mo.len q, hn]
  · obtain ⟨M, g, nn, us, ds, rfl, dm, mg', mn, tok, p, q⟩ := h
    have tk : Takes (cxOf (L2.CX P w) P w K mg base N qual (defScope st) f cdv A outer s H E) (fun cls d _ H => E cls d H) := takes_of rfl rfl rfl rfl
    refine ⟨_, (hb cdv A outer s H E ⟨K, P, w, some (.dr g nn), M, H⟩ (fun _ cls d H => E cls d H) ⟨⟨rfl, rfl, rfl⟩, rfl, hr, fun σ => passAt tk σ, passes_of rfl, S.nd⟩ tk (fun _ z => by cases z)).ps, M, startT N.length ds, endD _ _, ?_, ?_, hs ds _ _ q⟩
    · exact startT_sim rfl hN p ⟨Ct.Ex.refl, tok⟩ (fun _ h => h) dm (fun a h => h.elim (fun e => e ▸ mg') fun e => e ▸ mn)
    · have kp : ∀ {H' : Hp} {M' : Addr → Prop}, Base ⟨K, P, w, some (.dr g nn), M, H⟩ M' H' → (∀ a o, a ≠ g → a ≠ nn → H a = some o → H' a = some o) := fun {H' M'} b a o n1 n2 e => b.keep a o (fun t => t.elim n1 n2) e
      exact ⟨fun M' r' σ' H' _ S' z => z .non H' (kp S'.base) S'.base.tok .non, fun M' r' σ' H' v d S' p z => z v H' (kp S'.base) S'.base.tok (HC.Rp.less S'.m0 p), fun _ _ _ _ _ _ z => z.elim, fun _ _ _ _ _ _ z => z.elim, fun M' r' σ' H' c _ S' z => z H' (kp S'.base) S'.base.tok⟩
end
end HC
namespace HC
open PySem PySem.Spec PyProof.Rows L2
section
variable {X : Cx} {C : Ct} {W : XW} {a b c : Expr} {ta tb tc : TP} {pos : Pos} {k : Nat}
theorem dv_chain {op op' : CmpOp} {f g : B2} (ho : Op2 X C (compareOp op) f) (ho' : Op2 X C (compareOp op') g) (ha : DE X C W a ta) (hb : DE X C W b tb) (hc : DE X C W c tc) (hm : lastMarks [op, op'] [b, c] = false := by with_unfolding_all rfl) : DV X C W (.Compare a [op, op'] [b, c] pos) (wChain f g ta tb tc) :=
  ⟨(pe_chain ho.ok ho'.ok ha.pe hb.pe hc.pe hm).imp fun σ H Q h => run_chain ha hb hc ho.mo ho'.mo h, mono_chain ho.mo ho'.mo ha.mo hb.mo hc.mo⟩
theorem dt_chain {op op' : CmpOp} {f g : B2} (ho : Op2 X C (compareOp op) f) (ho' : Op2 X C (compareOp op') g) (ha : DE X C W a ta) (hb : DE X C W b tb) (hc : DE X C W c tc) (hm : lastMarks [op, op'] [b, c] = false := by with_unfolding_all rfl) : DT X C W (.Compare a [op, op'] [b, c] pos) (bTest (wChain f g ta tb tc)) := by
  have mo := mono_chain ho.mo ho'.mo ha.mo hb.mo hc.mo
  refine ⟨(pt_chain ho.ok ho'.ok ha.pe hb.pe hc.pe hm).imp fun σ H Q ⟨M, r, E, S, hW, q⟩ => ?_, mono_test mo⟩
  show tChain (rD2 C f) (rD2 C g) (lP C W ta) (lP C W tb) (lP C W tc) σ H fun x H' => ∃ k, x = .bl k ∧ Q k H'
  refine run_chain ha hb hc ho.mo ho'.mo ⟨M, r, E, S, hW, mo.imp (fun x z v H1 k S1 p => ?_) (fun _ z => z) q⟩
  cases x with
  | bool k' => exact ⟨k', (Rp.q p).bl, z H1 k S1⟩
  | _ => exact z.elim
end
inductive Ent : List DictEntry → List (Str × Int) → Prop
  | nil : Ent [] []
  | cons {e : DictEntry} {r : List DictEntry} {x : Str} {i : Int} {l : List (Str × Int)} {t u : Tok} : e.key = .str x t → e.val = .int i u → Ent r l → Ent (e :: r) ((x, i) :: l)
def tabAt (l : List (Str × Int)) (z : Str) : Option Int := match l with
  | [] => none
  | (x, i) :: r => if x = z then some i else tabAt r z
structure KTab (K : PySem.W.Frag) (w : World) (d : Addr) (l : List (Str × Int)) : Prop where
  ex : ∃ es n, KDict K w d es n ∧ Ent es.toList l
section
variable {K : PySem.W.Frag} {w : World} {d : Addr} {l : List (Str × Int)}
theorem ent_look {z : Str} : ∀ {es : List DictEntry} {l : List (Str × Int)}, Ent es l →
    (∀ i, tabAt l z = some i → ∃ e u, es.find? (·.key.isStr z) = some e ∧ e.val = .int i u) ∧ (tabAt l z = none → es.find? (·.key.isStr z) = none ∧ es.any (·.refKey) = false)
  | _, _, .nil => ⟨(fun i h => by unfold tabAt at h; cases h), fun _ => ⟨rfl, rfl⟩⟩
  | _, _, .cons (e := e) (r := r) (x := x) (i := i) (l := l) (t := t) (u := u) h1 h2 h3 => by
    have ih := ent_look (z := z) h3
    have hk : e.key.isStr z = decide (x = z) := by
      rw [h1, PySem.W.isStr_of]
      by_cases q : x = z
      · subst q; simp [Value.isStrOf]
      · simp [Value.isStrOf, q]
    have hr : e.refKey = false := by unfold DictEntry.refKey; rw [h1]
    by_cases q : x = z
    · refine ⟨fun j hj => ?_, fun hj => ?_⟩
      · unfold tabAt at hj
        rw [if_pos q] at hj
        cases hj
        exact ⟨e, u, by rw [List.find?_cons, hk, decide_eq_true q], h2⟩
      · unfold tabAt at hj
        rw [if_pos q] at hj
        cases hj
    · refine ⟨fun j hj => ?_, fun hj => ?_⟩
      · unfold tabAt at hj
        rw [if_neg q] at hj
        obtain ⟨e', u', a1, a2⟩ := ih.1 j hj
        exact ⟨e', u', by rw [List.find?_cons, hk, decide_eq_false q]; exact a1, a2⟩
      · unfold tabAt at hj
        rw [if_neg q] at hj
        obtain ⟨a1, a2⟩ := ih.2 hj
        exact ⟨by rw [List.find?_cons, hk, decide_eq_false q]; exact a1, by rw [List.any_cons, hr, a2]; rfl⟩
theorem KTab.ata (T : KTab K w d l) {z : Str} {i : Int} (h : tabAt l z = some i) : ∃ u, PySem.W.nsIn K d z = some (some (.int i u)) := by
  obtain ⟨es, n, D, en⟩ := T.ex
  obtain ⟨e, u, h1, h2⟩ := (ent_look (z := z) en).1 i h
  refine ⟨u, ?_⟩
  unfold PySem.W.nsIn
  rw [D.at_]
  dsimp only
  rw [h1]
  show some (some e.val) = _
  rw [h2]
theorem KTab.non (T : KTab K w d l) {z : Str} (h : tabAt l z = none) : PySem.W.nsIn K d z = some none := by
  obtain ⟨es, n, D, en⟩ := T.ex
  obtain ⟨h1, h2⟩ := (ent_look (z := z) en).2 h
  unfold PySem.W.nsIn
  rw [D.at_]
  dsimp only
  rw [h1, h2]
  rfl
variable {X : Cx} {C : Ct} {W : XW} {e : Expr} {t : TP} {pos p : Pos} {k : Nat} {x : Str}
def wTabIn (l : List (Str × Int)) (neg : Bool) (t : TP) : TP := fun r Q E => t r (fun v => match v with
  | .str z => Q (.bool (if neg then !(tabAt l z).isSome else (tabAt l z).isSome))
  | _ => False) E
def wTabAt (l : List (Str × Int)) (t : TP) : TP := fun r Q E => t r (fun v => match v with
  | .str z => ∃ i, tabAt l z = some i ∧ Q (.int i)
  | _ => False) E
theorem mono_tabIn {neg : Bool} (h : Mono t) : Mono (wTabIn l neg t) := ⟨fun hq he q => h.imp (fun v z => by
  cases v with
  | str z' => exact hq _ z
  | _ => exact z) he q⟩
theorem mono_tabAt (h : Mono t) : Mono (wTabAt l t) := ⟨fun hq he q => h.imp (fun v z => by
  cases v with
  | str z' => exact let ⟨i, a, b⟩ := z; ⟨i, a, hq _ b⟩
  | _ => exact z) he q⟩
theorem run_tabIn {neg : Bool} {op : CmpOp} (T : KTab X.K X.w d l) (he : DE X C W e t)
    (ho : ∀ {es n}, KDict X.K X.w d es n → OpR X (compareOp op) (fun x y H Q => ∃ (z : Str) (r : Option Value), x = .str z ∧ y = .ref d ∧ PySem.W.nsIn X.K d z = some r ∧ Q (.bl (if neg then !r.isSome else r.isSome)) H)) :
    OpR X (compareOp op) (fun x y H Q => ∃ z, x = .str z ∧ y = .ref d ∧ Q (.bl (if neg then !(tabAt l z).isSome else (tabAt l z).isSome)) H) := by
  obtain ⟨es, n, D, en⟩ := id T.ex
  refine (ho D).imp fun x y H Q ⟨z, e1, e2, q⟩ => ?_
  cases h : tabAt l z with
  | none =>
    rw [h] at q
    exact ⟨z, _, e1, e2, T.non h, q⟩
  | some i =>
    rw [h] at q
    obtain ⟨u, hu⟩ := T.ata h
    exact ⟨z, _, e1, e2, hu, q⟩
theorem dt_tabNotIn (T : KTab X.K X.w d l) (he : DE X C W e t) (hm : X.mg x = some (.ref d)) (hg : Gl X x := by rfl) (hd : (x == ("__debug__" : Str)) = false := by decide) : DT X C W (.Compare e [.NotIn] [.Name x p] pos) (bTest (wTabIn l true t)) := by
  refine ⟨(pt_cmpR (run_tabIn (neg := true) T he fun D => op_notIn_kd D) he.pe (pe_glob (v := .ref d) hg hm rfl hd) rfl).imp fun σ H Q ⟨M, r, E, S, hW, q⟩ => ⟨M, r, E, S, hW, he.mo.imp (fun v z vv H1 k1 S1 p1 => ?_) (fun _ z => z) q⟩, mono_test (mono_tabIn he.mo)⟩
  cases v with
  | str z' => exact ⟨z', p1.str, rfl, _, rfl, z H1 k1 S1⟩
  | _ => exact z.elim
theorem dv_tabAt {es : List Expr} (T : KTab X.K X.w d l) (he : DE X C W e t) (hm : X.mg x = some (.ref d)) (hg : Gl X x := by rfl) (hd : (x == ("__debug__" : Str)) = false := by decide) (hs : PlainIx e := by exact fun _ _ => rfl) : DV X C W (.Subscript (.Name x p) e pos) (wTabAt l t) := by
  obtain ⟨es', n, D, en⟩ := id T.ex
  have ix : IxR X (fun x y H Q => ∃ (z : Str) (i : Int), x = .ref d ∧ y = .str z ∧ tabAt l z = some i ∧ Q (.int i) H) := by
    intro value slice pins s σ H x y v u Q I rx ry ⟨z, i, e1, e2, h, q⟩ hs
    subst e1 e2
    cases rx
    obtain ⟨tt, rfl⟩ := ry
    obtain ⟨uu, hu⟩ := T.ata h
    exact tail_any (kd_type D I) PySem.F.slot_dict_getitem.lookup (wpAny_getItem_of (PySem.strKind_is X.prog X.w z tt) (PySem.W.mapOf_K (prog := X.prog) I.kIn D.at_ D.lit) (PySem.W.find_K D.at_ hu) ⟨.int i, H, I.tok _, ⟨_, rfl⟩, q⟩) hs
  refine ⟨(pe_ix ix (pe_glob (v := .ref d) hg hm rfl hd) he.pe hs).imp fun σ H Q ⟨M, r, E, S, hW, q⟩ => ⟨M, r, E, S, hW, he.mo.imp (fun v z vv H1 k1 S1 p1 => ?_) (fun _ z => z) q⟩, mono_tabAt he.mo⟩
  cases v with
  | str z' => exact let ⟨i, a, b⟩ := z; ⟨z', i, rfl, p1.str, a, b _ H1 k1 S1 (.int i)⟩
  | _ => exact z.elim
end
section
variable {X : Cx} {C : Ct} {W : XW} {pos : Pos} {k : Nat} {x : Str}
theorem dv_globI {i : Int} (h : ∃ u, X.mg x = some u ∧ RelV (.int i) u) (hg : Gl X x := by rfl) (hd : (x == ("__debug__" : Str)) = false := by decide) : DV X C W (.Name x pos) (wC (.int i)) := by
  obtain ⟨u, h1, h2⟩ := h
  exact dv_glob (fun M H => .int i) hg h1 h2 hd
def KFlat (K : PySem.W.Frag) (mg : Str → Option Value) (x : Str) (ds : List D) : Prop := ∃ a, mg x = some (.ref a) ∧ KTup K a (ds.map D.v) ∧ ds.all D.flat = true
theorem rpA_flat {K : PySem.W.Frag} {P : Program} {w : World} {M : Addr → Prop} {H : Hp} : ∀ {ds : List D}, ds.all D.flat = true → RpA K P w M H (ds.map D.v) ds
  | [], _ => .nil
  | d :: ds, h => by
    rw [List.all_cons, Bool.and_eq_true] at h
    refine .cons ?_ (rpA_flat h.2)
    cases d with
    | none => exact .non
    | bool b => exact .bl b
    | int i => exact .int i
    | str x => exact .str x
    | _ => exact absurd h.1 Bool.false_ne_true
theorem dv_globT {ds : List D} (G : Good X C W k) (h : KFlat X.K X.mg x ds) (hg : Gl X x := by rfl) (hd : (x == ("__debug__" : Str)) = false := by decide) : DV X C W (.Name x pos) (wC (.tuple ds)) := by
  obtain ⟨a, h1, h2, h3⟩ := h
  have fk := G.fit.k
  exact dv_glob (v := .ref a) (fun M H => .ktup (by rw [← fk]; exact h2) (rpA_flat h3)) hg h1 rfl hd
end
def spStart (K : PySem.W.Frag) : Sp := fun vs H Q _ => ∃ (a : Addr) (ns : List Int), vs = [.ref a] ∧ SqL K H a (ns.map V.int) ∧ ns.length ≤ 63 ∧ ∀ H' g n, Same H H' → H g = none → H n = none → DrawsOk H' g n → Q (.ref g) H'
def spLaw (K : PySem.W.Frag) : Sp := fun vs H Q _ => ∃ (a : Addr) (ns : List Int), vs = [.ref a] ∧ SqL K H a (ns.map V.int) ∧ ns.length ≤ 63 ∧ ∀ H', Q (.bl true) H'
def spDraw : SpD := fun ds Q _ => ∃ l : Int, ds = [.int l] ∧ 0 < l ∧ l < 1073741824 ∧ ∀ k, 0 ≤ k → k < l → Q (.int k)
theorem mo_draw : MonoSp 1 spDraw := ⟨fun hq _ ⟨l, e, a, b, h⟩ => ⟨l, e, a, b, fun k h1 h2 => hq _ (h k h1 h2)⟩, fun ⟨l, e, _⟩ => by rw [e]; rfl⟩
section
variable {P : Program} {w : World} {K : PySem.W.Frag} {mg : Str → Option Value} {base : Heap}
def endLaw : En := ⟨fun _ => False, fun d => d = .bool true, fun _ => False, fun _ => False, fun _ _ => False⟩
def startLaw (n : Nat) : Env := .un :: .tok :: List.replicate (n - 2) .un
theorem pss_any {X : Cx} {W : XW} {rest : List Stmt} {t : TSD} (h : ∀ C, Fit X C → C.NoOb → DSs X C W rest t) : PSs X rest (fun De σ H => ∃ C, (Fit X C ∧ C.NoOb) ∧ lS C W t De σ H) := ⟨fun pins s σ H De I ⟨C, F, q⟩ => (h C F.1 F.2).ps.run pins s σ H De I q⟩
theorem pass_no {X : Cx} (σ : L2.St) : PassesAt (L2.CX X.prog X.w) X σ E0 := fun _ _ _ _ _ _ c => by
  obtain ⟨_, _, _, _, _, _, _, _, _, _, _, _, z⟩ := c
  exact z.elim
theorem fn_law {f : Addr} {fd : FuncData} {st : Stmt} {N : List Str} {k n : Nat} {t : TSD} (F : Fun K "law" "law" st f fd) (S : FnScope N ["script"] (defScope st)) (hn : N.length = n + 2)
    (hb : ∀ (cdv : Value) (A : Around) (outer : List PySem.Env) (s : Shared) (H : Hp) (E : XK), Room k (cxOf (L2.CX P w) P w K mg base N "law" (defScope st) f cdv A outer s H E).A → ∃ s1 rest, defBody st = s1 :: rest ∧
      PS (cxOf (L2.CX P w) P w K mg base N "law" (defScope st) f cdv A outer s H E) s1 (tAsg (tCallS (spStart K) (fun _ => E0) (tCons (tVar 0) tNil)) (gName 1)) ∧
      ∀ C W, Good (cxOf (L2.CX P w) P w K mg base N "law" (defScope st) f cdv A outer s H E) C W k → Takes (cxOf (L2.CX P w) P w K mg base N "law" (defScope st) f cdv A outer s H E) (fun cls d σ H => W σ cls d H) → C.NoOb → DSs (cxOf (L2.CX P w) P w K mg base N "law" (defScope st) f cdv A outer s H E) C W rest t)
    (hs : t endLaw (startLaw N.length)) : FnOk P w K mg base (L2.CX P w) (k + 1) f fd ["script"] (spLaw K) := by
  refine F.okX S (fun vs H Q E h => ?_) (fun cdv A outer s H vs Q E hr h => ?_)
  · obtain ⟨a, ns, rfl, _⟩ := h
    rfl
  · obtain ⟨a, ns, rfl, hS, hl, q⟩ := h
    have tk : Takes (cxOf (L2.CX P w) P w K mg base N "law" (defScope st) f cdv A outer s H E) (fun cls d _ H => E cls d H) := takes_of rfl rfl rfl rfl
    obtain ⟨s1, rest, e, p1, pr⟩ := hb cdv A outer s H E hr
    rw [e]
    refine ⟨_, pss_cons p1 (pss_any (W := fun _ cls d H => E cls d H) fun C FF nob => pr C _ ⟨FF, rfl, hr, fun σ => passAt tk σ, passes_of rfl, S.nd⟩ tk nob), ?_⟩
    have est : L2.start N [V.ref a] = some (.ref a) :: none :: List.replicate n none := by
      unfold L2.start
      rw [hn]
      rfl
    rw [est]
    refine ⟨.ref a, rfl, a, ns, rfl, hS, hl, fun H' g nn sm hg hnn dr => ?_⟩
    refine ⟨⟨K, P, w, some (.dr g nn), fun b => b = g ∨ b = nn, H'⟩, ⟨⟨rfl, rfl, rfl⟩, fun _ z => (by cases z)⟩, fun b => b = g ∨ b = nn, startLaw N.length, endLaw, ?_, ?_, hs⟩
    · obtain ⟨kk, xs, e1, e2, _⟩ := dr.ok
      unfold startLaw
      rw [hn]
      show Sim _ _ (.un :: .tok :: List.replicate n .un) (some (.ref a) :: some (.ref g) :: List.replicate n none) H'
      have cs : ∀ {i : Nat} {x : Sl}, (Sl.un :: Sl.tok :: List.replicate n Sl.un)[i]? = some x → x = .un ∨ (x = .tok ∧ i = 1) := fun {i x} h => by
        cases i with
        | zero => simp at h; exact .inl h.symm
        | succ i =>
          cases i with
          | zero => simp at h; exact .inr ⟨h.symm, rfl⟩
          | succ i =>
            simp only [List.getElem?_cons_succ, List.getElem?_replicate] at h
            split at h
            · cases h; exact .inl rfl
            · cases h
      refine ⟨by simp, fun i d h => ?_, fun i d h => ?_, fun i j x y c h => ?_, fun i h => ?_, ⟨Ct.Ex.refl, dr⟩, fun b h => h, fun b h z => ?_, fun b h => h⟩
      · rcases cs h with z | ⟨z, _⟩ <;> cases z
      · rcases cs h with z | ⟨z, _⟩ <;> cases z
      · rcases cs h with z | ⟨z, _⟩ <;> cases z
      · rcases cs h with z | ⟨z1, z⟩
        · cases z; exact trivial
        · cases z1; subst z; exact ⟨g, nn, rfl, rfl⟩
      · rcases h with rfl | rfl
        · rw [e1] at z; cases z
        · rw [e2] at z; cases z
    · refine ⟨fun _ _ _ _ _ _ z => z.elim, fun M' r' σ' H' v d S' p z => ?_, fun _ _ _ _ _ _ z => z.elim, fun _ _ _ _ _ _ z => z.elim, fun _ _ _ _ _ _ _ z => z.elim⟩
      have z : d = .bool true := z
      subst z
      have := (Rp.q p).bl
      subst this
      exact q H'
end
end HC
namespace HC
open PySem PySem.Spec PyProof.Rows L2
def kvGet : List (NestedKey × D) → NestedKey → Option D
  | [], _ => Option.none
  | (x, d) :: r, k => if x = k then some d else kvGet r k
def kvPut (kvs : List (NestedKey × D)) (k : NestedKey) (v : D) : List (NestedKey × D) :=
  if (kvGet kvs k).isSome = true then kvs.map (fun p => if p.1 = k then (p.1, v) else p) else kvs ++ [(k, v)]
section
variable {X : Cx} {M : Addr → Prop} {H : Hp} {pins : List (Addr × Obj)} {σ : L2.St} {s : Shared}
mutual
theorem key_heap (I : Inv X pins σ H s) : ∀ (k : NestedKey) (v : V) (u : Value), Rp X.K X.prog X.w M H v (keyD k) → RelV v u → NestedIs s.heap k u
  | .none, v, u, h, r => by
    cases h
    have e : u = Value.none := r
    subst e
    exact .none
  | .num i, v, u, h, r => by
    cases h
    obtain ⟨t, rfl⟩ := r
    exact .int i t
  | .text x, v, u, h, r => by
    cases h
    obtain ⟨t, rfl⟩ := r
    exact .text x t
  | .tup ks, v, u, h, r => by
    have main : ∀ (a : Addr) (xs : List V), SqT X.K H a xs → RpA X.K X.prog X.w M H xs (keysD ks) → NestedIs s.heap (.tup ks) (.ref a) := fun a xs hs hp => by
      obtain ⟨its, hv, ⟨o, ho, hc, n, hd⟩, _⟩ := I.tuple hs
      exact .tup ho hc hd (keys_heap I ks xs its hp hv)
    cases h with
    | tup m e p =>
      cases r
      exact main _ _ (SqT.of e) p
    | ktup e p =>
      cases r
      exact main _ _ (.inr e) p
theorem keys_heap (I : Inv X pins σ H s) : ∀ (ks : List NestedKey) (vs : List V) (us : List Value), RpA X.K X.prog X.w M H vs (keysD ks) → Vals vs us → NestedAll s.heap ks us
  | [], _, _, .nil, .nil => .nil
  | k :: ks, _, _, .cons h1 h2, .cons r1 r2 => .cons (key_heap I k _ _ h1 r1) (keys_heap I ks _ _ h2 r2)
end
theorem rpn_mem {K : PySem.W.Frag} {P : Program} {w : World} : ∀ {xs : List (NestedKey × Addr × Value)} {kvs : List (NestedKey × D)}, RpN K P w M H xs kvs → ∀ x ∈ xs, Rp K P w M H (.ref x.2.1) (keyD x.1)
  | _, _, .nil, x, h => by cases h
  | _, _, .cons a r b c, x, h => by
    rcases List.mem_cons.mp h with rfl | h
    · exact a
    · exact rpn_mem c x h
theorem td_heap {a : Addr} {o : Obj} {xs : List (NestedKey × Addr × Value)} {kvs : List (NestedKey × D)} (I : Inv X pins σ H s) (e : H a = some (dnO a o)) (de : DEnt X.prog X.w a o xs) (r : RpN X.K X.prog X.w M H xs kvs) :
    s.heap.DictOfH (nestedKind X.prog X.w) a xs := by
  obtain ⟨h1, h2, h3, es, ep, h4, h5, h6, h7⟩ := de
  have ho : s.heap.get? a = some o := (I.hok a _ e).1
  exact ⟨o, es, ep, ho, h3, h4, h5, fun x hx => ⟨key_heap I x.1 _ _ (rpn_mem r x hx) rfl, h7 x hx⟩, h6⟩
theorem rpn_get {K : PySem.W.Frag} {P : Program} {w : World} (k : NestedKey) : ∀ {xs : List (NestedKey × Addr × Value)} {kvs : List (NestedKey × D)}, RpN K P w M H xs kvs →
    (atKey xs k = none ∧ kvGet kvs k = none) ∨ ∃ p v d, atKey xs k = some p ∧ kvGet kvs k = some d ∧ RelV v p.2 ∧ Rp K P w M H v d
  | _, _, .nil => .inl ⟨rfl, rfl⟩
  | _, _, .cons (k := k') (a := a) (v := v) (u := u) (vs := vs) (d := d) (ds := ds) h1 h2 h3 h4 => by
    by_cases e : k' = k
    · refine .inr ⟨(a, u), v, d, ?_, ?_, h2, h3⟩
      · unfold atKey
        rw [List.find?_cons_of_pos (by simp [e])]
        rfl
      · unfold kvGet
        rw [if_pos e]
    · have e1 : atKey ((k', a, u) :: vs) k = atKey vs k := by
        unfold atKey
        rw [List.find?_cons_of_neg (by simp [e])]
      have e2 : kvGet ((k', d) :: ds) k = kvGet ds k := by
        rw [kvGet, if_neg e]
      rw [e1, e2]
      exact rpn_get k h4
theorem rpn_some {K : PySem.W.Frag} {P : Program} {w : World} {k : NestedKey} {xs : List (NestedKey × Addr × Value)} {kvs : List (NestedKey × D)} (r : RpN K P w M H xs kvs) : (atKey xs k).isSome = (kvGet kvs k).isSome := by
  rcases rpn_get k r with ⟨a, b⟩ | ⟨p, v, d, a, b, _⟩
  · rw [a, b]; rfl
  · rw [a, b]; rfl
theorem rpn_len {K : PySem.W.Frag} {P : Program} {w : World} : ∀ {xs : List (NestedKey × Addr × Value)} {kvs : List (NestedKey × D)}, RpN K P w M H xs kvs → xs.length = kvs.length
  | _, _, .nil => rfl
  | _, _, .cons _ _ _ h => congrArg Nat.succ (rpn_len h)
end
section
variable {C : Ct} {M : Addr → Prop} {H : Hp} {v : V}
theorem Ct.Rq.td {kvs : List (NestedKey × D)} (h : C.Rq M H v (.tdict kvs)) : ∃ a o xs, v = .ref a ∧ H a = some (dnO a o) ∧ DEnt C.P C.w a o xs ∧ RpN C.K C.P C.w M H xs kvs := by
  rcases h with h | ⟨a, e, _, h⟩
  · cases h with
    | dctN _ e d r => exact ⟨_, _, _, rfl, e, d, r⟩
  · cases h with
    | dctN q d r => exact ⟨a, _, _, e, q, d, r⟩
end
def fInT (neg : Bool) : B2
  | x, .tdict kvs, Q => ∃ ks, x = .tuple (keysD ks) ∧ (NestedKey.tup ks).depth ≤ 8 ∧ Q (.bool (if neg = true then !(kvGet kvs (.tup ks)).isSome else (kvGet kvs (.tup ks)).isSome))
  | _, _, _ => False
theorem mo_inT {neg : Bool} : Mo2 (fInT neg) := by
  refine ⟨fun {x y Q Q'} hq h => ?_⟩
  unfold fInT at h ⊢
  split at h
  · exact let ⟨ks, a, b, c⟩ := h; ⟨ks, a, b, hq _ c⟩
  · exact h
section
variable {X : Cx} {C : Ct}
theorem room8 (hu : X.A.units + 65 < cLine) : (nestedKind X.prog X.w).room X.A.in1 := by
  show X.A.units + 1 + 8 < cLine
  omega
theorem op_inT (hu : X.A.units + 65 < cLine) (F : Fit X C) : Op2 X C (compareOp .In) (fInT false) := by
  refine ⟨?_, mo_inT⟩
  refine fit_cases (X := X) (motive := fun C => OpR X (compareOp .In) (rD2 C (fInT false))) (fun T M0 H0 => ?_) C F
  intro pins s σ H x y v u Q I rx ry ⟨M, d1, d2, r1, r2, dm, h⟩
  cases d2 with
  | tdict kvs =>
    obtain ⟨ks, e1, dp, q⟩ := h
    subst e1
    obtain ⟨a, o, xs, rfl, ea, de, rn⟩ := r2.td
    obtain ⟨b, zs, rfl, _, _⟩ := r1.tup
    cases rx
    cases ry
    have hk : NestedIs s.heap (.tup ks) (.ref b) := key_heap I (.tup ks) _ _ r1.tupRp rfl
    refine wpAny_in_heap (knd := nestedKind X.prog X.w) (k := .tup ks) (room8 hu) ⟨hk, dp⟩ de.2.1 (td_heap I ea de rn) ⟨.bl _, H, I.tok _, rfl, ?_⟩
    rw [rpn_some rn]
    exact q _ _ Same.refl' (.bl _)
  | _ => exact h.elim
theorem op_notInT (hu : X.A.units + 65 < cLine) (F : Fit X C) : Op2 X C (compareOp .NotIn) (fInT true) := by
  refine ⟨?_, mo_inT⟩
  refine fit_cases (X := X) (motive := fun C => OpR X (compareOp .NotIn) (rD2 C (fInT true))) (fun T M0 H0 => ?_) C F
  intro pins s σ H x y v u Q I rx ry ⟨M, d1, d2, r1, r2, dm, h⟩
  cases d2 with
  | tdict kvs =>
    obtain ⟨ks, e1, dp, q⟩ := h
    subst e1
    obtain ⟨a, o, xs, rfl, ea, de, rn⟩ := r2.td
    obtain ⟨b, zs, rfl, _, _⟩ := r1.tup
    cases rx
    cases ry
    have hk : NestedIs s.heap (.tup ks) (.ref b) := key_heap I (.tup ks) _ _ r1.tupRp rfl
    refine notIn_keyed (knd := nestedKind X.prog X.w) (k := .tup ks) (room8 hu) ⟨hk, dp⟩ de.2.1 ⟨xs, td_heap I ea de rn, rfl⟩ ⟨.bl _, H, I.tok _, rfl, ?_⟩
    rw [valueAt_pairsH, Option.isSome_map, rpn_some rn]
    exact q _ _ Same.refl' (.bl _)
  | _ => exact h.elim
def fIn : B2 := fun x y Q => match y with
  | .tdict _ => fInT false x y Q
  | _ => fInS x y Q
def fNotIn : B2 := fun x y Q => match y with
  | .tdict _ => fInT true x y Q
  | _ => fNotInS x y Q
theorem mo_in : Mo2 fIn := by
  refine ⟨fun {x y Q Q'} hq h => ?_⟩
  unfold fIn at h ⊢
  split at h
  · exact mo_inT.imp hq h
  · exact mo_inS.imp hq h
theorem mo_notIn : Mo2 fNotIn := by
  refine ⟨fun {x y Q Q'} hq h => ?_⟩
  unfold fNotIn at h ⊢
  split at h
  · exact mo_inT.imp hq h
  · exact mo_notInS.imp hq h
theorem op_inD' (hu : X.A.units + 65 < cLine) (F : Fit X C) : Op2 X C (compareOp .In) fIn := by
  refine ⟨((op_inT hu F).ok.or (op_inS' hu F).ok).imp fun x y H Q ⟨M, d1, d2, r1, r2, dm, h⟩ => ?_, mo_in⟩
  unfold fIn at h
  split at h
  · exact .inl ⟨M, d1, _, r1, r2, dm, h⟩
  · exact .inr ⟨M, d1, _, r1, r2, dm, h⟩
theorem op_notInD' (hu : X.A.units + 65 < cLine) (F : Fit X C) : Op2 X C (compareOp .NotIn) fNotIn := by
  refine ⟨((op_notInT hu F).ok.or (op_notInS' hu F).ok).imp fun x y H Q ⟨M, d1, d2, r1, r2, dm, h⟩ => ?_, mo_notIn⟩
  unfold fNotIn at h
  split at h
  · exact .inl ⟨M, d1, _, r1, r2, dm, h⟩
  · exact .inr ⟨M, d1, _, r1, r2, dm, h⟩
end
def fIx : B2 := fun x y Q => match x with
  | .tdict kvs => ∃ ks d, y = .tuple (keysD ks) ∧ (NestedKey.tup ks).depth ≤ 8 ∧ kvGet kvs (.tup ks) = some d ∧ Q d
  | _ => fIxS x y Q
theorem mo_ix : Mo2 fIx := by
  refine ⟨fun {x y Q Q'} hq h => ?_⟩
  unfold fIx at h ⊢
  split at h
  · exact let ⟨ks, d, a, b, c, q⟩ := h; ⟨ks, d, a, b, c, hq _ q⟩
  · exact mo_ixS.imp hq h
section
variable {X : Cx} {C : Ct} {W : XW} {pos : Pos} {k : Nat}
theorem ix_D (hu : X.A.units + 65 < cLine) (F : Fit X C) : IxR X (rD2 C fIx) := by
  intro value slice pins s σ H x y v uu Q I rx ry ⟨M, d1, d2, r1, r2, dm, h⟩ hs
  unfold fIx at h
  split at h
  · rename_i kvs
    obtain ⟨K0, P0, w0, T0, M0, H0⟩ := C
    obtain ⟨z1, z2, z3⟩ := F
    cases z1; cases z2; cases z3
    obtain ⟨ks, d, e1, dp, eg, q⟩ := h
    subst e1
    obtain ⟨a, o, xs, rfl, ea, de, rn⟩ := r1.td
    obtain ⟨b, zs, rfl, _, _⟩ := r2.tup
    cases rx
    cases ry
    have hk : NestedIs s.heap (.tup ks) (.ref b) := key_heap I (.tup ks) _ _ r2.tupRp rfl
    rcases rpn_get (.tup ks) rn with ⟨_, z⟩ | ⟨p, v, d', hp, hd, rv, rp⟩
    · rw [eg] at z; cases z
    · rw [eg] at hd
      cases hd
      have hm := td_heap I ea de rn
      exact tail_any hm.typeIs PySem.F.slot_dict_getitem.lookup (wpAny_getItem_heap (knd := nestedKind X.prog X.w) (k := .tup ks) (room8 hu) ⟨hk, dp⟩ hm hp ⟨v, H, I.tok _, rv, q v H Same.refl' rp⟩) hs
  · exact ix_S F value slice pins s σ H x y v uu Q I rx ry ⟨M, _, d2, r1, r2, dm, h⟩ hs
theorem dv_ix {a b : Expr} {ta tb : TP} (G : Good X C W k) (ha : DE X C W a ta) (hb : DE X C W b tb) (hs : PlainIx b := by exact fun _ _ => rfl) : DV X C W (.Subscript a b pos) (wOp2 fIx ta tb) :=
  ⟨(pe_ix (ix_D G.hu65 G.fit) ha.pe hb.pe hs).imp fun σ H Q h => run_op2 ha hb h mo_ix, mono_op2 mo_ix ha.mo hb.mo⟩
end
def gLen : Bn := fun ds Q => match ds with
  | [.tdict kvs] => Q (.int kvs.length)
  | _ => gLenS ds Q
section
variable {X : Cx} {C : Ct}
theorem call_lenT (F : Fit X C) : CallR X (.builtin "len") (fun xs H Q => ∃ M kvs v, xs = [v] ∧ C.Rq M H v (.tdict kvs) ∧ Q (.int kvs.length) H) := by
  refine fit_cases (X := X) (motive := fun C => CallR X (.builtin "len") (fun xs H Q => ∃ M kvs v, xs = [v] ∧ C.Rq M H v (.tdict kvs) ∧ Q (.int kvs.length) H)) (fun T M0 H0 => ?_) C F
  intro pins s σ H xs us Q I r ⟨M, kvs, v, e, r1, q⟩
  subst e
  obtain ⟨u, rfl, ru⟩ := vals1 r
  obtain ⟨a, o, xs, rfl, ea, de, rn⟩ := r1.td
  cases ru
  have hl := rpn_len rn
  have hz := de.1
  refine call_len_dictH de.2.1 (td_heap I ea de rn) (by rw [sizeLine_eq] at hz; omega) ?_
  exact ⟨.int xs.length, H, I.tok _, ⟨_, rfl⟩, by rw [hl]; exact q⟩
theorem b_len (F : Fit X C) : Blt X C (.builtin "len") gLen := by
  refine ⟨((call_lenT F).or (b_lenS F).ok).imp fun xs H Q ⟨M, ds, r, dm, h⟩ => ?_, ⟨fun {ds Q Q'} hq h => ?_⟩⟩
  · unfold gLen at h
    split at h
    · obtain ⟨v, rfl, r1⟩ := rq1 r
      exact .inl ⟨M, _, v, rfl, r1, h _ _ Same.refl' (.int _)⟩
    · exact .inr ⟨M, ds, r, dm, h⟩
  · unfold gLen at h ⊢
    split at h
    · exact hq _ h
    · exact (b_lenS (X := X) F).mo.imp hq h
end
end HC
namespace HC
open PySem PySem.Spec PyProof.Rows L2
section
variable {K : PySem.W.Frag} {P : Program} {w : World} {M : Addr → Prop} {H : Hp}
theorem rpn_map {k : NestedKey} {v : V} {u : Value} {d : D} (rv : RelV v u) (hv : Rp K P w M H v d) : ∀ {xs : List (NestedKey × Addr × Value)} {kvs : List (NestedKey × D)}, RpN K P w M H xs kvs →
    RpN K P w M H (xs.map (putAt k u)) (kvs.map fun p => if p.1 = k then (p.1, d) else p)
  | _, _, .nil => .nil
  | _, _, .cons (k := k') (a := a) (v := v') (u := u') (d := d') h1 h2 h3 h4 => by
    rw [List.map_cons, List.map_cons]
    unfold putAt
    by_cases e : k' = k
    · rw [if_pos e, if_pos e]
      exact .cons h1 rv hv (rpn_map rv hv h4)
    · rw [if_neg e, if_neg e]
      exact .cons h1 h2 h3 (rpn_map rv hv h4)
theorem rpn_app : ∀ {xs ys : List (NestedKey × Addr × Value)} {kvs kvs' : List (NestedKey × D)}, RpN K P w M H xs kvs → RpN K P w M H ys kvs' → RpN K P w M H (xs ++ ys) (kvs ++ kvs')
  | _, _, _, _, .nil, h => h
  | _, _, _, _, .cons h1 h2 h3 h4, h => .cons h1 h2 h3 (rpn_app h4 h)
theorem rpn_put {k : NestedKey} {b : Addr} {v : V} {u : Value} {d : D} {xs : List (NestedKey × Addr × Value)} {kvs : List (NestedKey × D)} (r : RpN K P w M H xs kvs) (hk : Rp K P w M H (.ref b) (keyD k)) (rv : RelV v u) (hv : Rp K P w M H v d) :
    RpN K P w M H (storedH xs k b u) (kvPut kvs k d) := by
  unfold storedH kvPut
  rw [rpn_some r]
  split
  · exact rpn_map rv hv r
  · exact rpn_app r (.cons hk rv hv .nil)
theorem storedH_len (xs : List (NestedKey × Addr × Value)) (k : NestedKey) (b : Addr) (u : Value) : (storedH xs k b u).length ≤ xs.length + 1 := by
  unfold storedH
  split
  · rw [List.length_map]; omega
  · rw [List.length_append]; exact Nat.le_refl _
theorem storedH_keys {xs : List (NestedKey × Addr × Value)} {k : NestedKey} {b : Addr} {u : Value} {p : NestedKey → Prop} (h : ∀ x ∈ xs, p x.1) (hk : p k) : ∀ x ∈ storedH xs k b u, p x.1 := by
  intro x hx
  unfold storedH at hx
  split at hx
  · obtain ⟨y, hy, rfl⟩ := List.mem_map.mp hx
    unfold putAt
    split
    · exact h y hy
    · exact h y hy
  · rcases List.mem_append.mp hx with hx | hx
    · exact h x hx
    · rw [List.mem_singleton.mp hx]; exact hk
end
section
variable {X : Cx}
theorem dent_of {a : Addr} {xs : List (NestedKey × Addr × Value)} {h : Heap} (hm : h.DictOfH (nestedKind X.prog X.w) a xs) (hz : xs.length ≤ sizeLine) (hl : (a == sysModules) = false) (hd : ∀ x ∈ xs, x.1.depth ≤ 8) :
    ∃ o, h.get? a = some o ∧ DEnt X.prog X.w a o xs := by
  obtain ⟨o, es, ep, h1, h2, h3, h4, h5, h6⟩ := hm
  exact ⟨o, h1, hz, hl, h2, es, ep, h3, h4, h6, hd⟩
theorem dn_objOk {P : Program} {w : World} {H : Hp} {h : Heap} {a : Addr} {o : Obj} (e : h.get? a = some o) : ObjOk P w H h a (dnO a o) := ⟨e, ⟨o, e⟩, fun h1 h2 p k => k _ p⟩
def rSetT (X : Cx) : V → V → V → Hp → (Hp → Prop) → Prop := fun o i v H Q => ∃ (M : Addr → Prop) (a b : Addr) (ob : Obj) (xs : List (NestedKey × Addr × Value)) (kvs : List (NestedKey × D)) (ks : List NestedKey), o = .ref a ∧ i = .ref b ∧ H a = some (dnO a ob) ∧ DEnt X.prog X.w a ob xs ∧
  RpN X.K X.prog X.w M H xs kvs ∧ Rp X.K X.prog X.w M H (.ref b) (.tuple (keysD ks)) ∧ (NestedKey.tup ks).depth ≤ 8 ∧ xs.length < sizeLine ∧ ∀ ob' u, DEnt X.prog X.w a ob' (storedH xs (.tup ks) b u) → RelV v u → Q (upd H a (dnO a ob'))
theorem set_td (hu : X.A.units + 65 < cLine) : PSet X (rSetT X) := by
  intro pins s σ H o i v ov iv u Q I ro ri rv ⟨M, a, b, ob, xs, kvs, ks, e1, e2, ea, de, rn, rk, dp, hz, q⟩
  subst e1 e2
  cases ro
  cases ri
  have hk : NestedIs s.heap (.tup ks) (.ref b) := key_heap I (.tup ks) _ _ rk rfl
  refine wpAny_setItem_heap (knd := nestedKind X.prog X.w) (k := .tup ks) (hsz := Nat.le_of_lt hz) (room8 hu) ⟨hk, dp⟩ (td_heap I ea de rn) fun h' hm' hs => ?_
  have hl := storedH_len xs (.tup ks) b u
  obtain ⟨ob', g1, g2⟩ := dent_of hm' (by omega) de.2.1 (storedH_keys (p := fun k => k.depth ≤ 8) de.2.2.2.choose_spec.choose_spec.2.2.2 dp)
  refine ⟨upd H a (dnO a ob'), ?_, q ob' u g2 rv⟩
  exact I.write (x := a) (e := a) (by rw [ea]; trivial) (.inl rfl) (fun c w hc q => (hs.2 c hc).trans q) ⟨_, g1⟩ (dn_objOk g1)
theorem PSet.or {r1 r2 : V → V → V → Hp → (Hp → Prop) → Prop} (h1 : PSet X r1) (h2 : PSet X r2) : PSet X (fun o i v H Q => r1 o i v H Q ∨ r2 o i v H Q) := fun pins s σ H o i v ov iv u Q I ro ri rv h =>
  h.elim (fun h => h1 pins s σ H o i v ov iv u Q I ro ri rv h) fun h => h2 pins s σ H o i v ov iv u Q I ro ri rv h
end
def sSet (i : Nat) (t tj : TP) : TSD := fun e r => match slot r i with
  | .own (.list ds) => t r (fun d => tj r (fun j => match j with
    | .int n => ∃ m, ixN ds.length n = some m ∧ e.nx (r.set i (.own (.list (ds.set m d))))
    | _ => False) (e.ex r)) (e.ex r)
  | .own (.tdict kvs) => t r (fun d => tj r (fun j => ∃ ks, j = .tuple (keysD ks) ∧ (NestedKey.tup ks).depth ≤ 8 ∧ kvs.length < sizeLine ∧ e.nx (r.set i (.own (.tdict (kvPut kvs (.tup ks) d))))) (e.ex r)) (e.ex r)
  | _ => False
section
variable {X : Cx} {C : Ct} {W : XW} {e : Expr} {pos : Pos} {k : Nat}
theorem ds_set (i : Nat) {x : Str} {ej : Expr} {t tj : TP} {p1 p2 : Pos} (G : Good X C W k) (he : DV X C W e t) (hj : DE X C W ej tj) (hN : X.N[i]? = some x := by rfl) (hv : Vis X.env.scope x := by first | exact Or.inl rfl | exact Or.inr (Or.inl rfl) | exact Or.inr (Or.inr rfl))
    (hd : (x == ("__debug__" : Str)) = false := by decide) (hcd : (x == ("__classdict__" : Str)) = false := by decide)
    (ha : ∀ v, assign (.Subscript (.Name x p1) ej p2) X.env v = (do
      let ov ← holding [v] (eval (.Name x p1) X.env)
      let iv ← holding [v, ov] (eval ej X.env)
      standAt p2
      holding [v, ov, iv] (setItem ov iv v)
      release [v, ov, iv] []) := by intro _; rfl)
    (hs : swapsWithSole [.Subscript (.Name x p1) ej p2] e pos.line X.env = pure false := by rfl) (hw : swappedStores [.Subscript (.Name x p1) ej p2] e X.env = pure none := by rfl)
    (h1 : (assignEach [.Subscript (.Name x p1) ej p2] X.env).map (·.2) = [assign (.Subscript (.Name x p1) ej p2) X.env] := by rfl) :
    DS X C W (.Assign [.Subscript (.Name x p1) ej p2] e pos) (sSet i t tj) := by
  refine ⟨(ps_asg he.pe (pg_sub (pe_var (i := i) hN hv hd hcd) hj.pe (PSet.or set_list (set_td G.hu65)) ha) hs hw h1).imp fun De σ H ⟨M, r, e, S, f, q⟩ => ?_, ⟨fun {e e' r} h q => ?_⟩⟩
  · unfold sSet at q
    split at q
    · rename_i ds hsl
      have hr := slot_get hsl (by simp)
      refine ⟨M, r, e.ex r, S, f.wish S, he.mo.imp (fun d z v H1 k1 S1 p1 => ?_) (fun _ z => z) q⟩
      obtain ⟨a, e1, m, h0, m0, tp⟩ := S1.own i _ hr
      refine ⟨.ref a, e1, M, r, e.ex r, S1, (f.wish S).mono k1, hj.mo.imp (fun j z vj H2 k2 S2 p2 => ?_) (fun _ z => z) z⟩
      cases tp with
      | @lst xs _ ea pa =>
        cases j with
        | int n =>
          obtain ⟨mm, hm, z⟩ := z
          have nt : ¬ C.inT a := fun t => m0 (S.inm a t)
          have ea2 : H2 a = some (.lst xs) := k2 a _ nt ea
          refine .inl ⟨a, xs, n, mm, rfl, p2.int, ea2, by rw [HC.RpA.length pa]; exact hm, ?_⟩
          obtain ⟨s3, S3⟩ := S2.mut (o := .lst (xs.set mm v)) (d' := .list (ds.set mm d)) hr e1 fun s3 => .lst upd_same (((HC.RpA.step (S1.stp k2) pa).set (HC.Rp.step (S1.stp k2) p1) mm).step s3)
          exact f.nx M _ σ _ (((S.stp k1).trans (S1.stp k2)).trans s3) S3 z
        | _ => exact z.elim
    · rename_i kvs hsl
      have hr := slot_get hsl (by simp)
      refine ⟨M, r, e.ex r, S, f.wish S, he.mo.imp (fun d z v H1 k1 S1 p1 => ?_) (fun _ z => z) q⟩
      obtain ⟨a, e1, m, h0, m0, tp⟩ := S1.own i _ hr
      refine ⟨.ref a, e1, M, r, e.ex r, S1, (f.wish S).mono k1, hj.mo.imp (fun j z vj H2 k2 S2 p2 => ?_) (fun _ z => z) z⟩
      cases tp with
      | @dctN ob xs _ ea de rn =>
        obtain ⟨ks, ej, dp, hz, z⟩ := z
        subst ej
        have nt : ¬ C.inT a := fun t => m0 (S.inm a t)
        have ea2 : H2 a = some (dnO a ob) := k2 a _ nt ea
        obtain ⟨b, _, rfl, _, _⟩ := p2.tup
        have rn2 := RpN.step (S1.stp k2) rn
        have rv2 := HC.Rp.step (S1.stp k2) p1
        have rk2 := p2.tupRp
        have FF := G.fit
        obtain ⟨K0, P0, w0, T0, M0, H0⟩ := C
        obtain ⟨z1, z2, z3⟩ := FF
        cases z1; cases z2; cases z3
        refine .inr ⟨M, a, b, ob, xs, kvs, ks, rfl, rfl, ea2, de, rn2, rk2, dp, by rw [rpn_len rn]; exact hz, fun ob' u de' ru => ?_⟩
        obtain ⟨s3, S3⟩ := S2.mut (o := dnO a ob') (d' := .tdict (kvPut kvs (.tup ks) d)) hr e1 fun s3 => .dctN upd_same de' (RpN.step s3 (rpn_put rn2 rk2 ru rv2))
        exact f.nx M _ σ _ (((S.stp k1).trans (S1.stp k2)).trans s3) S3 z
    · exact q.elim
  · unfold sSet at q ⊢
    split at q
    · refine he.mo.imp (fun d z => hj.mo.imp (fun j z => ?_) (fun c z => h.ex _ c z) z) (fun c z => h.ex _ c z) q
      split at z
      · obtain ⟨m, hm, z⟩ := z
        exact ⟨m, hm, h.nx _ z⟩
      · exact z
    · refine he.mo.imp (fun d z => hj.mo.imp (fun j z => ?_) (fun c z => h.ex _ c z) z) (fun c z => h.ex _ c z) q
      exact let ⟨ks, a, b, c, z⟩ := z; ⟨ks, a, b, c, h.nx _ z⟩
    · exact q
end
section
variable {X : Cx} {C : Ct} {W : XW} {pos : Pos} {k : Nat} {ke ve : Expr} {tk tv : TP}
theorem pe_dnewN : PE X (.Dict [] [] pos) (fun _ H Q => ∀ p o, H p = none → DEnt X.prog X.w p o [] → Q (.ref p) (upd H p (dnO p o))) := ⟨fun pins s σ H Q I h => by
  have e : (s.heap.push { cls := .type "dict", data := .dict #[] }).get? s.heap.objs.size = some { cls := .type "dict", data := .dict #[] } := Heap.get?_push_size _ rfl
  refine wpAny_Dict_empty ⟨.ref s.heap.objs.size, _, I.laid (a := s.heap.objs.size) (o := dnO s.heap.objs.size { cls := .type "dict", data := .dict #[] }) (t' := s.toks) (fun _ _ q => Heap.get?_push_of_some _ q) (Nat.le_refl _) (dn_objOk e), rfl, h _ _ (I.hok.fresh (Nat.le_refl _)) ?_⟩
  exact ⟨Nat.zero_le _, beq_eq_false_iff_ne.mpr (Ne.symm (Nat.ne_of_lt I.big)), ⟨rfl, rfl, rfl⟩, #[], 0, rfl, rfl, List.nodup_nil, fun x hx => by cases hx⟩⟩
def wNewT : TP := fun _ Q _ => Q (.tdict [])
theorem dn_dictT (G : Good X C W k) : DN X C W (.Dict [] [] pos) wNewT := by
  have FF := G.fit
  obtain ⟨K0, P0, w0, T0, M0, H0⟩ := C
  obtain ⟨z1, z2, z3⟩ := FF
  cases z1; cases z2; cases z3
  refine ⟨pe_dnewN.imp fun σ H Q ⟨M, r, E, S, hW, q⟩ p o hp de => ?_, ⟨fun hq _ h => hq _ h⟩⟩
  have S2 := S.take (p := p) (H' := upd H p (dnO p o)) hp (same_upd hp) (by rw [upd_same]; simp)
  exact q p _ (Same.ex (same_upd hp)) hp S2 (.dctN upd_same de .nil)
end
end HC
namespace HC
open PySem PySem.Spec PyProof.Rows L2
theorem tok_upd {C : Ct} {M : Addr → Prop} {H : Hp} {p : Addr} {o : HO} (t : C.tok M H) (m : M p) (n : ¬ C.inT p) : C.tok M (upd H p o) :=
  tok_step (fun a x e na => ⟨by rw [upd_ne (fun z : a = p => na (by rw [z]; exact m))]; exact e, na⟩) (fun a ha => upd_ne (fun z : a = p => n (z ▸ ha))) t
theorem Sim.takeEx {C : Ct} {M : Addr → Prop} {r : Env} {σ : L2.St} {H H' : Hp} (S : Sim C M r σ H) {p : Addr} (hp : H p = none) (k : C.Ex H H') (t : C.tok (fun a => M a ∨ a = p) H') (hs : H' p ≠ none) : Sim C (fun a => M a ∨ a = p) r σ H' := by
  have S1 := S.grow k (tok_step (Stp.less fun a m => .inl m) (fun _ _ => rfl) t)
  have st : Stp M H (fun a => M a ∨ a = p) H' := fun a o e m => ⟨k a o (fun t => m (S.tm t)) e, fun z => z.elim m fun q => by rw [q, hp] at e; cases e⟩
  refine ⟨S.len, fun i d e => ?_, fun i d e => ?_, S.sep, S.tk, ⟨S1.base.keep, t⟩, fun a m => .inl (S.m0 a m), fun a m => ?_, S.inm⟩
  · obtain ⟨v, h1, h2⟩ := S.val i d e
    exact ⟨v, h1, h2.step st⟩
  · obtain ⟨a, h1, h2, h3, h4, h5⟩ := S.own i d e
    exact ⟨a, h1, .inl h2, h3, h4, h5.step st fun o q => k a o (fun t => h4 (S.inm a t)) q⟩
  · rcases m with m | rfl
    · exact S1.dom a m
    · exact hs
section
variable {X : Cx} {C : Ct} {W : XW} {pos : Pos} {k : Nat} {ke ve : Expr} {tk tv : TP}
theorem pe_disp1N {tx ty : TE} (hu : X.A.units + 65 < cLine) (hk : PE X ke tx) (hv : PE X ve ty) : PE X (.Dict [some ke] [ve] pos) (fun σ H Q => ∀ p o, H p = none → DEnt X.prog X.w p o [] →
    tx σ (upd H p (dnO p o)) fun x H1 => ty σ H1 fun y H2 => ∃ (M : Addr → Prop) (ks : List NestedKey) (b : Addr), H2 p = some (dnO p o) ∧ x = .ref b ∧ Rp X.K X.prog X.w M H2 (.ref b) (.tuple (keysD ks)) ∧ (NestedKey.tup ks).depth ≤ 8 ∧
      ∀ o' u, DEnt X.prog X.w p o' [(.tup ks, b, u)] → RelV y u → Q (.ref p) (upd H2 p (dnO p o'))) := by
  refine ⟨fun pins s σ H Q I q => ?_⟩
  have e0 : (s.heap.push { cls := .type "dict", data := .dict #[] }).get? s.heap.objs.size = some { cls := .type "dict", data := .dict #[] } := Heap.get?_push_size _ rfl
  have hn := I.hok.fresh (Nat.le_refl s.heap.objs.size)
  have hlow : (s.heap.objs.size == sysModules) = false := beq_eq_false_iff_ne.mpr (Ne.symm (Nat.ne_of_lt I.big))
  have de0 : DEnt X.prog X.w s.heap.objs.size { cls := .type "dict", data := .dict #[] } [] := ⟨Nat.zero_le _, hlow, ⟨rfl, rfl, rfl⟩, #[], 0, rfl, rfl, List.nodup_nil, fun x hx => by cases hx⟩
  have I1 := I.laid (a := s.heap.objs.size) (o := dnO s.heap.objs.size { cls := .type "dict", data := .dict #[] }) (h' := s.heap.push { cls := .type "dict", data := .dict #[] }) (t' := s.toks) (fun _ _ q => Heap.get?_push_of_some _ q) (Nat.le_refl _) (dn_objOk e0)
  have hlen : (pairTrees [some ke] [ve] X.env pos).length ≤ 15 := by show 1 ≤ 15; decide
  rw [arm_eval_Dict, zip_pairTrees [some ke] [ve] X.env pos rfl rfl, dictDisplay_pairs _ (by intro z; cases z) (by show 1 < 17; decide)]
  refine wpAny_bind (wpAny_standAt (wpAny_bind (wpAny_subDictH (knd := nestedKind X.prog X.w) (by show X.A.units + 8 < cLine; omega) hlen ?_)))
  refine thn ((pps_cons hk hv pps_nil).run pins _ σ _ (fun ps H2 => match ps with
    | [(x, y)] => ∃ (M : Addr → Prop) (ks : List NestedKey) (b : Addr), H2 s.heap.objs.size = some (dnO s.heap.objs.size { cls := .type "dict", data := .dict #[] }) ∧ x = .ref b ∧ Rp X.K X.prog X.w M H2 (.ref b) (.tuple (keysD ks)) ∧ (NestedKey.tup ks).depth ≤ 8 ∧
      ∀ o' u, DEnt X.prog X.w s.heap.objs.size o' [(.tup ks, b, u)] → RelV y u → Q (.ref s.heap.objs.size) (upd H2 s.heap.objs.size (dnO s.heap.objs.size o'))
    | _ => False) I1 (q _ _ hn de0)) fun vs s2 ⟨ps, H2, I2, rel, q2⟩ => ?_
  cases rel with
  | nil => exact q2.elim
  | @cons p1 v1 ps' vs' h1 h2 =>
    cases h2 with
    | cons _ _ => exact q2.elim
    | nil =>
      obtain ⟨x, y⟩ := p1
      obtain ⟨u1, u2⟩ := v1
      obtain ⟨M, ks, b, ea, ex, rk, dp, q3⟩ := q2
      obtain ⟨rx, ry⟩ := h1
      subst ex
      cases rx
      have hkey : (nestedKind X.prog X.w).is s2.heap (.tup ks) b := ⟨key_heap I2 (.tup ks) _ _ rk rfl, dp⟩
      refine ⟨[(.tup ks, b, u2)], ⟨rfl, rfl, hkey, trivial⟩, td_heap (M := M) I2 ea de0 .nil, fun h' tk hm' hs => wpAny_pure ?_⟩
      have hm2 : h'.DictOfH (nestedKind X.prog X.w) s.heap.objs.size [(.tup ks, b, u2)] := hm'
      obtain ⟨o', g1, g2⟩ := dent_of hm2 (by show 1 ≤ sizeLine; decide) hlow (fun x hx => by rw [List.mem_singleton.mp hx]; exact dp)
      refine ⟨.ref s.heap.objs.size, upd H2 s.heap.objs.size (dnO s.heap.objs.size o'), ?_, rfl, q3 o' u2 g2 ry⟩
      exact I2.write (x := s.heap.objs.size) (e := s.heap.objs.size) (by rw [ea]; trivial) (.inl rfl) (fun c w hc q => (hs.2 c hc).trans q) ⟨_, g1⟩ (dn_objOk g1)
def wDisp1 (tk tv : TP) : TP := fun r Q E => tk r (fun x => tv r (fun y => ∃ ks, x = .tuple (keysD ks) ∧ (NestedKey.tup ks).depth ≤ 8 ∧ Q (.tdict [(.tup ks, y)])) E) E
theorem dn_disp1 (G : Good X C W k) (hk : DV X C W ke tk) (hv : DV X C W ve tv) : DN X C W (.Dict [some ke] [ve] pos) (wDisp1 tk tv) := by
  refine ⟨?_, ⟨fun hq he q => hk.mo.imp (fun x z => hv.mo.imp (fun y ⟨ks, a, b, c⟩ => ⟨ks, a, b, hq _ c⟩) he z) he q⟩⟩
  have FF := G.fit
  have hu := G.hu65
  obtain ⟨K0, P0, w0, T0, M0, H0⟩ := C
  obtain ⟨z1, z2, z3⟩ := FF
  cases z1; cases z2; cases z3
  refine (pe_disp1N hu hk.pe hv.pe).imp fun σ H Q ⟨M, r, E, S, hW, q⟩ p o hp de => ?_
  have S2 := S.take (p := p) (H' := upd H p (dnO p o)) hp (same_upd hp) (by rw [upd_same]; simp)
  have nt : ¬ (⟨X.K, X.prog, X.w, T0, M0, H0⟩ : Ct).inT p := fun t => absurd (S.dom p (S.tm t)) (by rw [hp]; simp)
  refine ⟨fun a => M a ∨ a = p, r, E, S2, ?_, hk.mo.imp (fun x z vx H1 k1 S1 p1 => ⟨_, r, E, S1, ?_, hv.mo.imp (fun y zz vy H2 k2 S2' p2 => ?_) (fun _ z => z) z⟩) (fun _ z => z) q⟩
  · exact fun c H' k' S' q => hW c H' ((Same.ex (same_upd hp)).trans k') (S.drop hp S') q
  · exact fun c H' k' S' q => hW c H' (((Same.ex (same_upd hp)).trans k1).trans k') (S.drop hp S') q
  · obtain ⟨ks, ex, dp, zq⟩ := zz
    subst ex
    have ea2 : H2 p = some (dnO p o) := k2 p _ nt (k1 p _ nt upd_same)
    have rk := HC.Rp.step (S1.stp k2) p1
    obtain ⟨b, rfl⟩ := rk.tupRef
    refine ⟨_, ks, b, ea2, rfl, rk, dp, fun o' u de' ru => ?_⟩
    have kk : Ct.Ex ⟨X.K, X.prog, X.w, T0, M0, H0⟩ H (upd H2 p (dnO p o')) := fun a x n e => by
      have na : a ≠ p := fun z => by rw [z, hp] at e; cases e
      rw [upd_ne na]
      exact k2 a _ n (k1 a _ n (by rw [upd_ne na]; exact e))
    have S3 := S.takeEx hp kk (tok_upd S2'.base.tok (.inr rfl) nt) (by rw [upd_same]; simp)
    have st : Stp (fun a => M a ∨ a = p) H2 (fun a => M a ∨ a = p) (upd H2 p (dnO p o')) := fun a x e m => ⟨by rw [upd_ne (fun z => m (.inr z))]; exact e, m⟩
    exact zq p _ kk hp S3 (.dctN upd_same de' (.cons (HC.Rp.step st rk) ru (HC.Rp.step st p2) .nil))
end
end HC
namespace HC
open PySem PySem.Spec PyProof.Rows L2
def ItN (a : Addr) (o : Obj) (ks : List Addr) : It :=
  ⟨fun i H => H a = some (dnO a o) ∧ i < ks.length, fun i H v H' => H' = H ∧ ∃ b, ks[i]? = some b ∧ v = .ref b, fun i H => H a = some (dnO a o) ∧ ks.length ≤ i⟩
theorem turn_keysN {P : Program} {w : World} {K : PySem.W.Frag} {tg : Expr} {a : Addr} {o : Obj} {es : Array DictEntry} {ep : Nat} {ks : List Addr} (it : Addr) (hod : o.data = .dict es ep) (hks : es.toList.map (·.key) = ks.map Value.ref) :
    Turn P w K tg (ItN a o ks) [it] it (fun i h => h.IsKeyIter it a i ks.length ep) where
  mem := by simp
  obj := fun i h st b hb => by
    have e : b = it := by simpa using hb
    rw [e]
    obtain ⟨oi, e, c, dd⟩ := st
    exact ⟨oi, e, fun v z => by rw [dd] at z; cases z⟩
  keep := fun i h h' st k => st.at fun oi e => k it (by simp) oi e
  item := by
    intro X hP hw hK hc i pins s σ H E I hf st ⟨hd, hi⟩
    subst hP hw hK
    obtain ⟨f0, f1, f2, f3, f4, f5⟩ := hf it (by simp)
    have ho : s.heap.get? a = some o := (I.hok a _ hd).1
    have hsz : es.size = ks.length := by
      have := congrArg List.length hks
      simpa using this
    have hlt : i < es.size := by omega
    have hkey : es[i].key = .ref ks[i] := by
      have h1 : (es.toList.map (·.key))[i]? = (ks.map Value.ref)[i]? := by rw [hks]
      rw [List.getElem?_map, List.getElem?_map, List.getElem?_eq_getElem hi, Array.getElem?_toList, Array.getElem?_eq_getElem hlt] at h1
      exact Option.some.inj h1
    refine next_key_item st ho hod hsz (Array.getElem?_eq_getElem hlt) fun h' st' sb => ?_
    have I1 : Inv X pins σ H { s with heap := h' } := I.turned (t' := s.toks) (fun b ob hb e => (sb.2 b hb).trans e) f0 f1 f3 f4 f5
    obtain ⟨oi, e, c, dd⟩ := id st'
    exact ⟨_, rfl, go_of (s := { s with heap := h' }) e c dd (by decide) ⟨.ref ks[i], H, I1, hkey, ⟨rfl, _, List.getElem?_eq_getElem hi, rfl⟩, st', fun b hb => (hf b hb).1⟩⟩
  done := by
    intro X hP hw hK hc i pins s σ H E I hf st ⟨hd, hi⟩
    subst hP hw hK
    obtain ⟨f0, f1, f2, f3, f4, f5⟩ := hf it (by simp)
    have ho : s.heap.get? a = some o := (I.hok a _ hd).1
    have hsz : es.size = ks.length := by
      have := congrArg List.length hks
      simpa using this
    exact next_key_end (I.ok.hd hc) st ho hod hsz hi fun h' eb => ⟨rfl, I.turned (t' := s.toks) (fun b ob hb e => eb b ob hb e) f0 f1 f3 f4 f5⟩
  self := fun A i s Q E st h => wpAny_pyIter_keyiter st h
theorem dent_keys {P : Program} {w : World} {a : Addr} {o : Obj} {xs : List (NestedKey × Addr × Value)} (h : DEnt P w a o xs) : ∃ es ep, o.data = .dict es ep ∧ es.toList.map (·.key) = (xs.map (·.2.1)).map Value.ref := by
  obtain ⟨_, _, _, es, ep, h1, h2, _⟩ := h
  refine ⟨es, ep, h1, ?_⟩
  rw [h2, List.map_map, List.map_map]
  rfl
theorem rpn_at {K : PySem.W.Frag} {P : Program} {w : World} {M : Addr → Prop} {H : Hp} : ∀ {xs : List (NestedKey × Addr × Value)} {kvs : List (NestedKey × D)}, RpN K P w M H xs kvs → ∀ {i : Nat} {b : Addr}, (xs.map (·.2.1))[i]? = some b → ∃ p, kvs[i]? = some p ∧ Rp K P w M H (.ref b) (keyD p.1)
  | _, _, .nil, i, b, h => by simp at h
  | _, _, .cons (k := k) (d := d) h1 h2 h3 h4, 0, b, h => by
    simp at h
    subst h
    exact ⟨(k, d), rfl, h1⟩
  | _, _, .cons h1 h2 h3 h4, i + 1, b, h => rpn_at h4 (i := i) (by simpa using h)
section
variable {C : Ct}
theorem yields_td {M : Addr → Prop} {H : Hp} {a : Addr} {o : Obj} {xs : List (NestedKey × Addr × Value)} {kvs : List (NestedKey × D)} (m : ¬ M a) (ea : H a = some (dnO a o)) (rn : RpN C.K C.P C.w M H xs kvs) :
    Yields C M H (ItN a o (xs.map (·.2.1))) (kvs.map fun p => keyD p.1) := by
  have hl := rpn_len rn
  refine ⟨fun i M1 H1 st hi => ⟨(st a _ ea m).1, ?_⟩, fun i M1 H1 x H2 st dm hi ⟨e, b, hb, hx⟩ => ?_, fun i M1 H1 st hi => ⟨(st a _ ea m).1, ?_⟩⟩
  · rw [List.length_map] at hi ⊢
    omega
  · subst e hx
    obtain ⟨p, hp, rp⟩ := rpn_at rn hb
    exact ⟨keyD p.1, by rw [List.getElem?_map, hp]; rfl, Same.refl', rp.step st⟩
  · rw [List.length_map] at hi ⊢
    omega
end
def iSeq (t : TP) : TPA := fun r Q E => t r (fun d => match d with
  | .list ds => Q ds
  | .tuple ds => Q ds
  | .tdict kvs => Q (kvs.map fun p => keyD p.1)
  | _ => False) E
theorem mono_iseq {t : TP} (h : Mono t) : MonoI (iSeq t) := ⟨fun hq he q => h.imp (fun d z => by
  split at z
  · exact hq _ z
  · exact hq _ z
  · exact hq _ z
  · exact z) he q⟩
section
variable {X : Cx} {C : Ct} {W : XW} {e tg : Expr} {t : TP} {pos : Pos} {k : Nat}
theorem di_seq (G : Good X C W k) (he : DV X C W e t) : DI X C W tg e (iSeq t) := by
  refine ⟨⟨fun pins s σ H R I ⟨M, r, E, S, hW, q⟩ => ?_⟩, mono_iseq he.mo⟩
  have FF := G.fit
  obtain ⟨K0, P0, w0, T0, M0, H0⟩ := C
  obtain ⟨z1, z2, z3⟩ := FF
  cases z1; cases z2; cases z3
  refine thn (he.pe.run pins s σ H (fun x H1 => ∃ a, x = .ref a ∧ ((∃ xs, SqL X.K H1 a xs ∧ R (Itl X.K a) H1) ∨ (∃ xs, SqT X.K H1 a xs ∧ R (Itt X.K a) H1) ∨ ∃ o xs, H1 a = some (dnO a o) ∧ DEnt X.prog X.w a o xs ∧ R (ItN a o (xs.map (·.2.1))) H1)) I ⟨M, r, E, S, hW, he.mo.imp (fun d z v H1 k1 S1 p1 => ?_) (fun _ z => z) q⟩) fun v s1 ⟨x, H1, I1, r1, a, ex, q1⟩ => ?_
  · cases d with
    | list ds =>
      cases p1 with
      | @lst a xs _ m ea pa => exact ⟨a, rfl, .inl ⟨xs, SqL.of ea, z _ H1 k1 S1 (yields_list m ea pa)⟩⟩
    | tuple ds =>
      cases p1 with
      | @tup a xs _ m ea pa => exact ⟨a, rfl, .inr (.inl ⟨xs, SqT.of ea, z _ H1 k1 S1 (yields_tup (fun M1 H1 s => SqT.of (s a _ ea m).1) pa)⟩)⟩
      | @ktup a xs _ ea pa => exact ⟨a, rfl, .inr (.inl ⟨xs, .inr ea, z _ H1 k1 S1 (yields_tup (fun M1 H1 s => .inr ea) pa)⟩)⟩
    | tdict kvs =>
      cases p1 with
      | @dctN a o xs _ m ea de rn => exact ⟨a, rfl, .inr (.inr ⟨o, xs, ea, de, z _ H1 k1 S1 (yields_td m ea rn)⟩)⟩
    | _ => exact z.elim
  · subst ex
    cases r1
    rcases q1 with ⟨xs, hq, q⟩ | ⟨xs, hq, q⟩ | ⟨o, xs, ea, de, q⟩
    · obtain ⟨its, rv, p, hz⟩ := I1.list hq
      exact wpAny_pyIter_list p.isList (pi_one (tk := s1.toks) I1 _ (turn_list a _) ⟨_, Heap.get?_push_size _ rfl, rfl, rfl⟩ q)
    · obtain ⟨its, rv, p, hz⟩ := I1.tuple hq
      exact wpAny_pyIter_tuple (show s1.heap.IsTuple a its.toArray from p) (pi_one (tk := s1.toks) I1 _ (turn_tuple a _) ⟨_, Heap.get?_push_size _ rfl, rfl, rfl⟩ q)
    · obtain ⟨es, ep, h1, h2⟩ := dent_keys de
      have ho : s1.heap.get? a = some o := (I1.hok a _ ea).1
      refine iter_keys de.2.1 ho de.2.2.1 h1 (pi_one (tk := s1.toks) I1 _ (turn_keysN _ h1 h2) ⟨_, Heap.get?_push_size _ rfl, rfl, ?_⟩ q)
      have : es.size = (xs.map (·.2.1)).length := by
        have := congrArg List.length h2
        simpa using this
      rw [this]
      rfl
end
end HC
namespace HC
open PySem PySem.Spec PyProof.Rows L2
structure XIs (K : PySem.W.Frag) (c : Addr) : Prop where
  cl : (PySem.W.clsIn K c).isSome = true
  ga : PySem.W.findIn K (.ref c) "__getattribute__" = some (some (.builtin "BaseException.__getattribute__"))
  gt : PySem.W.findIn K (.ref c) "__getattr__" = some none
  sub : PySem.W.subIn K (.ref c) (.type "BaseException") = some true
  ha : PySem.W.findIn K (.ref c) "__class__" = some (some (.builtin "object.__class__"))
  hn : PySem.W.specialIn K (.builtin "object.__class__") "__get__" = some (some (.builtin "getset_descriptor.__get__"))
  tk : PySem.W.takesIn K (.builtin "object.__class__") = some true
  hm : PySem.W.mroIn K c (.type "object") = some true
abbrev Mn := List D → List D → (D → Prop) → Prop
structure MoM (g : Mn) : Prop where
  imp : ∀ {x y : List D} {Q Q' : D → Prop}, (∀ d, Q d → Q' d) → g x y Q → g x y Q'
def wM (g : Mn) (to : TP) (u : TPA) : TP := fun r Q E => to r (fun x => match x with
  | .list ds => u r (fun ys => g ds ys Q) E
  | _ => False) E
end HC
namespace HC
open PySem PySem.Spec PyProof.Rows L2
abbrev ZipSt (h : Heap) (z TI TO : Addr) (f0 : Value) (f : Bool) : Prop :=
  h.get? z = some { cls := .type "zip", dict := none, data := .fields #[f0, .bool f, .bool false, .ref TI, .ref TO], slots := #[] }
end HC
namespace HC
open PySem PySem.Spec PyProof.Rows L2
open AutoSeq1 (wpAny_loadPart')
section
variable {prog : Program} {w : World} {A : Around} {E : Value → Shared → Prop} {s : Shared}
def ZipOk (h : Heap) (z TI TO : Addr) : Prop := (∃ f0 f, ZipSt h z TI TO f0 f ∧ ((f0 = .none ∧ f = false) ∨ ∃ T : Nat, f0 = rawInt T)) ∧ ∃ a b, IsPair h TO a b
theorem ZipOk.typeIs {z TI TO : Addr} (h : ZipOk s.heap z TI TO) : s.TypeIs (.ref z) "zip" := let ⟨⟨_, _, hz, _⟩, _⟩ := h; ⟨_, hz, rfl⟩
end
end HC
namespace HC
open PySem PySem.Spec PyProof.Rows L2
section
variable {prog : Program} {w : World} {A : Around} {E : Value → Shared → Prop} {s : Shared}
structure EzApart (e z TI TO i1 i2 : Addr) : Prop where
  z : e ≠ z
  TI : e ≠ TI
  TO : e ≠ TO
  i1 : e ≠ i1
  i2 : e ≠ i2
end
end HC
namespace HC
open PySem PySem.Spec PyProof.Rows L2
def lSpN (K : PySem.W.Frag) (P : Program) (w : World) (sp : SpD) : Sp := fun vs H Q E => ∃ M ds, Dom M H ∧ RpA K P w M H vs ds ∧
  sp ds (fun d => ∀ p H', Same H H' → H p = none → Top K P w (fun a => M a ∨ a = p) H' p d → Q (.ref p) H') fun c => ∀ H', Same H H' → E (.ref c) Option.none H'
structure FnN (P : Program) (w : World) (K : PySem.W.Frag) (mg : Str → Option Value) (base : Heap) (k : Nat) (x : Str) (n : Nat) (sp : SpD) : Prop where
  ex : ∃ (f : Addr) (fd : FuncData) (ps : List Str), FnOk P w K mg base (L2.CX P w) k f fd ps (lSpN K P w sp) ∧ mg x = some (.ref f) ∧ PySem.W.keepIn K (.ref f) = true ∧ Binds K fd ps []
  mo : MonoSp n sp
end HC
namespace HC
open PySem PySem.Spec PyProof.Rows L2
section
variable {a b c : Int} {x y : Str} {ds es : List D} {Q : D → Prop} {d e : D}
theorem fAdd_i : fAdd (.int a) (.int b) Q = Q (.int (a + b)) := rfl
theorem fAdd_s : fAdd (.str x) (.str y) Q = (x.length + y.length ≤ sizeLine ∧ Q (.str (x ++ y))) := rfl
theorem fAdd_l : fAdd (.list ds) (.list es) Q = (ds.length + es.length ≤ sizeLine ∧ Q (.list (ds ++ es))) := rfl
theorem fAdd_t : fAdd (.tuple ds) (.tuple es) Q = (ds.length + es.length ≤ sizeLine ∧ Q (.tuple (ds ++ es))) := rfl
theorem fSub_i : fSub (.int a) (.int b) Q = Q (.int (a - b)) := rfl
theorem fMul_i : fMul (.int a) (.int b) Q = (CMul a b ∧ Q (.int (a * b))) := rfl
theorem fMul_l : fMul (.list ds) (.int b) Q = ((-(2 ^ 63) ≤ b ∧ b < 2 ^ 63 ∧ ds.length * b.toNat ≤ sizeLine) ∧ Q (.list (List.replicate b.toNat ds).flatten)) := rfl
theorem fMod_i : fMod (.int a) (.int b) Q = (0 < b ∧ Q (.int (a % b))) := rfl
theorem fLt_i : fLt (.int a) (.int b) Q = Q (.bool (decide (a < b))) := rfl
theorem fLe_i : fLe (.int a) (.int b) Q = Q (.bool (decide (a ≤ b))) := rfl
theorem fGt_i : fGt (.int a) (.int b) Q = Q (.bool (decide (b < a))) := rfl
theorem fGe_i : fGe (.int a) (.int b) Q = Q (.bool (decide (b ≤ a))) := rfl
theorem fIx_l : fIx (.list ds) (.int a) Q = (∃ d, atI ds a = some d ∧ Q d) := rfl
theorem fIx_t : fIx (.tuple ds) (.int a) Q = (∃ d, atI ds a = some d ∧ Q d) := rfl
theorem fIs_b {p q : Bool} : fIs (.bool p) (.bool q) Q = Q (.bool (decide (p = q))) := rfl
theorem fIsN_b {p q : Bool} : fIsN (.bool p) (.bool q) Q = Q (.bool (!decide (p = q))) := rfl
theorem fIs_nn : fIs .none .none Q = Q (.bool true) := rfl
theorem fIs_in : fIs (.int a) .none Q = Q (.bool false) := rfl
theorem fIs_ln : fIs (.list ds) .none Q = Q (.bool false) := rfl
theorem fIs_tn : fIs (.tuple ds) .none Q = Q (.bool false) := rfl
theorem fIsN_nn : fIsN .none .none Q = Q (.bool false) := rfl
theorem fIsN_in : fIsN (.int a) .none Q = Q (.bool true) := rfl
theorem fIsN_ln : fIsN (.list ds) .none Q = Q (.bool true) := rfl
theorem fIsN_tn : fIsN (.tuple ds) .none Q = Q (.bool true) := rfl
theorem fNotIn_l : fNotIn d (.list ds) Q = ((d.sh 64 ∧ (D.list ds).sh 64) ∧ Q (.bool (!dIn d ds))) := by cases d <;> rfl
theorem fIn_t : fIn d (.tuple ds) Q = ((d.flat = true ∧ ds.all D.flat = true) ∧ Q (.bool (dIn d ds))) := by cases d <;> rfl
theorem gMin_2 : gMin [.int a, .int b] Q = Q (.int (if b < a then b else a)) := rfl
theorem gMax_2 : gMax [.int a, .int b] Q = Q (.int (if b > a then b else a)) := rfl
theorem gLen_l : gLen [.list ds] Q = Q (.int ds.length) := rfl
theorem gLen_t : gLen [.tuple ds] Q = Q (.int ds.length) := rfl
theorem gList_l : gList [.list ds] Q = Q (.list ds) := rfl
theorem gTuple_l : gTuple [.list ds] Q = Q (.tuple ds) := rfl
theorem fSl_l {lo hi : Option Int} : fSl (.list ds) lo hi Q = Q (.list (cutL ds lo hi)) := rfl
theorem fSl_t {lo hi : Option Int} : fSl (.tuple ds) lo hi Q = Q (.tuple (cutL ds lo hi)) := rfl
theorem sh_int (i : Int) : D.sh 64 (.int i) := ⟨rfl, rfl, Nat.zero_le _⟩
theorem sh_str {x : Str} (h : PyData.strOk x = true) : D.sh 64 (.str x) := ⟨rfl, h, Nat.zero_le _⟩
theorem deq_int (a b : Int) : deq (.int a) (.int b) = decide (a = b) := by
  show (a == b) = _
  rw [Bool.beq_eq_decide_eq]
theorem fEq_i : fEq (.int a) (.int b) Q = Q (.bool (decide (a = b))) := by
  unfold fEq
  rw [deq_int]
  exact propext ⟨fun h => h.2, fun h => ⟨⟨sh_int _, sh_int _⟩, h⟩⟩
theorem fNe_i : fNe (.int a) (.int b) Q = Q (.bool (!decide (a = b))) := by
  unfold fNe
  rw [deq_int]
  exact propext ⟨fun h => h.2, fun h => ⟨⟨sh_int _, sh_int _⟩, h⟩⟩
theorem D.sh.mono {n m : Nat} (h : d.sh n) (hn : n ≤ m) : d.sh m := ⟨h.pl, h.ly, Nat.le_trans h.dp hn⟩
theorem shs_of {n : Nat} : ∀ {ds : List D}, (∀ d ∈ ds, d.sh n) → D.plains ds = true ∧ PyData.canLayAll0 (D.pys ds) = true ∧ PyData.depthAll (D.pys ds) ≤ n
  | [], _ => ⟨rfl, rfl, Nat.zero_le _⟩
  | d :: ds, h => by
    obtain ⟨a1, a2, a3⟩ := h d (by simp)
    obtain ⟨b1, b2, b3⟩ := shs_of (ds := ds) fun x hx => h x (List.mem_cons_of_mem _ hx)
    refine ⟨by show (d.plain && D.plains ds) = true; rw [a1, b1]; rfl, by show (d.py.canLay0 && PyData.canLayAll0 (D.pys ds)) = true; rw [a2, b2]; rfl, ?_⟩
    show max d.py.depth (PyData.depthAll (D.pys ds)) ≤ n
    exact Nat.max_le.mpr ⟨a3, b3⟩
theorem sh_list {n : Nat} (h : ∀ d ∈ ds, d.sh n) : (D.list ds).sh (n + 1) := let ⟨a, b, c⟩ := shs_of h; ⟨a, b, Nat.succ_le_succ c⟩
theorem sh_tuple {n : Nat} (h : ∀ d ∈ ds, d.sh n) : (D.tuple ds).sh (n + 1) := let ⟨a, b, c⟩ := shs_of h; ⟨a, b, Nat.succ_le_succ c⟩
theorem sh_int' (n : Nat) (i : Int) : D.sh n (.int i) := ⟨rfl, rfl, Nat.zero_le _⟩
theorem sh_str' (n : Nat) {x : Str} (h : PyData.strOk x = true) : D.sh n (.str x) := ⟨rfl, h, Nat.zero_le _⟩
theorem deq_list : deq (.list ds) (.list es) = PyData.eqvAll (D.pys ds) (D.pys es) := rfl
theorem deq_tuple : deq (.tuple ds) (.tuple es) = PyData.eqvAll (D.pys ds) (D.pys es) := rfl
theorem eqvAll_cons : PyData.eqvAll (D.pys (d :: ds)) (D.pys (e :: es)) = (deq d e && PyData.eqvAll (D.pys ds) (D.pys es)) := rfl
def Enc {α : Type} (f : α → D) : Prop := ∀ a b, deq (f a) (f b) = true ↔ a = b
theorem eqvAll_map {α : Type} {f : α → D} (h : Enc f) : ∀ (xs ys : List α), PyData.eqvAll (D.pys (xs.map f)) (D.pys (ys.map f)) = true ↔ xs = ys
  | [], [] => by simp [D.pys, PyData.eqvAll]
  | [], y :: ys => by simp [D.pys, PyData.eqvAll]
  | x :: xs, [] => by simp [D.pys, PyData.eqvAll]
  | x :: xs, y :: ys => by
    rw [List.map_cons, List.map_cons, eqvAll_cons, Bool.and_eq_true, h x y, eqvAll_map h xs ys]
    simp
theorem Enc.list {α : Type} {f : α → D} (h : Enc f) : Enc (fun xs : List α => D.list (xs.map f)) := fun a b => by rw [deq_list]; exact eqvAll_map h a b
theorem Enc.tup {α : Type} {f : α → D} (h : Enc f) : Enc (fun xs : List α => D.tuple (xs.map f)) := fun a b => by rw [deq_tuple]; exact eqvAll_map h a b
theorem Enc.deq {α : Type} [DecidableEq α] {f : α → D} (h : Enc f) (a b : α) : HC.deq (f a) (f b) = decide (a = b) := by
  by_cases e : a = b
  · rw [(h a b).mpr e, decide_eq_true e]
  · rw [decide_eq_false e]
    cases q : HC.deq (f a) (f b) with
    | false => rfl
    | true => exact absurd ((h a b).mp q) e
theorem enc_int : Enc D.int := fun a b => by rw [deq_int]; simp
theorem Enc.any {α : Type} [DecidableEq α] {f : α → D} (h : Enc f) (x : α) : ∀ xs : List α, dIn (f x) (xs.map f) = decide (x ∈ xs)
  | [] => rfl
  | y :: ys => by
    show (HC.deq (f y) (f x) || dIn (f x) (ys.map f)) = _
    rw [h.deq y x, h.any x ys]
    by_cases e : y = x
    · subst e; simp
    · have : ¬ x = y := fun z => e z.symm
      simp [e, this]
end
end HC
namespace HC
open PySem PySem.Spec PyProof.Rows L2
theorem boot_len' : bootBuiltins "len" = some (.builtin "len") := by decide +kernel
theorem boot_min' : bootBuiltins "min" = some (.builtin "min") := by decide +kernel
theorem boot_max' : bootBuiltins "max" = some (.builtin "max") := by decide +kernel
theorem boot_all' : bootBuiltins "all" = some (.builtin "all") := by decide +kernel
theorem boot_abs' : bootBuiltins "abs" = some (.builtin "abs") := by decide +kernel
theorem boot_list' : bootBuiltins "list" = some (.type "list") := by decide +kernel
theorem boot_tuple' : bootBuiltins "tuple" = some (.type "tuple") := by decide +kernel
theorem boot_int' : bootBuiltins "int" = some (.type "int") := by decide +kernel
theorem boot_bool' : bootBuiltins "bool" = some (.type "bool") := by decide +kernel
theorem boot_str' : bootBuiltins "str" = some (.type "str") := by decide +kernel
theorem noCX {P : Program} {w : World} {H : Hp} {s : Shared} {e : Value} {s' : Shared} (h : L2.CX P w [] H s (fun _ _ _ => False) e s') : False := by
  obtain ⟨_, _, _, _, _, _, _, _, _, _, _, _, z⟩ := h
  exact z
def entOf (e : DictEntry) : Option (Str × Int) := match e.key, e.val with
  | .str x _, .int i _ => some (x, i)
  | _, _ => none
theorem ent_of : ∀ {l : List DictEntry} {kvs : List (Str × Int)}, l.map entOf = kvs.map some → Ent l kvs
  | [], [], _ => .nil
  | [], _ :: _, h => by cases h
  | _ :: _, [], h => by cases h
  | e :: r, (x, i) :: kvs, h => by
    have h1 : entOf e :: r.map entOf = some (x, i) :: kvs.map some := h
    injection h1 with h2 h3
    unfold entOf at h2
    split at h2
    · rename_i y t j u q1 q2
      cases h2
      exact .cons q1 q2 (ent_of h3)
    · cases h2
end HC
namespace HC
open PySem PySem.Spec PyProof.Rows L2
structure Xc where
  heatError : Addr
  badRoom : Addr
  badRegulator : Addr
  badWeather : Addr
  badMarks : Addr
  badNumber : Addr
  badText : Addr
  notFound : Addr
def spOf {α : Type} (enc : α → List D) (pre : α → Prop) (res : α → D) : SpD := fun ds Q _ => ∃ a, ds = enc a ∧ pre a ∧ Q (res a)
def spEx {α : Type} (enc : α → List D) (pre : α → Prop) (res : α → Except Addr D) : SpD := fun ds Q E => ∃ a, ds = enc a ∧ pre a ∧ match res a with
  | .ok d => Q d
  | .error c => E c
def spAny {α : Type} (enc : α → List D) (pre : α → Prop) (R : α → D → Prop) : SpD := fun ds Q _ => ∃ a, ds = enc a ∧ pre a ∧ ∀ d, R a d → Q d
theorem mo_spOf {α : Type} {enc : α → List D} {pre : α → Prop} {res : α → D} {n : Nat} (h : ∀ a, (enc a).length = n) : MonoSp n (spOf enc pre res) := ⟨fun hq _ ⟨a, e, p, q⟩ => ⟨a, e, p, hq _ q⟩, fun ⟨a, e, _⟩ => by rw [e, h]⟩
theorem mo_spEx {α : Type} {enc : α → List D} {pre : α → Prop} {res : α → Except Addr D} {n : Nat} (h : ∀ a, (enc a).length = n) : MonoSp n (spEx enc pre res) := ⟨fun hq he ⟨a, e, p, q⟩ => ⟨a, e, p, by
  cases hr : res a with
  | ok d => rw [hr] at q; exact hq _ q
  | error c => rw [hr] at q; exact he _ q⟩, fun ⟨a, e, _⟩ => by rw [e, h]⟩
theorem mo_spAny {α : Type} {enc : α → List D} {pre : α → Prop} {R : α → D → Prop} {n : Nat} (h : ∀ a, (enc a).length = n) : MonoSp n (spAny enc pre R) := ⟨fun hq _ ⟨a, e, p, q⟩ => ⟨a, e, p, fun d z => hq _ (q d z)⟩, fun ⟨a, e, _⟩ => by rw [e, h]⟩
structure Rm where
  top : Int
  beg : Int
  rise : Int
  deriving DecidableEq
def Rm.enc (r : Rm) : D := .tuple [.int r.top, .int r.beg, .int r.rise]
structure Rm.Ok (r : Rm) : Prop where
  t6 : 6 ≤ r.top
  t10 : r.top ≤ 10
  b0 : 0 ≤ r.beg
  bt : r.beg ≤ r.top
  r4 : 4 ≤ r.rise
  r5 : r.rise ≤ 5
inductive Kd where
  | gap | stay | late | look | lean
  deriving DecidableEq
def Kd.nm : Kd → Str
  | .gap => "gap"
  | .stay => "stay"
  | .late => "late"
  | .look => "look"
  | .lean => "lean"
def Kd.four : Kd → Bool
  | .stay => true
  | .look => true
  | _ => false
structure Rg where
  kd : Kd
  lo : Int
  hi : Int
  tk : Int
  deriving DecidableEq
def Rg.enc (g : Rg) : D := .tuple (.str g.kd.nm :: .int g.lo :: .int g.hi :: if g.kd.four = true then [.int g.tk] else [])
structure Rg.Ok (top : Int) (g : Rg) : Prop where
  l0 : 0 ≤ g.lo
  lh : g.lo < g.hi
  ht : g.hi ≤ top
  k2 : g.kd.four = true → 2 ≤ g.tk
  k3 : g.kd.four = true → g.tk ≤ 3
  k0 : g.kd.four = false → g.tk = 0
abbrev Sta := Int × Int × Int
def encSt (s : Sta) : D := .tuple [.int s.1, .int s.2.1, .int s.2.2]
def encIs (ws : List Int) : D := .list (ws.map D.int)
def encSts (ss : List Sta) : D := .list (ss.map encSt)
def first (r : Rm) : Sta := (r.beg, 0, 0)
def warm (r : Rm) (heat sw w : Int) : Int := min r.top (max 0 (heat - w + if sw = 1 then r.rise else 0))
def decid (heat lo hi sw : Int) : Int := if heat ≤ lo then 1 else if hi ≤ heat then 0 else sw
def setSw (g : Rg) (before heat sw mem : Int) : Int × Int := match g.kd with
  | .gap => (decid heat g.lo g.hi sw, 0)
  | .late => (decid before g.lo g.hi sw, 0)
  | .lean => let a := decid heat g.lo (g.hi - mem) sw; (a, if a = 1 then min (mem + 1) (g.hi - g.lo - 1) else 0)
  | .stay => if 0 < mem then (sw, mem - 1) else let a := decid heat g.lo g.hi sw; (a, if a ≠ sw then g.tk - 1 else 0)
  | .look => if 0 < mem then (sw, mem - 1) else (decid heat g.lo g.hi sw, g.tk - 1)
def tick (r : Rm) (g : Rg) (s : Sta) (w : Int) : Sta := let h := warm r s.1 s.2.1 w; (h, setSw g s.1 h s.2.1 s.2.2)
def runFrom (r : Rm) (g : Rg) : Sta → List Int → List Sta
  | s, [] => [s]
  | s, w :: ws => s :: runFrom r g (tick r g s w) ws
def along (r : Rm) (g : Rg) (ws : List Int) : List Sta := runFrom r g (first r) ws
def sp_first_state : SpD := spOf (fun r : Rm => [r.enc]) (fun _ => True) (fun r => encSt (first r))
def sp_warmed : SpD := spOf (fun a : Rm × Int × Int × Int => [a.1.enc, .int a.2.1, .int a.2.2.1, .int a.2.2.2]) (fun _ => True) (fun a => .int (warm a.1 a.2.1 a.2.2.1 a.2.2.2))
def sp_decided : SpD := spOf (fun a : Int × Int × Int × Int => [.int a.1, .int a.2.1, .int a.2.2.1, .int a.2.2.2]) (fun _ => True) (fun a => .int (decid a.1 a.2.1 a.2.2.1 a.2.2.2))
def encPr (p : Int × Int) : D := .tuple [.int p.1, .int p.2]
def sp_set_switch : SpD := spOf (fun a : Rg × Int × Int × Int × Int => [a.1.enc, .int a.2.1, .int a.2.2.1, .int a.2.2.2.1, .int a.2.2.2.2]) (fun _ => True) (fun a => encPr (setSw a.1 a.2.1 a.2.2.1 a.2.2.2.1 a.2.2.2.2))
def sp_step : SpD := spOf (fun a : Rm × Rg × Sta × Int => [a.1.enc, a.2.1.enc, encSt a.2.2.1, .int a.2.2.2]) (fun _ => True) (fun a => encSt (tick a.1 a.2.1 a.2.2.1 a.2.2.2))
theorem ok_nm (k : Kd) : PyData.strOk k.nm = true := by cases k <;> decide +kernel
theorem deq_nm (k l : Kd) : deq (.str k.nm) (.str l.nm) = decide (k = l) := by cases k <;> cases l <;> decide +kernel
section
variable {Q : D → Prop} {k : Kd} {r : Rm} {g : Rg} {s : Sta}
theorem fEq_nm (l : Kd) : fEq (.str k.nm) (.str l.nm) Q = Q (.bool (decide (k = l))) := by
  unfold fEq
  rw [deq_nm]
  exact propext ⟨fun h => h.2, fun h => ⟨⟨sh_str (ok_nm _), sh_str (ok_nm _)⟩, h⟩⟩
theorem fEq_gap : fEq (.str k.nm) (.str "gap") Q = Q (.bool (decide (k = .gap))) := fEq_nm .gap
theorem fEq_stay : fEq (.str k.nm) (.str "stay") Q = Q (.bool (decide (k = .stay))) := fEq_nm .stay
theorem fEq_late : fEq (.str k.nm) (.str "late") Q = Q (.bool (decide (k = .late))) := fEq_nm .late
theorem fEq_look : fEq (.str k.nm) (.str "look") Q = Q (.bool (decide (k = .look))) := fEq_nm .look
theorem fEq_lean : fEq (.str k.nm) (.str "lean") Q = Q (.bool (decide (k = .lean))) := fEq_nm .lean
theorem ex1 {α : Type} {x : α} {p : α → Prop} : (∃ d, some x = some d ∧ p d) = p x := propext ⟨fun ⟨d, e, h⟩ => by cases e; exact h, fun h => ⟨x, rfl, h⟩⟩
theorem fIx_rm0 : fIx r.enc (.int 0) Q = Q (.int r.top) := ex1
theorem fIx_rm1 : fIx r.enc (.int 1) Q = Q (.int r.beg) := ex1
theorem fIx_rm2 : fIx r.enc (.int 2) Q = Q (.int r.rise) := ex1
theorem fIx_st0 : fIx (encSt s) (.int 0) Q = Q (.int s.1) := ex1
theorem fIx_st1 : fIx (encSt s) (.int 1) Q = Q (.int s.2.1) := ex1
theorem fIx_st2 : fIx (encSt s) (.int 2) Q = Q (.int s.2.2) := ex1
theorem Rg.enc_eq (g : Rg) : g.enc = .tuple (.str g.kd.nm :: .int g.lo :: .int g.hi :: if g.kd.four = true then [.int g.tk] else []) := rfl
theorem fIx_rg0 : fIx g.enc (.int 0) Q = Q (.str g.kd.nm) := by
  rw [Rg.enc_eq]; cases g.kd <;> exact ex1
theorem fIx_rg1 : fIx g.enc (.int 1) Q = Q (.int g.lo) := by
  rw [Rg.enc_eq]; cases g.kd <;> exact ex1
theorem fIx_rg2 : fIx g.enc (.int 2) Q = Q (.int g.hi) := by
  rw [Rg.enc_eq]; cases g.kd <;> exact ex1
theorem fIx_rg3 (h : g.kd.four = true) : fIx g.enc (.int 3) Q = Q (.int g.tk) := by
  rw [Rg.enc_eq, h]; exact ex1
theorem fSl_rg : fSl g.enc none (some 3) Q = Q (.tuple [.str g.kd.nm, .int g.lo, .int g.hi]) := by
  rw [Rg.enc_eq]; cases g.kd <;> rfl
theorem gT_st {h : GDs} {r : Env} : gT h (encSt s) r = h [.int s.1, .int s.2.1, .int s.2.2] r := rfl
theorem gT_pr {h : GDs} {r : Env} {p : Int × Int} : gT h (encPr p) r = h [.int p.1, .int p.2] r := rfl
theorem gT_t {h : GDs} {r : Env} {ds : List D} : gT h (.tuple ds) r = h ds r := rfl
theorem gC_c {g : GD} {h : GDs} {r : Env} {d : D} {ds : List D} : gCons' g h (d :: ds) r = match g d r with
    | some r1 => h ds r1
    | Option.none => Option.none := rfl
theorem gN_c {i : Nat} {r : Env} {d : D} : gN i d r = some (r.set i (.val d)) := rfl
theorem gNil_c {r : Env} : gNil' [] r = some r := rfl
end
def isIntF : D → Int → Int → Bool
  | .int i, lo, hi => decide (lo ≤ i) && decide (i ≤ hi)
  | _, _, _ => false
def roomT : D → D → D → Bool
  | .int t, b, c => isIntF b 0 t && isIntF c 4 5
  | _, _, _ => false
def isRoomF : D → Bool
  | .tuple [a, b, c] => isIntF a 6 10 && roomT a b c
  | _ => false
def isRowF : D → Bool
  | .list ds => decide (ds.length ≤ 60) && ds.all fun d => isIntF d 1 3
  | _ => false
def l_SIZES : List (Str × Int) := [("gap", 3), ("stay", 4), ("late", 3), ("look", 4), ("lean", 3)]
def moreF : List D → Bool
  | [] => true
  | c :: _ => isIntF c 2 3
def forT : Option Int → List D → Int → Bool
  | some n, .int lo :: b :: more, top => decide ((more.length : Int) + 3 = n) && ((decide (0 ≤ lo) && decide (lo ≤ top)) && (isIntF b (lo + 1) top && moreF more))
  | _, _, _ => false
def isForF : D → Int → Bool
  | .tuple (.str k :: rest), top => forT (tabAt l_SIZES k) rest top
  | _, _ => false
def topOf : D → Int
  | .tuple (.int t :: _) => t
  | _ => 0
def rmOf : D → Rm
  | .tuple [.int a, .int b, .int c] => ⟨a, b, c⟩
  | _ => ⟨0, 0, 0⟩
def kdOf (s : Str) : Kd := if s = "gap" then .gap else if s = "stay" then .stay else if s = "late" then .late else if s = "look" then .look else .lean
def rgOf : D → Rg
  | .tuple [.str k, .int a, .int b] => ⟨kdOf k, a, b, 0⟩
  | .tuple [.str k, .int a, .int b, .int c] => ⟨kdOf k, a, b, c⟩
  | _ => ⟨.gap, 0, 0, 0⟩
def isOf : D → List Int
  | .list ds => (dInts ds).getD []
  | _ => []
abbrev Ex := Except Addr D
def exB (c : Addr) (b : Bool) : Ex := if b = true then .ok .none else .error c
def sp_is_int : SpD := spOf (fun a : D × Int × Int => [a.1, .int a.2.1, .int a.2.2]) (fun a => a.1.plain = true) (fun a => .bool (isIntF a.1 a.2.1 a.2.2))
def sp_check_number (x : Xc) : SpD := spEx (fun a : D × Int × Int => [a.1, .int a.2.1, .int a.2.2]) (fun a => a.1.plain = true) (fun a => exB x.badNumber (isIntF a.1 a.2.1 a.2.2))
def sp_check_sight (x : Xc) : SpD := spEx (fun a : D => [a]) (fun a => a.plain = true) (fun a => exB x.badNumber (isIntF a 0 1))
def sp_is_room : SpD := spOf (fun a : D => [a]) (fun a => a.plain = true) (fun a => .bool (isRoomF a))
def sp_check_room (x : Xc) : SpD := spEx (fun a : D => [a]) (fun a => a.plain = true) (fun a => exB x.badRoom (isRoomF a))
def sp_is_weather : SpD := spOf (fun a : D => [a]) (fun a => a.plain = true) (fun a => .bool (isIntF a 1 3))
def sp_is_row : SpD := spOf (fun a : D => [a]) (fun a => a.plain = true) (fun a => .bool (isRowF a))
def sp_check_row (x : Xc) : SpD := spEx (fun a : D => [a]) (fun a => a.plain = true) (fun a => exB x.badWeather (isRowF a))
def sp_is_for : SpD := spOf (fun a : D × Int => [a.1, .int a.2]) (fun a => a.1.plain = true) (fun a => .bool (isForF a.1 a.2))
def chkRg (x : Xc) (a b : D) (k : Ex) : Ex := if isRoomF a = true then (if isForF b (topOf a) = true then k else .error x.badRegulator) else .error x.badRoom
def sp_check_regulator (x : Xc) : SpD := spEx (fun a : D × D => [a.1, a.2]) (fun a => a.1.plain = true ∧ a.2.plain = true) (fun a => chkRg x a.1 a.2 (.ok .none))
def sp_mark_of : SpD := spOf (fun a : Sta × Int => [encSt a.1, .int a.2]) (fun _ => True) (fun a => if a.2 = 0 then .int a.1.2.1 else encPr (a.1.2.1, a.1.1))
def encMark (sight : Int) (s : Sta) : D := if sight = 0 then .int s.2.1 else encPr (s.2.1, s.1)
def sp_states_of : SpD := spOf (fun a : Rm × Rg × List Int => [a.1.enc, a.2.1.enc, encIs a.2.2]) (fun a => a.2.2.length ≤ 1000) (fun a => encSts (along a.1 a.2.1 a.2.2))
def pl3 (a : D × D × D) : Prop := a.1.plain = true ∧ a.2.1.plain = true ∧ a.2.2.plain = true
def chkRow (x : Xc) (a : D × D × D) (k : Rm → Rg → List Int → Ex) : Ex := chkRg x a.1 a.2.1 (if isRowF a.2.2 = true then k (rmOf a.1) (rgOf a.2.1) (isOf a.2.2) else .error x.badWeather)
def sp_states_along (x : Xc) : SpD := spEx (fun a : D × D × D => [a.1, a.2.1, a.2.2]) pl3 (fun a => chkRow x a fun r g ws => .ok (encSts (along r g ws)))
def sp_run (x : Xc) : SpD := spEx (fun a : D × D × D => [a.1, a.2.1, a.2.2]) pl3 (fun a => chkRow x a fun r g ws => .ok (encIs ((along r g ws).tail.map (·.2.1))))
def lastSt (r : Rm) (l : List Sta) : Sta := l.getLast?.getD (first r)
def sp__law_draw : SpD := spDraw
def sp__law_pick : SpD := fun ds Q _ => ∃ cs, ds = [.list cs] ∧ 0 < cs.length ∧ cs.length ≤ 1000 ∧ ∀ d, d ∈ cs → Q d
def sp__law_room : SpD := spAny (fun _ : Unit => []) (fun _ => True) (fun _ d => ∃ r : Rm, r.Ok ∧ d = r.enc)
def sp__law_regulator : SpD := spAny (fun r : Rm => [r.enc]) (fun r => r.Ok) (fun r d => ∃ g : Rg, g.Ok r.top ∧ d = g.enc)
def sp__law_row : SpD := spAny (fun n : Int => [.int n]) (fun n => 0 ≤ n ∧ n ≤ 60) (fun n d => ∃ ws : List Int, (∀ w ∈ ws, 1 ≤ w ∧ w ≤ 3) ∧ (ws.length : Int) ≤ n ∧ d = encIs ws)
end HC
namespace HC
open PySem PySem.Spec PyProof.Rows L2
def t_is_int : TSD :=
  sRet (wAnd (wIsi "int" (wPeek 0)) (wAnd (wNot (wIsi "bool" (wPeek 0))) (wChain fLe fLe (wPeek 1) (wPeek 0) (wPeek 2))))
def t_check_number (x : Xc) : TSD :=
  sIf (bNot (bTest (wCall sp_is_int (wCons (wVar 0) (wCons (wVar 1) (wCons (wVar 2) wNil)))))) (sRaise x.badNumber) sNil
def t_check_sight (x : Xc) : TSD :=
  sExpr (wCall (sp_check_number x) (wCons (wVar 0) (wCons (wC (.int 0)) (wCons (wC (.int 1)) wNil))))
def t_is_room : TSD :=
  sSeq (sIf (bOr (bNot (bTest (wIsi "tuple" (wPeek 0)))) (bOr (bTest (wOp2 fNe (wB gLen (wCons (wPeek 0) wNil)) (wC (.int 3)))) (bNot (bTest (wCall sp_is_int (wCons (wOp2 fIx (wPeek 0) (wC (.int 0))) (wCons (wC (.int 6)) (wCons (wC (.int 10)) wNil)))))))) (sRet (wC (.bool false))) sNil)
    (sRet (wAnd (wCall sp_is_int (wCons (wOp2 fIx (wPeek 0) (wC (.int 1))) (wCons (wC (.int 0)) (wCons (wOp2 fIx (wPeek 0) (wC (.int 0))) wNil)))) (wCall sp_is_int (wCons (wOp2 fIx (wPeek 0) (wC (.int 2))) (wCons (wC (.int 4)) (wCons (wC (.int 5)) wNil))))))
def t_check_room (x : Xc) : TSD :=
  sIf (bNot (bTest (wCall sp_is_room (wCons (wVar 0) wNil)))) (sRaise x.badRoom) sNil
def t_is_weather : TSD :=
  sRet (wCall sp_is_int (wCons (wVar 0) (wCons (wC (.int 1)) (wCons (wC (.int 3)) wNil))))
def t_is_row : TSD :=
  sRet (wAnd (wIsi "list" (wPeek 0)) (wAnd (wOp2 fLe (wB gLen (wCons (wPeek 0) wNil)) (wC (.int 60))) (wB gAll (wCons (wComp [1] (iSeq (wVar 0)) (gN 1) bYes (wCall sp_is_weather (wCons (wVar 1) wNil))) wNil))))
def t_check_row (x : Xc) : TSD :=
  sIf (bNot (bTest (wCall sp_is_row (wCons (wVar 0) wNil)))) (sRaise x.badWeather) sNil
def t_is_for : TSD :=
  sSeq (sIf (bOr (bNot (bTest (wIsi "tuple" (wPeek 0)))) (bOr (bTest (wOp2 fEq (wB gLen (wCons (wPeek 0) wNil)) (wC (.int 0)))) (bOr (bNot (bTest (wIsi "str" (wOp2 fIx (wPeek 0) (wC (.int 0)))))) (bTest (wTabIn l_SIZES true (wOp2 fIx (wPeek 0) (wC (.int 0)))))))) (sRet (wC (.bool false))) sNil)
    (sSeq (sIf (bOr (bTest (wOp2 fNe (wB gLen (wCons (wPeek 0) wNil)) (wTabAt l_SIZES (wOp2 fIx (wPeek 0) (wC (.int 0)))))) (bOr (bNot (bTest (wCall sp_is_int (wCons (wOp2 fIx (wPeek 0) (wC (.int 1))) (wCons (wC (.int 0)) (wCons (wVar 1) wNil)))))) (bNot (bTest (wCall sp_is_int (wCons (wOp2 fIx (wPeek 0) (wC (.int 2))) (wCons (wOp2 fAdd (wOp2 fIx (wPeek 0) (wC (.int 1))) (wC (.int 1))) (wCons (wVar 1) wNil)))))))) (sRet (wC (.bool false))) sNil)
    (sRet (wOr (wOp2 fEq (wB gLen (wCons (wPeek 0) wNil)) (wC (.int 3))) (wCall sp_is_int (wCons (wOp2 fIx (wPeek 0) (wC (.int 3))) (wCons (wC (.int 2)) (wCons (wC (.int 3)) wNil)))))))
def t_check_regulator (x : Xc) : TSD :=
  sSeq (sExpr (wCall (sp_check_room x) (wCons (wVar 0) wNil)))
    (sIf (bNot (bTest (wCall sp_is_for (wCons (wVar 1) (wCons (wOp2 fIx (wPeek 0) (wC (.int 0))) wNil))))) (sRaise x.badRegulator) sNil)
def t_first_state : TSD :=
  sRet (wTup (wCons (wOp2 fIx (wPeek 0) (wC (.int 1))) (wCons (wC (.int 0)) (wCons (wC (.int 0)) wNil))))
def t_warmed : TSD :=
  sRet (wB gMin (wCons (wOp2 fIx (wPeek 0) (wC (.int 0))) (wCons (wB gMax (wCons (wC (.int 0)) (wCons (wOp2 fAdd (wOp2 fSub (wPeek 1) (wPeek 3)) (wIf (bTest (wOp2 fEq (wPeek 2) (wC (.int 1)))) (wOp2 fIx (wPeek 0) (wC (.int 2))) (wC (.int 0)))) wNil))) wNil)))
def t_decided : TSD :=
  sSeq (sIf (bTest (wOp2 fLe (wPeek 0) (wPeek 1))) (sRet (wC (.int 1))) sNil)
    (sRet (wIf (bTest (wOp2 fGe (wPeek 0) (wPeek 2))) (wC (.int 0)) (wVar 3)))
def t_set_switch : TSD :=
  sSeq (sUnp (wSl (wPeek 0) wNoPart (wPart (wC (.int 3)))) (gT (gCons' (gN 5) (gCons' (gN 6) (gCons' (gN 7) gNil')))))
    (sSeq (sIf (bTest (wOp2 fEq (wPeek 5) (wC (.str "gap")))) (sRet (wTup (wCons (wCall sp_decided (wCons (wVar 2) (wCons (wVar 6) (wCons (wVar 7) (wCons (wVar 3) wNil))))) (wCons (wC (.int 0)) wNil)))) sNil)
    (sSeq (sIf (bTest (wOp2 fEq (wPeek 5) (wC (.str "late")))) (sRet (wTup (wCons (wCall sp_decided (wCons (wVar 1) (wCons (wVar 6) (wCons (wVar 7) (wCons (wVar 3) wNil))))) (wCons (wC (.int 0)) wNil)))) sNil)
    (sSeq (sIf (bTest (wOp2 fEq (wPeek 5) (wC (.str "lean")))) (sSeq (sAsg 8 (xVal (wCall sp_decided (wCons (wVar 2) (wCons (wVar 6) (wCons (wOp2 fSub (wPeek 7) (wPeek 4)) (wCons (wVar 3) wNil)))))))
    (sRet (wTup (wCons (wVar 8) (wCons (wIf (bTest (wOp2 fEq (wPeek 8) (wC (.int 1)))) (wB gMin (wCons (wOp2 fAdd (wPeek 4) (wC (.int 1))) (wCons (wOp2 fSub (wOp2 fSub (wPeek 7) (wPeek 6)) (wC (.int 1))) wNil))) (wC (.int 0))) wNil))))) sNil)
    (sSeq (sIf (bTest (wOp2 fGt (wPeek 4) (wC (.int 0)))) (sRet (wTup (wCons (wVar 3) (wCons (wOp2 fSub (wPeek 4) (wC (.int 1))) wNil)))) sNil)
    (sSeq (sAsg 8 (xVal (wCall sp_decided (wCons (wVar 2) (wCons (wVar 6) (wCons (wVar 7) (wCons (wVar 3) wNil)))))))
    (sRet (wTup (wCons (wVar 8) (wCons (wIf (bOr (bTest (wOp2 fEq (wPeek 5) (wC (.str "look")))) (bTest (wOp2 fNe (wPeek 8) (wPeek 3)))) (wOp2 fSub (wOp2 fIx (wPeek 0) (wC (.int 3))) (wC (.int 1))) (wC (.int 0))) wNil)))))))))
def t_step : TSD :=
  sSeq (sUnp (wVar 2) (gT (gCons' (gN 4) (gCons' (gN 5) (gCons' (gN 6) gNil')))))
    (sSeq (sAsg 7 (xVal (wCall sp_warmed (wCons (wVar 0) (wCons (wVar 4) (wCons (wVar 5) (wCons (wVar 3) wNil)))))))
    (sRet (wOp2 fAdd (wTup (wCons (wVar 7) wNil)) (wCall sp_set_switch (wCons (wVar 1) (wCons (wVar 4) (wCons (wVar 7) (wCons (wVar 5) (wCons (wVar 6) wNil)))))))))
def t_mark_of : TSD :=
  sRet (wIf (bTest (wOp2 fEq (wPeek 1) (wC (.int 0)))) (wOp2 fIx (wPeek 0) (wC (.int 1))) (wTup (wCons (wOp2 fIx (wPeek 0) (wC (.int 1))) (wCons (wOp2 fIx (wPeek 0) (wC (.int 0))) wNil))))
def t_states_of : TSD :=
  sSeq (sAsg 3 (xOwn (wLst (wCons (wCall sp_first_state (wCons (wVar 0) wNil)) wNil))))
    (sSeq (sFor (iSeq (wVar 2)) (gN 4) (sApp 3 (wCall sp_step (wCons (wVar 0) (wCons (wVar 1) (wCons (wOp2 fIx (wPeek 3) (wNeg (wC (.int 1)))) (wCons (wVar 4) wNil)))))))
    (sFrz 3 (sRet (wVar 3))))
def t_states_along (x : Xc) : TSD :=
  sSeq (sExpr (wCall (sp_check_regulator x) (wCons (wVar 0) (wCons (wVar 1) wNil))))
    (sSeq (sExpr (wCall (sp_check_row x) (wCons (wVar 2) wNil)))
    (sRet (wCall sp_states_of (wCons (wVar 0) (wCons (wVar 1) (wCons (wVar 2) wNil))))))
def t_run (x : Xc) : TSD :=
  sRet (wComp [3] (iSeq (wSl (wCall (sp_states_along x) (wCons (wVar 0) (wCons (wVar 1) (wCons (wVar 2) wNil)))) (wPart (wC (.int 1))) wNoPart)) (gN 3) bYes (wOp2 fIx (wPeek 3) (wC (.int 1))))
def t__law_pick : TSD :=
  sRet (wOp2 fIx (wPeek 1) (wCallT 0 sp__law_draw (wCons (wB gLen (wCons (wPeek 1) wNil)) wNil)))
def t__law_room : TSD :=
  sSeq (sAsg 1 (xVal (wOp2 fAdd (wC (.int 6)) (wCallT 0 sp__law_draw (wCons (wC (.int 5)) wNil)))))
    (sRet (wTup (wCons (wVar 1) (wCons (wCallT 0 sp__law_draw (wCons (wOp2 fAdd (wPeek 1) (wC (.int 1))) wNil)) (wCons (wOp2 fAdd (wC (.int 4)) (wCallT 0 sp__law_draw (wCons (wC (.int 2)) wNil))) wNil)))))
def t__law_regulator : TSD :=
  sSeq (sAsg 2 (xVal (wCallT 0 sp__law_draw (wCons (wOp2 fIx (wPeek 1) (wC (.int 0))) wNil))))
    (sSeq (sAsg 3 (xVal (wOp2 fAdd (wC (.int 1)) (wCallT 0 sp__law_draw (wCons (wB gMin (wCons (wOp2 fSub (wOp2 fIx (wPeek 1) (wC (.int 0))) (wPeek 2)) (wCons (wCallT 0 sp__law_pick (wCons (wLst (wCons (wC (.int 2)) (wCons (wC (.int 4)) (wCons (wC (.int 10)) wNil)))) wNil)) wNil))) wNil)))))
    (sSeq (sAsg 4 (xVal (wCallT 0 sp__law_pick (wCons (wLst (wCons (wC (.str "gap")) (wCons (wC (.str "stay")) (wCons (wC (.str "late")) (wCons (wC (.str "look")) (wCons (wC (.str "lean")) wNil)))))) wNil))))
    (sSeq (sAsg 5 (xVal (wTup (wCons (wVar 4) (wCons (wVar 2) (wCons (wOp2 fAdd (wPeek 2) (wPeek 3)) wNil))))))
    (sRet (wIf (bTest (wOp2 fIn (wPeek 4) (wTup (wCons (wC (.str "stay")) (wCons (wC (.str "look")) wNil))))) (wOp2 fAdd (wPeek 5) (wTup (wCons (wOp2 fAdd (wC (.int 2)) (wCallT 0 sp__law_draw (wCons (wC (.int 2)) wNil))) wNil))) (wVar 5))))))
def t__law_row : TSD :=
  sSeq (sAsg 2 (xVal (wLst wNil)))
    (sSeq (sAsg 3 (xVal (wCallT 0 sp__law_draw (wCons (wOp2 fAdd (wPeek 1) (wC (.int 1))) wNil))))
    (sSeq (sWhile (bTest (wOp2 fLt (wB gLen (wCons (wPeek 2) wNil)) (wPeek 3))) (sAsg 2 (xVal (wOp2 fAdd (wPeek 2) (wOp2 fMul (wLst (wCons (wOp2 fAdd (wC (.int 1)) (wCallT 0 sp__law_draw (wCons (wC (.int 3)) wNil))) wNil)) (wCallT 0 sp__law_pick (wCons (wLst (wCons (wC (.int 1)) (wCons (wC (.int 1)) (wCons (wC (.int 2)) (wCons (wC (.int 4)) wNil))))) wNil)))))))
    (sRet (wSl (wPeek 2) wNoPart (wPart (wPeek 3))))))
end HC
namespace HC
open PySem PySem.Spec PyProof.Rows L2
local macro_rules | `(tactic| walk_at "ds") => `(tactic| simp only [endD, startD, startT, List.map_cons, List.map_nil, List.length_cons, List.length_nil, List.replicate, List.cons_append, List.nil_append, Nat.reduceSub, Nat.reduceAdd, sSeq, sRet, sIf, sNil, sAsg, sUnp, sExpr, sPar2, sPar3, xCons, xNil, xVal, xOwn, bTest, bNot, bAnd, bOr, wVar, wPeek, slot, wC, wOp2, wB, wCons, wNil, wTup, wLst, wIf, wAnd, wOr, wNot, wNeg, wCall, wCallT, wSl, wPart, wNoPart, List.set, ex1, gT_t, gT_st, gT_pr, gC_c, gN_c, gNil_c, sRaise, wChain, sFrz, frz,
  fAdd_i, fAdd_s, fAdd_l, fAdd_t, fSub_i, fLt_i, fLe_i, fGt_i, fGe_i, fEq_i, fNe_i, fIs_b, fIsN_b, gMin_2, gMax_2, gLen_l, gLen_t, fIx_rm0, fIx_rm1, fIx_rm2, fIx_st0, fIx_st1, fIx_st2, fIx_rg0, fIx_rg1, fIx_rg2, fSl_rg, fEq_gap, fEq_stay, fEq_late, fEq_look, fEq_lean])
section
variable {Q : D → Prop} {E : Addr → Prop}
theorem in_warmed {r : Rm} {a b c : Int} (q : Q (.int (warm r a b c))) : sp_warmed [r.enc, .int a, .int b, .int c] Q E := ⟨(r, a, b, c), rfl, trivial, q⟩
theorem in_decided {r a b c : Int} (q : Q (.int (decid r a b c))) : sp_decided [.int r, .int a, .int b, .int c] Q E := ⟨(r, a, b, c), rfl, trivial, q⟩
theorem in_set_switch {r : Rg} {a b c d : Int} (q : Q (encPr (setSw r a b c d))) : sp_set_switch [r.enc, .int a, .int b, .int c, .int d] Q E := ⟨(r, a, b, c, d), rfl, trivial, q⟩
theorem in_step {r : Rm} {g : Rg} {s : Sta} {w : Int} (q : Q (encSt (tick r g s w))) : sp_step [r.enc, g.enc, encSt s, .int w] Q E := ⟨(r, g, s, w), rfl, trivial, q⟩
theorem in_first {r : Rm} (q : Q (encSt (first r))) : sp_first_state [r.enc] Q E := ⟨r, rfl, trivial, q⟩
theorem sem_first_state : ∀ ds Q E, sp_first_state ds Q E → t_first_state (endD Q E) (startD 1 ds) := by
  rintro _ Q E ⟨rm, rfl, _, q⟩
  unfold t_first_state
  walk_at "ds"
  exact q
theorem sem_warmed : ∀ ds Q E, sp_warmed ds Q E → t_warmed (endD Q E) (startD 4 ds) := by
  rintro _ Q E ⟨⟨rm, h, s, w⟩, rfl, _, q⟩
  have q : Q (.int (warm rm h s w)) := q
  unfold warm at q
  unfold t_warmed
  walk_at "ds"
  by_cases hs : s = 1
  · simp only [hs, decide_true, if_true] at q ⊢
    have e : (if (if h - w + rm.rise > 0 then h - w + rm.rise else 0) < rm.top then if h - w + rm.rise > 0 then h - w + rm.rise else 0 else rm.top) = min rm.top (max 0 (h - w + rm.rise)) := by omega
    rw [e]
    exact q
  · simp only [hs, decide_false, if_false] at q ⊢
    have e : (if (if h - w + 0 > 0 then h - w + 0 else 0) < rm.top then if h - w + 0 > 0 then h - w + 0 else 0 else rm.top) = min rm.top (max 0 (h - w + 0)) := by omega
    simp only [Bool.false_eq_true, if_false]
    rw [e]
    exact q
theorem sem_decided : ∀ ds Q E, sp_decided ds Q E → t_decided (endD Q E) (startD 4 ds) := by
  rintro _ Q E ⟨⟨h, lo, hi, s⟩, rfl, _, q⟩
  have q : Q (.int (decid h lo hi s)) := q
  unfold decid at q
  unfold t_decided
  walk_at "ds"
  simp only [decide_eq_true_eq]
  split
  · simpa [*] using q
  · split
    · simpa [*] using q
    · simpa [*] using q
theorem sem_set_switch : ∀ ds Q E, sp_set_switch ds Q E → t_set_switch (endD Q E) (startD 9 ds) := by
  rintro _ Q E ⟨⟨g, b, h, s, m⟩, rfl, _, q⟩
  have q : Q (encPr (setSw g b h s m)) := q
  unfold setSw at q
  unfold t_set_switch
  walk_at "ds"
  cases hk : g.kd with
  | gap =>
    simp only [hk, reduceCtorEq, decide_true, decide_false, Bool.false_eq_true, if_true, if_false] at q ⊢
    exact in_decided q
  | late =>
    simp only [hk, reduceCtorEq, decide_true, decide_false, Bool.false_eq_true, if_true, if_false] at q ⊢
    exact in_decided q
  | lean =>
    simp only [hk, reduceCtorEq, decide_true, decide_false, Bool.false_eq_true, if_true, if_false] at q ⊢
    refine in_decided ?_
    walk_at "ds"
    simp only [decide_eq_true_eq]
    have e : ∀ z : Int, (if g.hi - g.lo - 1 < z then g.hi - g.lo - 1 else z) = min z (g.hi - g.lo - 1) := fun z => by omega
    rw [e]
    split
    · rename_i hd
      simp only [hd, if_true] at q ⊢
      exact q
    · rename_i hd
      simp only [hd, if_false] at q
      exact q
  | stay =>
    have f : g.kd.four = true := by rw [hk]; rfl
    simp only [hk] at q ⊢
    simp only [reduceCtorEq, decide_false, Bool.false_eq_true, if_false, decide_eq_true_eq]
    split
    · rename_i hm
      simp only [hm, if_true] at q
      exact q
    · rename_i hm
      simp only [hm, if_false] at q
      refine in_decided ?_
      walk_at "ds"
      simp only [fIx_rg3 f, fSub_i, Bool.not_eq_true', decide_eq_false_iff_not]
      split
      · rename_i hd
        simp only [hd, if_true, ne_eq, not_false_eq_true] at q
        exact q
      · rename_i hd
        simp only [hd, if_false, ne_eq] at q
        exact q
  | look =>
    have f : g.kd.four = true := by rw [hk]; rfl
    simp only [hk] at q ⊢
    simp only [reduceCtorEq, decide_false, Bool.false_eq_true, if_false, decide_eq_true_eq]
    split
    · rename_i hm
      simp only [hm, if_true] at q
      exact q
    · rename_i hm
      simp only [hm, if_false] at q
      refine in_decided ?_
      simp only [decide_true, if_true, fIx_rg3 f, fSub_i]
      exact q
theorem sem_step : ∀ ds Q E, sp_step ds Q E → t_step (endD Q E) (startD 8 ds) := by
  rintro _ Q E ⟨⟨rm, g, s, w⟩, rfl, _, q⟩
  unfold t_step
  walk_at "ds"
  refine in_warmed ?_
  refine in_set_switch ?_
  exact ⟨by show 1 + 2 ≤ sizeLine; decide, q⟩
end
end HC
namespace HC
open PySem PySem.Spec PyProof.Rows L2
local macro_rules | `(tactic| walk_at "ds") => `(tactic| simp only [endD, startD, startT, List.map_cons, List.map_nil, List.length_cons, List.length_nil, List.replicate, List.cons_append, List.nil_append, Nat.reduceSub, Nat.reduceAdd, sSeq, sRet, sIf, sNil, sAsg, sUnp, sExpr, sPar2, sPar3, xCons, xNil, xVal, xOwn, bTest, bNot, bAnd, bOr, wVar, wPeek, slot, wC, wOp2, wB, wCons, wNil, wTup, wLst, wIf, wAnd, wOr, wNot, wNeg, wCall, wCallT, wSl, wPart, wNoPart, List.set, ex1, gT_t, gT_st, gT_pr, gC_c, gN_c, gNil_c, sRaise, wChain, sFrz, frz, wIsi,
  fAdd_i, fAdd_s, fAdd_l, fAdd_t, fSub_i, fLt_i, fLe_i, fGt_i, fGe_i, fEq_i, fNe_i, fIs_b, fIsN_b, gMin_2, gMax_2, gLen_l, gLen_t, fIx_rm0, fIx_rm1, fIx_rm2, fIx_st0, fIx_st1, fIx_st2, fIx_rg0, fIx_rg1, fIx_rg2, fSl_rg, fEq_gap, fEq_stay, fEq_late, fEq_look, fEq_lean])
def isIntD : D → Bool
  | .int _ => true
  | .bool _ => true
  | _ => false
def isBoolD : D → Bool
  | .bool _ => true
  | _ => false
def isStrD : D → Bool
  | .str _ => true
  | _ => false
def isTupD : D → Bool
  | .tuple _ => true
  | _ => false
def isLstD : D → Bool
  | .list _ => true
  | _ => false
theorem isT_int {d : D} (h : d.plain = true) : isT "int" d = some (isIntD d) := by
  cases d <;> first | exact absurd h Bool.false_ne_true | (show kitB _ _ = some _; simp only [isIntD]; decide +kernel)
theorem isT_bool {d : D} (h : d.plain = true) : isT "bool" d = some (isBoolD d) := by
  cases d <;> first | exact absurd h Bool.false_ne_true | (show kitB _ _ = some _; simp only [isBoolD]; decide +kernel)
theorem isT_str {d : D} (h : d.plain = true) : isT "str" d = some (isStrD d) := by
  cases d <;> first | exact absurd h Bool.false_ne_true | (show kitB _ _ = some _; simp only [isStrD]; decide +kernel)
theorem isT_tup {d : D} (h : d.plain = true) : isT "tuple" d = some (isTupD d) := by
  cases d <;> first | exact absurd h Bool.false_ne_true | (show kitB _ _ = some _; simp only [isTupD]; decide +kernel)
theorem isT_lst {d : D} (h : d.plain = true) : isT "list" d = some (isLstD d) := by
  cases d <;> first | exact absurd h Bool.false_ne_true | (show kitB _ _ = some _; simp only [isLstD]; decide +kernel)
section
variable {Q : D → Prop} {E : Addr → Prop}
theorem ite_f {b : Bool} {A B : Prop} (h : b = false) (q : B) : if b = true then A else B := by
  subst h
  exact q
theorem ite_t {b : Bool} {A B : Prop} (h : b = true) (q : A) : if b = true then A else B := by
  subst h
  exact q
theorem in_is_int {d : D} {a b : Int} (h : d.plain = true) (q : Q (.bool (isIntF d a b))) : sp_is_int [d, .int a, .int b] Q E := ⟨(d, a, b), rfl, h, q⟩
theorem sem_is_int : ∀ ds Q E, sp_is_int ds Q E → t_is_int (endD Q E) (startD 3 ds) := by
  rintro _ Q E ⟨⟨d, a, b⟩, rfl, h, q⟩
  replace h : d.plain = true := h
  replace q : Q (.bool (isIntF d a b)) := q
  unfold t_is_int
  walk_at "ds"
  simp only [isT_int h, isT_bool h, ex1]
  cases d <;> first | exact absurd h Bool.false_ne_true | skip
  all_goals simp only [isIntD, isBoolD, isIntF, Bool.not_true, Bool.not_false, Bool.false_eq_true, if_true, if_false, fLe_i, Bool.false_and, Bool.true_and] at q ⊢
  all_goals first | exact q | skip
  rename_i i
  cases h1 : decide (a ≤ i) with
  | true => rw [h1] at q; simpa using q
  | false => rw [h1] at q; simpa using q
theorem exB_b {c : Addr} {b : Bool} (q : match exB c b with
    | .ok d => Q d
    | .error c => E c) : (if (!b) = true then E c else Q .none) := by
  cases b with
  | true => exact q
  | false => exact q
theorem sem_check_number (x : Xc) : ∀ ds Q E, sp_check_number x ds Q E → t_check_number x (endD Q E) (startD 3 ds) := by
  rintro _ Q E ⟨⟨d, a, b⟩, rfl, h, q⟩
  unfold t_check_number
  walk_at "ds"
  exact in_is_int h (exB_b q)
theorem sem_check_sight (x : Xc) : ∀ ds Q E, sp_check_sight x ds Q E → t_check_sight x (endD Q E) (startD 1 ds) := by
  rintro _ Q E ⟨d, rfl, h, q⟩
  unfold t_check_sight
  walk_at "ds"
  exact ⟨(d, 0, 1), rfl, h, by
    show match exB x.badNumber (isIntF d 0 1) with
      | .ok _ => Q .none
      | .error c => E c
    have q : match exB x.badNumber (isIntF d 0 1) with
      | .ok d => Q d
      | .error c => E c := q
    cases hb : isIntF d 0 1 with
    | true => rw [hb] at q; exact q
    | false => rw [hb] at q; exact q⟩
theorem isIntF_int {d : D} {a b : Int} (h : isIntF d a b = true) : ∃ i, d = .int i ∧ a ≤ i ∧ i ≤ b := by
  cases d <;> first | (rename_i i; exact ⟨i, rfl, by simpa [isIntF] using h⟩) | cases h
theorem plain_of {d : D} {ds : List D} (h : D.plains ds = true) (m : d ∈ ds) : d.plain = true := by
  induction ds with
  | nil => cases m
  | cons e es ih =>
    have h' := Bool.and_eq_true_iff.mp (show (e.plain && D.plains es) = true from h)
    rcases List.mem_cons.mp m with rfl | m
    · exact h'.1
    · exact ih h'.2 m
theorem sem_is_room : ∀ ds Q E, sp_is_room ds Q E → t_is_room (endD Q E) (startD 1 ds) := by
  rintro _ Q E ⟨d, rfl, h, q⟩
  replace h : d.plain = true := h
  replace q : Q (.bool (isRoomF d)) := q
  unfold t_is_room
  walk_at "ds"
  simp only [isT_tup h, ex1]
  cases d <;> first | exact absurd h Bool.false_ne_true | skip
  all_goals simp only [isTupD, Bool.not_true, Bool.not_false, Bool.false_eq_true, if_true, if_false] at q ⊢
  all_goals first | exact q | skip
  rename_i ds
  simp only [gLen_t, fNe_i]
  have hp : D.plains ds = true := h
  match ds, hp, q with
  | [a, b, c], hp, q =>
    have q : Q (.bool (isIntF a 6 10 && roomT a b c)) := q
    have pa := plain_of hp (d := a) (by simp)
    have pb := plain_of hp (d := b) (by simp)
    have pc := plain_of hp (d := c) (by simp)
    simp only [List.length_cons, List.length_nil, fIx_t]
    refine ite_f (by show (!decide (((0 + 1 + 1 + 1 : Nat) : Int) = 3)) = false; decide) ?_
    refine ⟨a, rfl, in_is_int pa ?_⟩
    cases ha : isIntF a 6 10 with
    | false =>
      rw [ha] at q
      exact q
    | true =>
      obtain ⟨i, rfl, _, _⟩ := isIntF_int ha
      have q : Q (.bool (isIntF (.int i) 6 10 && (isIntF b 0 i && isIntF c 4 5))) := q
      rw [ha, Bool.true_and] at q
      refine ⟨b, rfl, .int i, rfl, in_is_int pb ?_⟩
      cases hb : isIntF b 0 i with
      | false =>
        rw [hb] at q
        exact q
      | true =>
        rw [hb] at q
        exact ⟨c, rfl, in_is_int pc q⟩
  | [], _, q => exact q
  | [a], _, q => exact q
  | [a, b], _, q => exact q
  | a :: b :: c :: d :: r, _, q =>
    have n3 : (!decide (((a :: b :: c :: d :: r).length : Int) = 3)) = true := by
      simp only [List.length_cons]
      simp
      omega
    exact ite_t n3 q
theorem in_is_room {d : D} (h : d.plain = true) (q : Q (.bool (isRoomF d))) : sp_is_room [d] Q E := ⟨d, rfl, h, q⟩
theorem sem_check_room (x : Xc) : ∀ ds Q E, sp_check_room x ds Q E → t_check_room x (endD Q E) (startD 1 ds) := by
  rintro _ Q E ⟨d, rfl, h, q⟩
  unfold t_check_room
  walk_at "ds"
  exact in_is_room h (exB_b q)
theorem sem_is_weather : ∀ ds Q E, sp_is_weather ds Q E → t_is_weather (endD Q E) (startD 1 ds) := by
  rintro _ Q E ⟨d, rfl, h, q⟩
  unfold t_is_weather
  walk_at "ds"
  exact in_is_int h q
theorem in_is_weather {d : D} (h : d.plain = true) (q : Q (.bool (isIntF d 1 3))) : sp_is_weather [d] Q E := ⟨d, rfl, h, q⟩
theorem comp_map {g : GD} {te : TP} {r : Env} {Q : List D → Prop} (f : D → D) : ∀ (ds : List D), (∀ d ∈ ds, ∃ r1, g d r = some r1 ∧ ∀ Q' : D → Prop, Q' (f d) → te r1 Q' E0') → Q (ds.map f) → compW g bYes te r ds Q
  | [], _, q => q
  | d :: ds, h, q => by
    obtain ⟨r1, e1, hr⟩ := h d (by simp)
    exact ⟨r1, e1, hr _ (comp_map (Q := fun ys => Q (f d :: ys)) f ds (fun x hx => h x (List.mem_cons_of_mem _ hx)) q)⟩
theorem sem_is_row : ∀ ds Q E, sp_is_row ds Q E → t_is_row (endD Q E) (startD 2 ds) := by
  rintro _ Q E ⟨d, rfl, h, q⟩
  replace h : d.plain = true := h
  replace q : Q (.bool (isRowF d)) := q
  unfold t_is_row
  walk_at "ds"
  simp only [isT_lst h, ex1]
  cases d <;> first | exact absurd h Bool.false_ne_true | skip
  all_goals simp only [isLstD, isRowF, Bool.not_true, Bool.not_false, Bool.false_eq_true, if_true, if_false] at q ⊢
  all_goals first | exact q | skip
  rename_i ds
  simp only [gLen_l, fLe_i]
  have hc : decide ((ds.length : Int) ≤ 60) = decide (ds.length ≤ 60) := by
    rw [decide_eq_decide]; omega
  rw [hc]
  cases hl : decide (ds.length ≤ 60) with
  | false => rw [hl] at q; exact q
  | true =>
    rw [hl] at q
    simp only [if_true]
    have hl' : ds.length ≤ 60 := of_decide_eq_true hl
    refine ⟨le1000 (by omega), ?_⟩
    refine comp_map (fun d => .bool (isIntF d 1 3)) ds (fun d hd => ⟨_, rfl, fun Q' q' => ?_⟩) ?_
    · exact in_is_weather (E := E0') (plain_of h hd) q'
    · refine ⟨ds.map fun d => isIntF d 1 3, ?_, ?_⟩
      · have := bools_map (ds.map fun d => isIntF d 1 3)
        rw [List.map_map] at this
        exact this
      · rw [List.all_map]
        exact q
end
end HC
namespace HC
open PySem PySem.Spec PyProof.Rows L2
local macro_rules | `(tactic| walk_at "ds") => `(tactic| simp only [endD, startD, startT, List.map_cons, List.map_nil, List.length_cons, List.length_nil, List.replicate, List.cons_append, List.nil_append, Nat.reduceSub, Nat.reduceAdd, sSeq, sRet, sIf, sNil, sAsg, sUnp, sExpr, sPar2, sPar3, xCons, xNil, xVal, xOwn, bTest, bNot, bAnd, bOr, wVar, wPeek, slot, wC, wOp2, wB, wCons, wNil, wTup, wLst, wIf, wAnd, wOr, wNot, wNeg, wCall, wCallT, wSl, wPart, wNoPart, List.set, ex1, gT_t, gT_st, gT_pr, gC_c, gN_c, gNil_c, sRaise, wChain, sFrz, frz, wIsi, wTabIn, wTabAt,
  fAdd_i, fAdd_s, fAdd_l, fAdd_t, fSub_i, fLt_i, fLe_i, fGt_i, fGe_i, fEq_i, fNe_i, fIs_b, fIsN_b, gMin_2, gMax_2, gLen_l, gLen_t, fIx_rm0, fIx_rm1, fIx_rm2, fIx_st0, fIx_st1, fIx_st2, fIx_rg0, fIx_rg1, fIx_rg2, fSl_rg, fEq_gap, fEq_stay, fEq_late, fEq_look, fEq_lean])
section
variable {Q : D → Prop} {E : Addr → Prop}
theorem in_is_row {d : D} (h : d.plain = true) (q : Q (.bool (isRowF d))) : sp_is_row [d] Q E := ⟨d, rfl, h, q⟩
theorem sem_check_row (x : Xc) : ∀ ds Q E, sp_check_row x ds Q E → t_check_row x (endD Q E) (startD 1 ds) := by
  rintro _ Q E ⟨d, rfl, h, q⟩
  unfold t_check_row
  walk_at "ds"
  exact in_is_row h (exB_b q)
theorem tab_len {k : Str} {n : Int} (h : tabAt l_SIZES k = some n) : n = 3 ∨ n = 4 := by
  unfold l_SIZES at h
  simp only [tabAt] at h
  repeat (split at h; · (cases h; first | exact .inl rfl | exact .inr rfl))
  cases h
theorem sem_is_for : ∀ ds Q E, sp_is_for ds Q E → t_is_for (endD Q E) (startD 2 ds) := by
  rintro _ Q E ⟨⟨d, top⟩, rfl, h, q⟩
  replace h : d.plain = true := h
  replace q : Q (.bool (isForF d top)) := q
  unfold t_is_for
  walk_at "ds"
  simp only [isT_tup h, ex1]
  cases d <;> first | exact absurd h Bool.false_ne_true | skip
  all_goals simp only [isTupD, Bool.not_true, Bool.not_false, Bool.false_eq_true, if_true, if_false]
  all_goals first | exact q | skip
  rename_i ds
  have hp : D.plains ds = true := h
  simp only [gLen_t, fEq_i, fNe_i, fIx_t]
  match ds, hp, q with
  | [], _, q => exact q
  | a :: rest, hp, q =>
    have pa := plain_of hp (d := a) (by simp)
    refine ite_f (by simp; omega) ?_
    simp only [show atI (a :: rest) 0 = some a from atI_nat (j := 0) rfl, ex1, isT_str pa]
    cases a <;> first | exact absurd pa Bool.false_ne_true | skip
    all_goals simp only [isStrD, Bool.not_true, Bool.not_false, Bool.false_eq_true, if_true, if_false]
    all_goals first | exact q | skip
    rename_i k
    replace q : Q (.bool (forT (tabAt l_SIZES k) rest top)) := q
    cases ht : tabAt l_SIZES k with
    | none =>
      rw [ht] at q
      exact q
    | some n =>
      rw [ht] at q
      simp only [Option.isSome_some, Bool.not_true, Bool.false_eq_true, if_false, ex1] at q ⊢
      by_cases hl : (rest.length : Int) + 1 = n
      · refine ite_f (by simp only [List.length_cons]; simp; omega) ?_
        have n34 := tab_len ht
        match rest, hp, hl, q with
        | [], _, hl, _ => simp at hl; omega
        | [b], _, hl, _ => simp at hl; omega
        | b :: c :: more, hp, hl, q =>
          have pb := plain_of hp (d := b) (by simp)
          have pc := plain_of hp (d := c) (by simp)
          simp only [show atI (D.str k :: b :: c :: more) 1 = some b from atI_nat (j := 1) rfl, show atI (D.str k :: b :: c :: more) 2 = some c from atI_nat (j := 2) rfl, ex1]
          refine in_is_int pb ?_
          cases b <;> first | exact absurd pb Bool.false_ne_true | skip
          all_goals simp only [isIntF, Bool.not_false, if_true]
          all_goals first | exact q | skip
          rename_i lo
          have hl2 : decide ((more.length : Int) + 3 = n) = true := by
            simp only [List.length_cons] at hl
            simp
            omega
          replace q : Q (.bool (decide ((more.length : Int) + 3 = n) && ((decide (0 ≤ lo) && decide (lo ≤ top)) && (isIntF c (lo + 1) top && moreF more)))) := q
          rw [hl2, Bool.true_and] at q
          rcases Bool.eq_false_or_eq_true (decide (0 ≤ lo) && decide (lo ≤ top)) with h1 | h1
          case inr =>
            rw [h1, Bool.false_and] at q
            exact ite_t (by rw [h1]; rfl) q
          case inl =>
            rw [h1, Bool.true_and] at q
            refine ite_f (by rw [h1]; rfl) ?_
            simp only [Bool.not_true, Bool.false_eq_true, if_false, fAdd_i]
            refine in_is_int pc ?_
            cases h2 : isIntF c (lo + 1) top with
            | false =>
              rw [h2, Bool.false_and] at q
              exact q
            | true =>
              rw [h2, Bool.true_and] at q
              simp only [Bool.not_true, Bool.false_eq_true, if_false]
              match more, hp, hl, q with
              | [], _, hl, q =>
                refine ite_t (by simp) ?_
                exact q
              | e :: more, hp, hl, q =>
                have pe := plain_of hp (d := e) (by simp)
                refine ite_f (by simp; omega) ?_
                exact ⟨e, atI_nat (j := 3) rfl, in_is_int pe q⟩
      · refine ite_t (by simp only [List.length_cons]; simp; omega) ?_
        have e : forT (some n) rest top = false := by
          unfold forT
          split
          · rename_i h1 h2
            cases h1
            simp only [List.length_cons] at hl
            rw [decide_eq_false (by omega), Bool.false_and]
          · rfl
        rw [e] at q
        exact q
theorem in_is_for {d : D} {t : Int} (h : d.plain = true) (q : Q (.bool (isForF d t))) : sp_is_for [d, .int t] Q E := ⟨(d, t), rfl, h, q⟩
theorem isRoomF_top {d : D} (h : isRoomF d = true) : ∃ r : Rm, r.Ok ∧ d = r.enc := by
  unfold isRoomF at h
  split at h
  · rename_i a b c
    rw [Bool.and_eq_true] at h
    obtain ⟨i, rfl, h1, h2⟩ := isIntF_int h.1
    have h' := Bool.and_eq_true_iff.mp (show (isIntF b 0 i && isIntF c 4 5) = true from h.2)
    obtain ⟨j, rfl, h3, h4⟩ := isIntF_int h'.1
    obtain ⟨l, rfl, h5, h6⟩ := isIntF_int h'.2
    exact ⟨⟨i, j, l⟩, ⟨h1, h2, h3, h4, h5, h6⟩, rfl⟩
  · cases h
theorem room_enc {r : Rm} (h : r.Ok) : isRoomF r.enc = true := by
  obtain ⟨h1, h2, h3, h4, h5, h6⟩ := h
  simp [isRoomF, roomT, Rm.enc, isIntF, h1, h2, h3, h4, h5, h6]
theorem in_check_room {x : Xc} {d : D} (h : d.plain = true) (q : if isRoomF d = true then Q .none else E x.badRoom) : sp_check_room x [d] Q E := ⟨d, rfl, h, by
  show match exB x.badRoom (isRoomF d) with
    | .ok d => Q d
    | .error c => E c
  cases hr : isRoomF d with
  | true => rw [hr] at q; exact q
  | false => rw [hr] at q; exact q⟩
theorem sem_check_regulator (x : Xc) : ∀ ds Q E, sp_check_regulator x ds Q E → t_check_regulator x (endD Q E) (startD 2 ds) := by
  rintro _ Q E ⟨⟨a, b⟩, rfl, ⟨h1, h2⟩, q⟩
  unfold t_check_regulator
  walk_at "ds"
  refine in_check_room h1 ?_
  unfold chkRg at q
  cases hr : isRoomF a with
  | false =>
    simp only [hr] at q
    exact q
  | true =>
    simp only [hr, if_true] at q ⊢
    obtain ⟨r, ok, rfl⟩ := isRoomF_top hr
    rw [fIx_rm0]
    refine in_is_for h2 ?_
    have e : topOf r.enc = r.top := rfl
    rw [e] at q
    cases hf : isForF b r.top with
    | false => simp only [hf] at q; exact q
    | true => simp only [hf] at q; exact q
theorem in_check_regulator {x : Xc} {a b : D} (h1 : a.plain = true) (h2 : b.plain = true) (q : match chkRg x a b (.ok .none) with
    | .ok d => Q d
    | .error c => E c) : sp_check_regulator x [a, b] Q E := ⟨(a, b), rfl, ⟨h1, h2⟩, q⟩
theorem kd_nm (k : Kd) : kdOf k.nm = k := by cases k <;> decide +kernel
theorem tab_kd {k : Str} {n : Int} (h : tabAt l_SIZES k = some n) : ∃ d : Kd, k = d.nm ∧ n = if d.four = true then 4 else 3 := by
  unfold l_SIZES at h
  simp only [tabAt] at h
  split at h
  · rename_i e; cases h; exact ⟨.gap, e.symm, rfl⟩
  split at h
  · rename_i e; cases h; exact ⟨.stay, e.symm, rfl⟩
  split at h
  · rename_i e; cases h; exact ⟨.late, e.symm, rfl⟩
  split at h
  · rename_i e; cases h; exact ⟨.look, e.symm, rfl⟩
  split at h
  · rename_i e; cases h; exact ⟨.lean, e.symm, rfl⟩
  cases h
theorem isForF_rg {d : D} {t : Int} (h : isForF d t = true) : ∃ g : Rg, g.Ok t ∧ d = g.enc ∧ rgOf d = g := by
  unfold isForF at h
  split at h
  · rename_i k rest
    unfold forT at h
    split at h
    · rename_i n lo b more ht
      simp only [Bool.and_eq_true, decide_eq_true_eq] at h
      obtain ⟨hl, ⟨h0, h1⟩, h2, h3⟩ := h
      obtain ⟨kd, rfl, hn⟩ := tab_kd ht
      obtain ⟨hi, rfl, h4, h5⟩ := isIntF_int h2
      cases hf : kd.four with
      | false =>
        rw [hf] at hn
        have e : more = [] := by
          cases more with
          | nil => rfl
          | cons x y => simp at hl hn; omega
        subst e
        exact ⟨⟨kd, lo, hi, 0⟩, ⟨h0, by show lo < hi; omega, h5, fun z => (by rw [hf] at z; cases z), fun z => (by rw [hf] at z; cases z), fun _ => rfl⟩, by simp [Rg.enc, hf], by simp [rgOf, kd_nm]⟩
      | true =>
        rw [hf] at hn
        match more, hl, h3 with
        | [], hl, _ => simp at hl hn; omega
        | [c], _, h3 =>
          obtain ⟨tk, rfl, h6, h7⟩ := isIntF_int h3
          exact ⟨⟨kd, lo, hi, tk⟩, ⟨h0, by show lo < hi; omega, h5, fun _ => h6, fun _ => h7, fun z => (by rw [hf] at z; cases z)⟩, by simp [Rg.enc, hf], by simp [rgOf, kd_nm]⟩
        | c :: d :: r, hl, _ => simp at hl hn; omega
    · cases h
  · cases h
theorem tab_nm (k : Kd) : tabAt l_SIZES k.nm = some (if k.four = true then 4 else 3) := by cases k <;> decide +kernel
theorem rg_enc {g : Rg} {t : Int} (h : g.Ok t) : isForF g.enc t = true ∧ rgOf g.enc = g := by
  obtain ⟨h1, h2, h3, h4, h5, h6⟩ := h
  obtain ⟨kd, lo, hi, tk⟩ := g
  simp only at h1 h2 h3 h4 h5 h6
  cases hf : kd.four with
  | false =>
    have e : tk = 0 := h6 hf
    subst e
    refine ⟨?_, by simp [rgOf, Rg.enc, hf, kd_nm]⟩
    simp [isForF, forT, moreF, Rg.enc, hf, tab_nm, isIntF]
    omega
  | true =>
    have a := h4 hf
    have b := h5 hf
    refine ⟨?_, by simp [rgOf, Rg.enc, hf, kd_nm]⟩
    simp [isForF, forT, moreF, Rg.enc, hf, tab_nm, isIntF]
    omega
end
end HC
namespace HC
open PySem PySem.Spec PyProof.Rows L2
local macro_rules | `(tactic| walk_at "ds") => `(tactic| simp only [endD, startD, startT, List.map_cons, List.map_nil, List.length_cons, List.length_nil, List.replicate, List.cons_append, List.nil_append, Nat.reduceSub, Nat.reduceAdd, sSeq, sRet, sIf, sNil, sAsg, sUnp, sExpr, sPar2, sPar3, xCons, xNil, xVal, xOwn, bTest, bNot, bAnd, bOr, wVar, wPeek, slot, wC, wOp2, wB, wCons, wNil, wTup, wLst, wIf, wAnd, wOr, wNot, wNeg, wCall, wCallT, wSl, wPart, wNoPart, List.set, ex1, gT_t, gT_st, gT_pr, gC_c, gN_c, gNil_c, sRaise, wChain, sFrz, frz, wIsi, wTabIn, wTabAt,
  fAdd_i, fAdd_s, fAdd_l, fAdd_t, fSub_i, fLt_i, fLe_i, fGt_i, fGe_i, fEq_i, fNe_i, fIs_b, fIsN_b, gMin_2, gMax_2, gLen_l, gLen_t, fIx_rm0, fIx_rm1, fIx_rm2, fIx_st0, fIx_st1, fIx_st2, fIx_rg0, fIx_rg1, fIx_rg2, fSl_rg, fEq_gap, fEq_stay, fEq_late, fEq_look, fEq_lean])
theorem atI_last {α : Type} {xs : List α} {x : α} : atI (xs ++ [x]) (-1) = some x := by
  unfold atI ixN
  simp only [List.length_append, List.length_cons, List.length_nil]
  rw [if_neg (by omega), if_pos (by omega)]
  have e : (-1 + ((xs.length + (0 + 1) : Nat) : Int)).toNat = xs.length := by omega
  rw [e]
  simp
theorem cutL_tail {α : Type} {xs : List α} : cutL xs (some 1) none = xs.tail := by
  unfold cutL
  rw [HT.sIx_none, show (some 1 : Option Int) = some ((1 : Nat) : Int) from rfl, HT.sIx_nat]
  cases xs with
  | nil => rfl
  | cons x xs =>
    simp
theorem cutL_take {α : Type} {xs : List α} {n : Nat} : cutL xs none (some (n : Int)) = xs.take n := by
  unfold cutL
  rw [HT.sIx_none, HT.sIx_nat]
  simp
theorem comp_enc {α : Type} {g : GD} {te : TP} {r : Env} {Q : List D → Prop} (enc f : α → D) : ∀ (l : List α), (∀ a ∈ l, ∃ r1, g (enc a) r = some r1 ∧ ∀ Q' : D → Prop, Q' (f a) → te r1 Q' E0') → Q (l.map f) → compW g bYes te r (l.map enc) Q
  | [], _, q => q
  | d :: ds, h, q => by
    obtain ⟨r1, e1, hr⟩ := h d (by simp)
    exact ⟨r1, e1, hr _ (comp_enc (Q := fun ys => Q (f d :: ys)) enc f ds (fun x hx => h x (List.mem_cons_of_mem _ hx)) q)⟩
theorem comp_filt {α : Type} {g : GD} {tt : TB} {te : TP} {r : Env} {Q : List D → Prop} (enc f : α → D) (p : α → Bool) : ∀ (l : List α), (∀ a ∈ l, ∃ r1, g (enc a) r = some r1 ∧ (∀ Q' : Bool → Prop, Q' (p a) → tt r1 Q' E0') ∧ (p a = true → ∀ Q' : D → Prop, Q' (f a) → te r1 Q' E0')) → Q ((l.filter p).map f) → compW g tt te r (l.map enc) Q
  | [], _, q => q
  | d :: ds, h, q => by
    obtain ⟨r1, e1, ht, hr⟩ := h d (by simp)
    refine ⟨r1, e1, ht _ ?_⟩
    have h' := fun x hx => h x (List.mem_cons_of_mem _ hx)
    cases hp : p d with
    | true =>
      rw [List.filter_cons_of_pos (by rw [hp]), List.map_cons] at q
      exact hr hp _ (comp_filt (Q := fun ys => Q (f d :: ys)) enc f p ds h' q)
    | false =>
      rw [List.filter_cons_of_neg (by rw [hp]; exact Bool.false_ne_true)] at q
      exact comp_filt enc f p ds h' q
section
variable {Q : D → Prop} {E : Addr → Prop}
theorem sem_mark_of : ∀ ds Q E, sp_mark_of ds Q E → t_mark_of (endD Q E) (startD 2 ds) := by
  rintro _ Q E ⟨⟨s, i⟩, rfl, _, q⟩
  replace q : Q (if i = 0 then .int s.2.1 else encPr (s.2.1, s.1)) := q
  unfold t_mark_of
  walk_at "ds"
  simp only [decide_eq_true_eq]
  split
  · simp only [*, if_true] at q; exact q
  · simp only [*, if_false] at q; exact q
theorem in_mark_of {s : Sta} {i : Int} (q : Q (encMark i s)) : sp_mark_of [encSt s, .int i] Q E := ⟨(s, i), rfl, trivial, q⟩
theorem loop_states (rm : Rm) (g : Rg) (row : D) (e : En) : ∀ (ws : List Int) (pre : List Sta) (last : Sta) (sl : Sl), pre.length + ws.length ≤ 1000 →
    (∀ sl, e.nx [.val rm.enc, .val g.enc, .val row, .own (.list ((pre ++ runFrom rm g last ws).map encSt)), sl]) →
    loopW (gN 4) (sApp 3 (wCall sp_step (wCons (wVar 0) (wCons (wVar 1) (wCons (wOp2 fIx (wPeek 3) (wNeg (wC (.int 1)))) (wCons (wVar 4) wNil)))))) e (ws.map D.int)
      [.val rm.enc, .val g.enc, .val row, .own (.list ((pre ++ [last]).map encSt)), sl]
  | [], pre, last, sl, _, q => q sl
  | w :: ws, pre, last, sl, hl, q => by
    refine ⟨[.val rm.enc, .val g.enc, .val row, .own (.list ((pre ++ [last]).map encSt)), .val (.int w)], rfl, ?_⟩
    unfold sApp
    walk_at "ds"
    rw [fIx_l]
    refine ⟨encSt last, by rw [List.map_append]; exact atI_last, in_step ?_⟩
    refine ⟨?_, ?_⟩
    · simp only [List.length_map, List.length_append, List.length_cons, List.length_nil] at hl ⊢
      exact small1000 (by omega)
    · have := loop_states rm g row e ws (pre ++ [last]) (tick rm g last w) (.val (.int w)) (by simp only [List.length_append, List.length_cons, List.length_nil] at hl ⊢; omega) (by
        intro sl
        have := q sl
        rw [runFrom] at this
        simpa using this)
      rw [List.map_append] at this
      exact this
theorem sem_states_of : ∀ ds Q E, sp_states_of ds Q E → t_states_of (endD Q E) (startD 5 ds) := by
  rintro _ Q E ⟨⟨rm, g, ws⟩, rfl, hl, q⟩
  replace q : Q (encSts (along rm g ws)) := q
  replace hl : ws.length ≤ 1000 := hl
  unfold t_states_of
  walk_at "ds"
  refine in_first ?_
  exact loop_states rm g (encIs ws) _ ws [] (first rm) .un (by simpa using hl) fun sl => q
theorem in_states_of {rm : Rm} {g : Rg} {ws : List Int} (hl : ws.length ≤ 1000) (q : Q (encSts (along rm g ws))) : sp_states_of [rm.enc, g.enc, encIs ws] Q E := ⟨(rm, g, ws), rfl, hl, q⟩
theorem isRowF_is {d : D} (h : isRowF d = true) : ∃ ws : List Int, d = encIs ws ∧ ws.length ≤ 60 ∧ isOf d = ws ∧ ∀ w ∈ ws, 1 ≤ w ∧ w ≤ 3 := by
  cases d <;> first | cases h | skip
  rename_i ds
  have h' := Bool.and_eq_true_iff.mp (show (decide (ds.length ≤ 60) && ds.all fun d => isIntF d 1 3) = true from h)
  have hl := of_decide_eq_true h'.1
  have : ∃ ws : List Int, ds = ws.map D.int ∧ ∀ w ∈ ws, 1 ≤ w ∧ w ≤ 3 := by
    have ha := h'.2
    clear h h' hl
    induction ds with
    | nil => exact ⟨[], rfl, by simp⟩
    | cons d ds ih =>
      simp only [List.all_cons, Bool.and_eq_true] at ha
      obtain ⟨i, rfl, h1, h2⟩ := isIntF_int ha.1
      obtain ⟨ws, rfl, hw⟩ := ih ha.2
      exact ⟨i :: ws, rfl, by simp; exact ⟨⟨h1, h2⟩, hw⟩⟩
  obtain ⟨ws, rfl, hw⟩ := this
  refine ⟨ws, rfl, by simpa using hl, ?_, hw⟩
  show (dInts (ws.map D.int)).getD [] = ws
  rw [ints_map]
  rfl
theorem row_enc {ws : List Int} (hl : ws.length ≤ 60) (hw : ∀ w ∈ ws, 1 ≤ w ∧ w ≤ 3) : isRowF (encIs ws) = true ∧ isOf (encIs ws) = ws := by
  refine ⟨?_, by show (dInts (ws.map D.int)).getD [] = ws; rw [ints_map]; rfl⟩
  show (decide ((ws.map D.int).length ≤ 60) && (ws.map D.int).all fun d => isIntF d 1 3) = true
  rw [List.length_map, decide_eq_true hl, Bool.true_and, List.all_map, List.all_eq_true]
  intro w m
  have := hw w m
  simp [isIntF, this]
def outE (Q : D → Prop) (E : Addr → Prop) : Ex → Prop
  | .ok d => Q d
  | .error c => E c
theorem in_check_row {x : Xc} {d : D} (h : d.plain = true) (q : if isRowF d = true then Q .none else E x.badWeather) : sp_check_row x [d] Q E := ⟨d, rfl, h, by
  show match exB x.badWeather (isRowF d) with
    | .ok d => Q d
    | .error c => E c
  cases hr : isRowF d with
  | true => rw [hr] at q; exact q
  | false => rw [hr] at q; exact q⟩
theorem in_check_sight {x : Xc} {d : D} (h : d.plain = true) (q : if isIntF d 0 1 = true then Q .none else E x.badNumber) : sp_check_sight x [d] Q E := ⟨d, rfl, h, by
  show match exB x.badNumber (isIntF d 0 1) with
    | .ok d => Q d
    | .error c => E c
  cases hr : isIntF d 0 1 with
  | true => rw [hr] at q; exact q
  | false => rw [hr] at q; exact q⟩
theorem chkRow_or {x : Xc} {a b c : D} {k : Rm → Rg → List Int → Ex} (q : outE Q E (chkRow x (a, b, c) k)) :
    (isRoomF a = false ∧ E x.badRoom) ∨ (isRoomF a = true ∧ isForF b (topOf a) = false ∧ E x.badRegulator) ∨ (isRoomF a = true ∧ isForF b (topOf a) = true ∧ isRowF c = false ∧ E x.badWeather) ∨
    (∃ r g ws, a = Rm.enc r ∧ b = Rg.enc g ∧ c = encIs ws ∧ r.Ok ∧ g.Ok r.top ∧ ws.length ≤ 60 ∧ (∀ w ∈ ws, 1 ≤ w ∧ w ≤ 3) ∧ outE Q E (k r g ws)) := by
  unfold chkRow chkRg at q
  cases hr : isRoomF a with
  | false =>
    rw [if_neg (by simp [hr])] at q
    exact .inl ⟨rfl, q⟩
  | true =>
    rw [if_pos hr] at q
    cases hf : isForF b (topOf a) with
    | false =>
      rw [if_neg (by simp [hf])] at q
      exact .inr (.inl ⟨rfl, rfl, q⟩)
    | true =>
      rw [if_pos hf] at q
      cases hw : isRowF c with
      | false =>
        rw [if_neg (by simp [hw])] at q
        exact .inr (.inr (.inl ⟨rfl, rfl, rfl, q⟩))
      | true =>
        rw [if_pos hw] at q
        obtain ⟨r, ok, rfl⟩ := isRoomF_top hr
        obtain ⟨g, gk, rfl, e⟩ := isForF_rg hf
        obtain ⟨ws, rfl, hl, e2, hb⟩ := isRowF_is hw
        rw [e, e2] at q
        exact .inr (.inr (.inr ⟨r, g, ws, rfl, rfl, rfl, ok, gk, hl, hb, q⟩))
theorem chk_bad1 {x : Xc} {a b : D} (h1 : a.plain = true) (h2 : b.plain = true) (h : isRoomF a = false) (q : E x.badRoom) : sp_check_regulator x [a, b] Q E := in_check_regulator h1 h2 (by
  unfold chkRg
  rw [if_neg (by simp [h])]
  exact q)
theorem chk_bad2 {x : Xc} {a b : D} (h1 : a.plain = true) (h2 : b.plain = true) (h : isRoomF a = true) (h' : isForF b (topOf a) = false) (q : E x.badRegulator) : sp_check_regulator x [a, b] Q E := in_check_regulator h1 h2 (by
  unfold chkRg
  rw [if_pos h, if_neg (by simp [h'])]
  exact q)
theorem chk_ok {x : Xc} {a b : D} (h1 : a.plain = true) (h2 : b.plain = true) (h : isRoomF a = true) (h' : isForF b (topOf a) = true) (q : Q .none) : sp_check_regulator x [a, b] Q E := in_check_regulator h1 h2 (by
  unfold chkRg
  rw [if_pos h, if_pos h']
  exact q)
theorem row_bad {x : Xc} {d : D} (h : d.plain = true) (h' : isRowF d = false) (q : E x.badWeather) : sp_check_row x [d] Q E := in_check_row h (by rw [if_neg (by simp [h'])]; exact q)
theorem row_ok {x : Xc} {d : D} (h : d.plain = true) (h' : isRowF d = true) (q : Q .none) : sp_check_row x [d] Q E := in_check_row h (by rw [if_pos h']; exact q)
theorem sem_states_along (x : Xc) : ∀ ds Q E, sp_states_along x ds Q E → t_states_along x (endD Q E) (startD 3 ds) := by
  rintro _ Q E ⟨⟨a, b, c⟩, rfl, ⟨h1, h2, h3⟩, q⟩
  unfold t_states_along
  walk_at "ds"
  rcases chkRow_or q with ⟨g1, q⟩ | ⟨g1, g2, q⟩ | ⟨g1, g2, g3, q⟩ | ⟨r, g, ws, rfl, rfl, rfl, ok, gk, hl, hb, q⟩
  · exact chk_bad1 h1 h2 g1 q
  · exact chk_bad2 h1 h2 g1 g2 q
  · exact chk_ok h1 h2 g1 g2 (row_bad h3 g3 q)
  · exact chk_ok h1 h2 (room_enc ok) (rg_enc gk).1 (row_ok h3 (row_enc hl hb).1 (in_states_of (by omega) q))
theorem along_length (r : Rm) (g : Rg) (s : Sta) (ws : List Int) : (runFrom r g s ws).length = ws.length + 1 := by
  induction ws generalizing s with
  | nil => rfl
  | cons w ws ih => rw [runFrom, List.length_cons, ih, List.length_cons]
theorem in_states_along {x : Xc} {a b c : D} {k : Rm → Rg → List Int → Ex} (h : pl3 (a, b, c)) {Q1 : D → Prop} (q : outE Q E (chkRow x (a, b, c) k))
    (hq : ∀ r g ws, r.Ok → g.Ok r.top → ws.length ≤ 60 → (∀ w ∈ ws, 1 ≤ w ∧ w ≤ 3) → outE Q E (k r g ws) → Q1 (encSts (along r g ws))) : sp_states_along x [a, b, c] Q1 E := by
  refine ⟨(a, b, c), rfl, h, ?_⟩
  show match chkRow x (a, b, c) fun r g ws => .ok (encSts (along r g ws)) with
    | .ok d => Q1 d
    | .error c => E c
  unfold chkRow chkRg
  rcases chkRow_or q with ⟨g1, q⟩ | ⟨g1, g2, q⟩ | ⟨g1, g2, g3, q⟩ | ⟨r, g, ws, rfl, rfl, rfl, ok, gk, hl, hb, q⟩
  · rw [if_neg (by simp [g1])]; exact q
  · rw [if_pos g1, if_neg (by simp [g2])]; exact q
  · rw [if_pos g1, if_pos g2, if_neg (by simp [g3])]; exact q
  · have e1 : isForF g.enc (topOf r.enc) = true := (rg_enc gk).1
    simp only [room_enc ok, e1, (row_enc hl hb).1, (rg_enc gk).2, (row_enc hl hb).2, if_true]
    exact hq r g ws ok gk hl hb q
theorem sem_run (x : Xc) : ∀ ds Q E, sp_run x ds Q E → t_run x (endD Q E) (startD 4 ds) := by
  rintro _ Q E ⟨⟨a, b, c⟩, rfl, h, q⟩
  unfold t_run wComp iSeq
  walk_at "ds"
  refine in_states_along h q fun r g ws ok gk hl hb q => ?_
  rw [encSts, fSl_l, cutL_tail]
  have hlen := along_length r g (first r) ws
  refine ⟨le1000 (by simp [along, hlen]; omega), ?_⟩
  rw [← List.map_tail]
  replace q : Q (encIs _) := q
  rw [encIs, List.map_map] at q
  refine comp_enc encSt (fun s => .int s.2.1) _ (fun s _ => ⟨_, rfl, fun Q' q' => ?_⟩) q
  show fIx (encSt s) (.int 1) Q'
  rw [fIx_st1]
  exact q'
theorem atI_last? {α : Type} {xs : List α} {x : α} (h : xs.getLast? = some x) : atI xs (-1) = some x := by
  obtain ⟨ys, rfl⟩ := List.getLast?_eq_some_iff.mp h
  exact atI_last
end
end HC
namespace HC
open PySem PySem.Spec PyProof.Rows L2
local macro_rules | `(tactic| walk_at "ds") => `(tactic| simp only [endD, startD, startT, List.map_cons, List.map_nil, List.length_cons, List.length_nil, List.replicate, List.cons_append, List.nil_append, Nat.reduceSub, Nat.reduceAdd, sSeq, sRet, sIf, sNil, sAsg, sUnp, sExpr, sPar2, sPar3, xCons, xNil, xVal, xOwn, bTest, bNot, bAnd, bOr, wVar, wPeek, slot, wC, wOp2, wB, wCons, wNil, wTup, wLst, wIf, wAnd, wOr, wNot, wNeg, wCall, wCallT, wSl, wPart, wNoPart, List.set, ex1, gT_t, gT_st, gT_pr, gC_c, gN_c, gNil_c, sRaise, wChain, sFrz, frz, wIsi, wTabIn, wTabAt,
  fAdd_i, fAdd_s, fAdd_l, fAdd_t, fSub_i, fLt_i, fLe_i, fGt_i, fGe_i, fEq_i, fNe_i, fIs_b, fIsN_b, gMin_2, gMax_2, gLen_l, gLen_t, fIx_rm0, fIx_rm1, fIx_rm2, fIx_st0, fIx_st1, fIx_st2, fIx_rg0, fIx_rg1, fIx_rg2, fSl_rg, fEq_gap, fEq_stay, fEq_late, fEq_look, fEq_lean])
section
variable {Q : D → Prop} {E : Addr → Prop}
theorem in_draw {l : Int} (h1 : 0 < l) (h2 : l < 1073741824) (q : ∀ k, 0 ≤ k → k < l → Q (.int k)) : sp__law_draw [.int l] Q E := ⟨l, rfl, h1, h2, q⟩
theorem in_pick {cs : List D} (h1 : 0 < cs.length) (h2 : cs.length ≤ 1000) (q : ∀ d, d ∈ cs → Q d) : sp__law_pick [.list cs] Q E := ⟨cs, rfl, h1, h2, q⟩
theorem mo_pick : MonoSp 1 sp__law_pick := ⟨fun hq _ ⟨l, e, a, b, h⟩ => ⟨l, e, a, b, fun k h1 => hq _ (h k h1)⟩, fun ⟨l, e, _⟩ => by rw [e]; rfl⟩
theorem sem__law_pick : ∀ ds Q E, sp__law_pick ds Q E → t__law_pick (endD Q E) (startT 2 ds) := by
  rintro _ Q E ⟨cs, rfl, h1, h2, q⟩
  unfold t__law_pick
  walk_at "ds"
  refine in_draw (by omega) (by omega) fun k k0 kl => ?_
  rw [fIx_l]
  have hk : k.toNat < cs.length := by omega
  refine ⟨cs[k.toNat], ?_, q _ (List.getElem_mem hk)⟩
  have := atI_nat (xs := cs) (j := k.toNat) (v := cs[k.toNat]) (List.getElem?_eq_getElem hk)
  rwa [Int.toNat_of_nonneg k0] at this
theorem sem__law_room : ∀ ds Q E, sp__law_room ds Q E → t__law_room (endD Q E) (startT 2 ds) := by
  rintro _ Q E ⟨_, rfl, _, q⟩
  replace q : ∀ d, (∃ r : Rm, r.Ok ∧ d = r.enc) → Q d := q
  unfold t__law_room
  walk_at "ds"
  refine in_draw (by omega) (by omega) fun a a0 a5 => ?_
  walk_at "ds"
  refine in_draw (l := 6 + a + 1) (by omega) (by omega) fun b b0 b5 => ?_
  refine in_draw (by omega) (by omega) fun c c0 c5 => ?_
  refine q _ ⟨⟨6 + a, b, 4 + c⟩, ⟨by show 6 ≤ 6 + a; omega, by show 6 + a ≤ 10; omega, b0, by show b ≤ 6 + a; omega, by show 4 ≤ 4 + c; omega, by show 4 + c ≤ 5; omega⟩, rfl⟩
theorem in_room (q : ∀ r : Rm, r.Ok → Q r.enc) : sp__law_room [] Q E := ⟨(), rfl, trivial, fun d ⟨r, ok, e⟩ => e ▸ q r ok⟩
theorem fIn_four {k : Kd} : fIn (.str k.nm) (.tuple [.str "stay", .str "look"]) Q = Q (.bool k.four) := by
  rw [fIn_t]
  have e : dIn (.str k.nm) [.str "stay", .str "look"] = k.four := by cases k <;> decide +kernel
  rw [e]
  exact propext ⟨fun h => h.2, fun h => ⟨⟨rfl, rfl⟩, h⟩⟩
theorem sem__law_regulator : ∀ ds Q E, sp__law_regulator ds Q E → t__law_regulator (endD Q E) (startT 6 ds) := by
  rintro _ Q E ⟨rm, rfl, ok, q⟩
  replace q : ∀ d, (∃ g : Rg, g.Ok rm.top ∧ d = g.enc) → Q d := q
  have t6 := Rm.Ok.t6 ok
  have t10 := Rm.Ok.t10 ok
  unfold t__law_regulator
  walk_at "ds"
  refine in_draw (by omega) (by omega) fun lo lo0 lol => ?_
  walk_at "ds"
  refine in_pick (by decide) (by decide) fun w hw => ?_
  have hw' : ∃ i : Int, w = .int i ∧ 2 ≤ i ∧ i ≤ 10 := by
    simp only [List.mem_cons, List.mem_nil_iff, or_false] at hw
    rcases hw with rfl | rfl | rfl
    · exact ⟨2, rfl, by omega, by omega⟩
    · exact ⟨4, rfl, by omega, by omega⟩
    · exact ⟨10, rfl, by omega, by omega⟩
  obtain ⟨i, rfl, i2, i10⟩ := hw'
  rw [gMin_2]
  have hm : 0 < (if i < rm.top - lo then i else rm.top - lo) ∧ (if i < rm.top - lo then i else rm.top - lo) ≤ rm.top - lo := by omega
  refine in_draw hm.1 (by omega) fun wd wd0 wdl => ?_
  walk_at "ds"
  refine in_pick (by decide) (by decide) fun k hk => ?_
  have hk' : ∃ d : Kd, k = .str d.nm := by
    simp only [List.mem_cons, List.mem_nil_iff, or_false] at hk
    rcases hk with rfl | rfl | rfl | rfl | rfl
    · exact ⟨.gap, rfl⟩
    · exact ⟨.stay, rfl⟩
    · exact ⟨.late, rfl⟩
    · exact ⟨.look, rfl⟩
    · exact ⟨.lean, rfl⟩
  obtain ⟨d, rfl⟩ := hk'
  rw [fIn_four]
  cases hf : d.four with
  | true =>
    refine ite_t rfl ?_
    refine in_draw (by omega) (by omega) fun t t0 t2 => ?_
    walk_at "ds"
    refine ⟨by decide, q _ ⟨⟨d, lo, lo + (1 + wd), 2 + t⟩, ⟨lo0, by show lo < lo + (1 + wd); omega, by show lo + (1 + wd) ≤ rm.top; omega, fun _ => by show 2 ≤ 2 + t; omega, fun _ => by show 2 + t ≤ 3; omega, fun z => absurd z (by show ¬ d.four = false; rw [hf]; exact Bool.noConfusion)⟩, ?_⟩⟩
    simp [Rg.enc, hf]
  | false =>
    refine ite_f rfl ?_
    refine q _ ⟨⟨d, lo, lo + (1 + wd), 0⟩, ⟨lo0, by show lo < lo + (1 + wd); omega, by show lo + (1 + wd) ≤ rm.top; omega, fun z => absurd z (by show ¬ d.four = true; rw [hf]; exact Bool.noConfusion), fun z => absurd z (by show ¬ d.four = true; rw [hf]; exact Bool.noConfusion), fun _ => rfl⟩, ?_⟩
    simp [Rg.enc, hf]
theorem in_regulator {r : Rm} (ok : r.Ok) (q : ∀ g : Rg, g.Ok r.top → Q g.enc) : sp__law_regulator [r.enc] Q E := ⟨r, rfl, ok, fun d ⟨g, gk, e⟩ => e ▸ q g gk⟩
theorem sem__law_row : ∀ ds Q E, sp__law_row ds Q E → t__law_row (endD Q E) (startT 4 ds) := by
  rintro _ Q E ⟨n, rfl, ⟨n0, n60⟩, q⟩
  replace q : ∀ d, (∃ ws : List Int, (∀ w ∈ ws, 1 ≤ w ∧ w ≤ 3) ∧ (ws.length : Int) ≤ n ∧ d = encIs ws) → Q d := q
  replace n0 : 0 ≤ n := n0
  replace n60 : n ≤ 60 := n60
  unfold t__law_row
  walk_at "ds"
  refine in_draw (by omega) (by omega) fun m m0 mn => ?_
  unfold sWhile
  refine ⟨fun k r => ∃ ws : List Int, (∀ w ∈ ws, 1 ≤ w ∧ w ≤ 3) ∧ ws.length ≤ 100 ∧ k = 100 - ws.length ∧ r = [.tok, .val (.int n), .val (encIs ws), .val (.int m)], ⟨100, [], by simp, by simp, rfl, rfl⟩, ?_⟩
  rintro k r ⟨ws, hw, hl, hk, rfl⟩
  walk_at "ds"
  rw [encIs]
  walk_at "ds"
  by_cases hc : (((ws.map D.int).length : Nat) : Int) < m
  · refine ite_t (decide_eq_true hc) ?_
    rw [List.length_map] at hc
    refine in_draw (by omega) (by omega) fun w w0 w3 => ?_
    refine in_pick (E := E) (by decide) (by decide) fun j hj => ?_
    have hj' : ∃ i : Nat, j = .int i ∧ 1 ≤ i ∧ i ≤ 4 := by
      simp only [List.mem_cons, List.mem_nil_iff, or_false] at hj
      rcases hj with rfl | rfl | rfl | rfl
      · exact ⟨1, rfl, by omega, by omega⟩
      · exact ⟨1, rfl, by omega, by omega⟩
      · exact ⟨2, rfl, by omega, by omega⟩
      · exact ⟨4, rfl, by omega, by omega⟩
    obtain ⟨i, rfl, i1, i4⟩ := hj'
    rw [fMul_l]
    have ei : (i : Int).toNat = i := Int.toNat_natCast i
    rw [ei]
    have ef : ∀ (i : Nat) (d : D), (List.replicate i [d]).flatten = List.replicate i d := fun i d => by
      induction i with
      | zero => rfl
      | succ i ih => rw [List.replicate_succ, List.flatten_cons, ih]; rfl
    rw [ef]
    refine ⟨⟨by omega, by omega, le1000 (by simp only [List.length_cons, List.length_nil]; omega)⟩, ?_⟩
    rw [fAdd_l]
    refine ⟨le1000 (by simp only [List.length_map, List.length_replicate]; omega), ?_⟩
    refine ⟨100 - (ws ++ List.replicate i (1 + w)).length, ?_, ws ++ List.replicate i (1 + w), ?_, ?_, rfl, ?_⟩
    · rw [List.length_append, List.length_replicate]; omega
    · intro z hz
      rcases List.mem_append.mp hz with hz | hz
      · exact hw z hz
      · cases (List.mem_replicate.mp hz).2
        omega
    · rw [List.length_append, List.length_replicate]; omega
    · simp [encIs]
  · refine ite_f (decide_eq_false hc) ?_
    rw [fSl_l, ← Int.toNat_of_nonneg m0, cutL_take]
    refine q _ ⟨ws.take m.toNat, fun w h => hw w (List.mem_of_mem_take h), ?_, by rw [encIs, List.map_take]⟩
    rw [List.length_take]
    omega
theorem in_row {n : Int} (n0 : 0 ≤ n) (n60 : n ≤ 60) (q : ∀ ws : List Int, (∀ w ∈ ws, 1 ≤ w ∧ w ≤ 3) → (ws.length : Int) ≤ n → Q (encIs ws)) : sp__law_row [.int n] Q E := ⟨n, rfl, ⟨n0, n60⟩, fun d ⟨ws, a, b, e⟩ => e ▸ q ws a b⟩
end
end HC
namespace HC
open PySem PySem.Spec PyProof.Rows L2
theorem mo_first_state : MonoSp 1 sp_first_state := mo_spOf fun _ => rfl
theorem mo_warmed : MonoSp 4 sp_warmed := mo_spOf fun _ => rfl
theorem mo_decided : MonoSp 4 sp_decided := mo_spOf fun _ => rfl
theorem mo_set_switch : MonoSp 5 sp_set_switch := mo_spOf fun _ => rfl
theorem mo_step : MonoSp 4 sp_step := mo_spOf fun _ => rfl
theorem mo_is_int : MonoSp 3 sp_is_int := mo_spOf fun _ => rfl
theorem mo_check_number (x : Xc) : MonoSp 3 (sp_check_number x) := mo_spEx fun _ => rfl
theorem mo_check_sight (x : Xc) : MonoSp 1 (sp_check_sight x) := mo_spEx fun _ => rfl
theorem mo_is_room : MonoSp 1 sp_is_room := mo_spOf fun _ => rfl
theorem mo_check_room (x : Xc) : MonoSp 1 (sp_check_room x) := mo_spEx fun _ => rfl
theorem mo_is_weather : MonoSp 1 sp_is_weather := mo_spOf fun _ => rfl
theorem mo_is_row : MonoSp 1 sp_is_row := mo_spOf fun _ => rfl
theorem mo_check_row (x : Xc) : MonoSp 1 (sp_check_row x) := mo_spEx fun _ => rfl
theorem mo_is_for : MonoSp 2 sp_is_for := mo_spOf fun _ => rfl
theorem mo_check_regulator (x : Xc) : MonoSp 2 (sp_check_regulator x) := mo_spEx fun _ => rfl
theorem mo_mark_of : MonoSp 2 sp_mark_of := mo_spOf fun _ => rfl
theorem mo_states_of : MonoSp 3 sp_states_of := mo_spOf fun _ => rfl
theorem mo_states_along (x : Xc) : MonoSp 3 (sp_states_along x) := mo_spEx fun _ => rfl
theorem mo_run (x : Xc) : MonoSp 3 (sp_run x) := mo_spEx fun _ => rfl
theorem mo__law_pick : MonoSp 1 sp__law_pick := mo_pick
theorem mo__law_room : MonoSp 0 sp__law_room := mo_spAny fun _ => rfl
theorem mo__law_regulator : MonoSp 1 sp__law_regulator := mo_spAny fun _ => rfl
theorem mo__law_row : MonoSp 1 sp__law_row := mo_spAny fun _ => rfl
end HC
namespace HC
open PySem PySem.Spec PyProof.Rows L2
mutual
theorem deq_refl : ∀ d : D, d.plain = true → deq d d = true
  | .none, _ => rfl
  | .bool b, _ => by show (b == b) = true; simp
  | .int i, _ => by show (i == i) = true; simp
  | .str x, _ => by show (x == x) = true; simp
  | .list xs, h => deqs_refl xs h
  | .tuple xs, h => deqs_refl xs h
  | .dict _, h => by cases h
  | .tdict _, h => by cases h
  | .exc _, h => by cases h
  | .kdict _, h => by cases h
  | .iobj _ _ _ _ _, h => by cases h
  | .held _ _, h => by cases h
theorem deqs_refl : ∀ ds : List D, D.plains ds = true → PyData.eqvAll (D.pys ds) (D.pys ds) = true
  | [], _ => rfl
  | d :: ds, h => by
    have h' := Bool.and_eq_true_iff.mp (show (d.plain && D.plains ds) = true from h)
    rw [eqvAll_cons, deq_refl d h'.1, deqs_refl ds h'.2]
    rfl
end
section
variable {Q : D → Prop} {E : Addr → Prop}
theorem fNe_same {d e : D} (z : d = e) (h : e.sh 64) (q : Q (.bool false)) : fNe d e Q := by
  subst z
  exact ⟨⟨h, h⟩, by rw [deq_refl _ h.pl]; exact q⟩
theorem fEq_same {d e : D} (z : d = e) (h : e.sh 64) (q : Q (.bool true)) : fEq d e Q := by
  subst z
  exact ⟨⟨h, h⟩, by rw [deq_refl _ h.pl]; exact q⟩
theorem sh_l64 {ds : List D} {n : Nat} (h : ∀ d ∈ ds, d.sh n) (hn : n ≤ 63 := by decide) : (D.list ds).sh 64 := (sh_list h).mono (by omega)
theorem sh_t64 {ds : List D} {n : Nat} (h : ∀ d ∈ ds, d.sh n) (hn : n ≤ 63 := by decide) : (D.tuple ds).sh 64 := (sh_tuple h).mono (by omega)
theorem sh_st (s : Sta) : (encSt s).sh 1 := sh_tuple (n := 0) fun d hd => by
  simp only [List.mem_cons, List.mem_nil_iff, or_false] at hd
  rcases hd with rfl | rfl | rfl <;> exact sh_int' _ _
theorem sh_map {α : Type} {f : α → D} {n : Nat} (h : ∀ a, (f a).sh n) (l : List α) : ∀ d ∈ l.map f, d.sh n := fun d hd => by
  obtain ⟨a, _, rfl⟩ := List.mem_map.mp hd
  exact h a
theorem sh_is (ws : List Int) : (encIs ws).sh 1 := sh_list (sh_map (sh_int' 0) ws)
theorem sh_sts (ss : List Sta) : (encSts ss).sh 2 := sh_list (sh_map sh_st ss)
theorem sh_rm (r : Rm) : r.enc.sh 1 := sh_tuple (n := 0) fun d hd => by
  simp only [List.mem_cons, List.mem_nil_iff, or_false] at hd
  rcases hd with rfl | rfl | rfl <;> exact sh_int' _ _
theorem sh_rg (g : Rg) : g.enc.sh 1 := by
  rw [Rg.enc_eq]
  refine sh_tuple (n := 0) fun d hd => ?_
  cases hf : g.kd.four with
  | true =>
    rw [hf] at hd
    simp only [if_true, List.mem_cons, List.mem_nil_iff, or_false] at hd
    rcases hd with rfl | rfl | rfl | rfl
    · exact sh_str' _ (ok_nm _)
    all_goals exact sh_int' _ _
  | false =>
    rw [hf] at hd
    simp only [Bool.false_eq_true, if_false, List.mem_cons, List.mem_nil_iff, or_false] at hd
    rcases hd with rfl | rfl | rfl
    · exact sh_str' _ (ok_nm _)
    all_goals exact sh_int' _ _
theorem sh_64 {d : D} {n : Nat} (h : d.sh n) (hn : n ≤ 64 := by decide) : d.sh 64 := h.mono hn
end
structure StOk (r : Rm) (g : Rg) (s : Sta) : Prop where
  h0 : 0 ≤ s.1
  ht : s.1 ≤ r.top
  sw : s.2.1 = 0 ∨ s.2.1 = 1
  m0 : 0 ≤ s.2.2
  lean : g.kd = .lean → s.2.2 ≤ g.hi - g.lo - 1
  four : g.kd.four = true → s.2.2 ≤ g.tk - 1
  zero : g.kd = .gap ∨ g.kd = .late → s.2.2 = 0
theorem first_ok {r : Rm} {g : Rg} (h : r.Ok) (k : g.Ok r.top) : StOk r g (first r) := by
  refine ⟨h.b0, h.bt, .inl rfl, Int.le_refl _, fun _ => ?_, fun f => ?_, fun _ => rfl⟩
  · have := k.lh
    show 0 ≤ g.hi - g.lo - 1
    omega
  · have := k.k2 f
    show 0 ≤ g.tk - 1
    omega
theorem decid_sw {a b c s : Int} (h : s = 0 ∨ s = 1) : decid a b c s = 0 ∨ decid a b c s = 1 := by
  unfold decid
  split
  · exact .inr rfl
  · split
    · exact .inl rfl
    · exact h
theorem tick_ok {r : Rm} {g : Rg} {s : Sta} {w : Int} (h : r.Ok) (k : g.Ok r.top) (o : StOk r g s) : StOk r g (tick r g s w) := by
  have t6 := h.t6
  have lh := k.lh
  have m0 := o.m0
  have sw := o.sw
  have w0 : 0 ≤ warm r s.1 s.2.1 w ∧ warm r s.1 s.2.1 w ≤ r.top := by unfold warm; omega
  have main : ((setSw g s.1 (warm r s.1 s.2.1 w) s.2.1 s.2.2).1 = 0 ∨ (setSw g s.1 (warm r s.1 s.2.1 w) s.2.1 s.2.2).1 = 1) ∧ 0 ≤ (setSw g s.1 (warm r s.1 s.2.1 w) s.2.1 s.2.2).2 ∧
      (g.kd = .lean → (setSw g s.1 (warm r s.1 s.2.1 w) s.2.1 s.2.2).2 ≤ g.hi - g.lo - 1) ∧ (g.kd.four = true → (setSw g s.1 (warm r s.1 s.2.1 w) s.2.1 s.2.2).2 ≤ g.tk - 1) ∧
      (g.kd = .gap ∨ g.kd = .late → (setSw g s.1 (warm r s.1 s.2.1 w) s.2.1 s.2.2).2 = 0) := by
    unfold setSw
    cases hk : g.kd with
    | gap => exact ⟨decid_sw sw, Int.le_refl _, fun z => (by cases z), fun z => (by cases z), fun _ => rfl⟩
    | late => exact ⟨decid_sw sw, Int.le_refl _, fun z => (by cases z), fun z => (by cases z), fun _ => rfl⟩
    | lean =>
      have ol := o.lean hk
      refine ⟨decid_sw sw, ?_, fun _ => ?_, fun z => (by cases z), fun z => (by rcases z with z | z <;> cases z)⟩
      · show 0 ≤ (if decid (warm r s.1 s.2.1 w) g.lo (g.hi - s.2.2) s.2.1 = 1 then min (s.2.2 + 1) (g.hi - g.lo - 1) else 0 : Int)
        omega
      · show (if decid (warm r s.1 s.2.1 w) g.lo (g.hi - s.2.2) s.2.1 = 1 then min (s.2.2 + 1) (g.hi - g.lo - 1) else 0 : Int) ≤ _
        omega
    | stay =>
      have f : g.kd.four = true := by rw [hk]; rfl
      have o4 := o.four f
      have k2 := k.k2 f
      by_cases hm : 0 < s.2.2
      · simp only [hm, if_true]
        exact ⟨sw, by omega, fun z => (by cases z), fun _ => by omega, fun z => (by rcases z with z | z <;> cases z)⟩
      · simp only [hm, if_false]
        refine ⟨decid_sw sw, ?_, fun z => (by cases z), fun _ => ?_, fun z => (by rcases z with z | z <;> cases z)⟩
        · split <;> omega
        · split <;> omega
    | look =>
      have f : g.kd.four = true := by rw [hk]; rfl
      have o4 := o.four f
      have k2 := k.k2 f
      by_cases hm : 0 < s.2.2
      · simp only [hm, if_true]
        exact ⟨sw, by omega, fun z => (by cases z), fun _ => by omega, fun z => (by rcases z with z | z <;> cases z)⟩
      · simp only [hm, if_false]
        exact ⟨decid_sw sw, by omega, fun z => (by cases z), fun _ => by omega, fun z => (by rcases z with z | z <;> cases z)⟩
  obtain ⟨m1, m2, m3, m4, m5⟩ := main
  exact ⟨w0.1, w0.2, m1, m2, m3, m4, m5⟩
end HC
namespace HC
open PySem PySem.Spec PyProof.Rows L2
section
variable {x : Xc} {r : Rm} {g : Rg} {ws : List Int} {Q : D → Prop} {E : Addr → Prop}
theorem pl_rm : r.enc.plain = true := (sh_rm r).pl
theorem pl_rg : g.enc.plain = true := (sh_rg g).pl
theorem pl_is : (encIs ws).plain = true := (sh_is ws).pl
theorem spEx_ok {α : Type} {enc : α → List D} {pre : α → Prop} {res : α → Except Addr D} {a : α} {d : D} (p : pre a) (e : res a = .ok d) (q : Q d) : spEx enc pre res (enc a) Q E := ⟨a, rfl, p, by rw [e]; exact q⟩
structure Given (r : Rm) (g : Rg) (ws : List Int) : Prop where
  ok : r.Ok
  gk : g.Ok r.top
  hl : ws.length ≤ 60
  hb : ∀ w ∈ ws, 1 ≤ w ∧ w ≤ 3
theorem Given.chk (G : Given r g ws) {k : Rm → Rg → List Int → Ex} : chkRow x (r.enc, g.enc, encIs ws) k = k r g ws := by
  unfold chkRow chkRg
  have e1 : isForF g.enc (topOf r.enc) = true := (rg_enc G.gk).1
  simp only [room_enc G.ok, e1, (row_enc G.hl G.hb).1, (rg_enc G.gk).2, (row_enc G.hl G.hb).2, if_true]
  rfl
theorem Given.pl (G : Given r g ws) : pl3 (r.enc, g.enc, encIs ws) := ⟨pl_rm, pl_rg, pl_is⟩
theorem at_states_along (G : Given r g ws) (q : Q (encSts (along r g ws))) : sp_states_along x [r.enc, g.enc, encIs ws] Q E := spEx_ok (a := (r.enc, g.enc, encIs ws)) G.pl G.chk q
theorem at_run (G : Given r g ws) (q : Q (encIs ((along r g ws).tail.map (·.2.1)))) : sp_run x [r.enc, g.enc, encIs ws] Q E := spEx_ok (a := (r.enc, g.enc, encIs ws)) G.pl G.chk q
theorem Rg.Ok.mono {t u : Int} (k : g.Ok t) (h : t ≤ u) : g.Ok u := ⟨k.l0, k.lh, Int.le_trans k.ht h, k.k2, k.k3, k.k0⟩
end
end HC
namespace HC
open PySem PySem.Spec PyProof.Rows L2
section
variable {α β : Type} [DecidableEq α]
def lkp : List (α × β) → α → Option β
  | [], _ => none
  | (x, b) :: r, a => if x = a then some b else lkp r a
def putL (l : List (α × β)) (a : α) (b : β) : List (α × β) := if (lkp l a).isSome = true then l.map (fun p => if p.1 = a then (p.1, b) else p) else l ++ [(a, b)]
theorem lkp_none {l : List (α × β)} {a : α} : lkp l a = none ↔ a ∉ l.map (·.1) := by
  induction l with
  | nil => simp [lkp]
  | cons p l ih =>
    obtain ⟨x, b⟩ := p
    rw [lkp]
    by_cases h : x = a
    · rw [if_pos h]; simp [h]
    · rw [if_neg h, ih]
      have : ¬ a = x := fun z => h z.symm
      simp [this]
theorem lkp_some {l : List (α × β)} {a : α} : (lkp l a).isSome = decide (a ∈ l.map (·.1)) := by
  by_cases h : a ∈ l.map (·.1)
  · rw [decide_eq_true h]
    cases e : lkp l a with
    | none => exact absurd h (lkp_none.mp e)
    | some b => rfl
  · rw [decide_eq_false h, lkp_none.mpr h]
    rfl
theorem lkp_mem {l : List (α × β)} {a : α} {b : β} (h : lkp l a = some b) : (a, b) ∈ l := by
  induction l with
  | nil => cases h
  | cons p l ih =>
    obtain ⟨x, c⟩ := p
    rw [lkp] at h
    by_cases e : x = a
    · rw [if_pos e] at h
      cases h
      subst e
      simp
    · rw [if_neg e] at h
      exact List.mem_cons_of_mem _ (ih h)
theorem lkp_of {l : List (α × β)} {a : α} {b : β} (hn : (l.map (·.1)).Nodup) (h : (a, b) ∈ l) : lkp l a = some b := by
  induction l with
  | nil => cases h
  | cons p l ih =>
    obtain ⟨x, c⟩ := p
    rw [List.map_cons, List.nodup_cons] at hn
    rw [lkp]
    rcases List.mem_cons.mp h with e | h
    · cases e; rw [if_pos rfl]
    · have : ¬ x = a := fun z => hn.1 (by rw [z]; exact List.mem_map.mpr ⟨_, h, rfl⟩)
      rw [if_neg this]
      exact ih hn.2 h
theorem putL_new {l : List (α × β)} {a : α} {b : β} (h : a ∉ l.map (·.1)) : putL l a b = l ++ [(a, b)] := by
  unfold putL
  rw [lkp_none.mpr h]
  rfl
variable {f : α → NestedKey} {g : β → D}
def encL (f : α → NestedKey) (g : β → D) (l : List (α × β)) : List (NestedKey × D) := l.map fun p => (f p.1, g p.2)
theorem get_encL (hf : ∀ a b, f a = f b → a = b) (l : List (α × β)) (a : α) : kvGet (encL f g l) (f a) = (lkp l a).map g := by
  induction l with
  | nil => rfl
  | cons p l ih =>
    obtain ⟨x, b⟩ := p
    show (if f x = f a then some (g b) else kvGet (encL f g l) (f a)) = _
    rw [lkp]
    by_cases h : x = a
    · rw [if_pos h, if_pos (by rw [h])]; rfl
    · rw [if_neg h, if_neg (fun z => h (hf _ _ z)), ih]
theorem put_encL (hf : ∀ a b, f a = f b → a = b) (l : List (α × β)) (a : α) (b : β) : kvPut (encL f g l) (f a) (g b) = encL f g (putL l a b) := by
  unfold kvPut putL
  rw [get_encL hf, Option.isSome_map]
  split
  · unfold encL
    rw [List.map_map, List.map_map]
    refine List.map_congr_left fun p _ => ?_
    show (if f p.1 = f a then (f p.1, g b) else (f p.1, g p.2)) = _
    by_cases h : p.1 = a
    · rw [if_pos (by rw [h])]
      show _ = (f (if p.1 = a then (p.1, b) else p).1, g (if p.1 = a then (p.1, b) else p).2)
      rw [if_pos h]
    · rw [if_neg (fun z => h (hf _ _ z))]
      show _ = (f (if p.1 = a then (p.1, b) else p).1, g (if p.1 = a then (p.1, b) else p).2)
      rw [if_neg h]
  · unfold encL
    rw [List.map_append]
    rfl
end
def stK (s : Sta) : NestedKey := .tup [.num s.1, .num s.2.1, .num s.2.2]
theorem stK_inj (a b : Sta) (h : stK a = stK b) : a = b := by
  obtain ⟨a1, a2, a3⟩ := a
  obtain ⟨b1, b2, b3⟩ := b
  simp only [stK, NestedKey.tup.injEq, List.cons.injEq, NestedKey.num.injEq, and_true] at h
  obtain ⟨h1, h2, h3⟩ := h
  subst h1 h2 h3
  rfl
theorem stK_depth (s : Sta) : (stK s).depth ≤ 8 := by show 1 ≤ 8; decide
section
variable {β : Type} {g : β → D} {l : List (Sta × β)} {s : Sta} {Q : D → Prop}
def encSd (g : β → D) (l : List (Sta × β)) : D := .tdict (encL stK g l)
theorem fIx_sd {b : β} (h : lkp l s = some b) (q : Q (g b)) : fIx (encSd g l) (encSt s) Q := ⟨_, g b, rfl, stK_depth s, by rw [show NestedKey.tup _ = stK s from rfl, get_encL stK_inj, h]; rfl, q⟩
theorem fIn_sd (q : Q (.bool (lkp l s).isSome)) : fIn (encSt s) (encSd g l) Q := ⟨_, rfl, stK_depth s, by
  show Q (.bool (kvGet (encL stK g l) (stK s)).isSome)
  rw [get_encL stK_inj, Option.isSome_map]
  exact q⟩
theorem fNotIn_sd (q : Q (.bool (!(lkp l s).isSome))) : fNotIn (encSt s) (encSd g l) Q := ⟨_, rfl, stK_depth s, by
  show Q (.bool (!(kvGet (encL stK g l) (stK s)).isSome))
  rw [get_encL stK_inj, Option.isSome_map]
  exact q⟩
theorem keys_sd : (encL stK g l).map (fun p => keyD p.1) = (l.map (·.1)).map encSt := by
  unfold encL
  rw [List.map_map, List.map_map]
  rfl
theorem gLen_sd : gLen [encSd g l] Q = Q (.int l.length) := by
  show Q (.int (encL stK g l).length) = _
  unfold encL
  rw [List.length_map]
end
abbrev Rows := List (Sta × List Int)
def encRows (l : Rows) : D := encSd encIs l
def visit1 (r : Rm) (g : Rg) (p : Sta × List Int) (acc : Rows) (w : Int) : Rows := if (lkp acc (tick r g p.1 w)).isSome = true then acc else acc ++ [(tick r g p.1 w, p.2 ++ [w])]
def visit (r : Rm) (g : Rg) (p : Sta × List Int) (acc : Rows) : Rows := visit1 r g p (visit1 r g p (visit1 r g p acc 1) 2) 3
def bfs (r : Rm) (g : Rg) : Nat → Nat → Rows → Rows
  | 0, _, acc => acc
  | n + 1, here, acc => match acc[here]? with
    | none => acc
    | some p => bfs r g n (here + 1) (visit r g p acc)
def rowsL (r : Rm) (g : Rg) : Rows := bfs r g 300 0 [(first r, [])]
def ds_WEATHERS : List D := [.int 1, .int 2, .int 3]
def d_WEATHERS : D := .tuple ds_WEATHERS
def sp_rows_of : SpD := spOf (fun a : Rm × Rg => [a.1.enc, a.2.enc]) (fun a => a.1.Ok ∧ a.2.Ok a.1.top) (fun a => encRows (rowsL a.1 a.2))
theorem mo_rows_of : MonoSp 2 sp_rows_of := mo_spOf fun _ => rfl
end HC
namespace HC
open PySem PySem.Spec PyProof.Rows L2
def t_rows_of : TSD :=
  sSeq (sPar3 2 3 4 (xCons (xOwn (wDisp1 (wCall sp_first_state (wCons (wVar 0) wNil)) (wLst wNil))) (xCons (xOwn (wLst (wCons (wCall sp_first_state (wCons (wVar 0) wNil)) wNil))) (xCons (xVal (wC (.int 0))) xNil))))
    (sSeq (sWhile (bTest (wOp2 fLt (wPeek 4) (wB gLen (wCons (wPeek 3) wNil)))) (sSeq (sFor (iSeq (wC d_WEATHERS)) (gN 5) (sSeq (sAsg 6 (xVal (wCall sp_step (wCons (wVar 0) (wCons (wVar 1) (wCons (wOp2 fIx (wPeek 3) (wPeek 4)) (wCons (wVar 5) wNil)))))))
    (sIf (bTest (wOp2 fNotIn (wPeek 6) (wPeek 2))) (sSeq (sSet 2 (wOp2 fAdd (wOp2 fIx (wPeek 2) (wOp2 fIx (wPeek 3) (wPeek 4))) (wLst (wCons (wVar 5) wNil))) (wPeek 6))
    (sApp 3 (wVar 6))) sNil)))
    (sAug 4 (wC (.int 1)))))
    (sFrz 2 (sRet (wVar 2))))
end HC
namespace HC
open PySem PySem.Spec PyProof.Rows L2
theorem nodup_lt : ∀ (n : Nat) (l : List Nat), l.Nodup → (∀ x ∈ l, x < n) → l.length ≤ n
  | 0, l, _, h => by
    cases l with
    | nil => exact Nat.le_refl _
    | cons x _ => exact absurd (h x (by simp)) (Nat.not_lt_zero _)
  | n + 1, l, hn, h => by
    have h1 : (l.filter fun x => decide (x ≠ n)).length ≤ n := nodup_lt n _ (hn.filter _) fun x hx => by
      have := List.mem_filter.mp hx
      have h2 := h x this.1
      have h3 : x ≠ n := by simpa using this.2
      omega
    have h2 : l.length ≤ (l.filter fun x => decide (x ≠ n)).length + 1 := by
      clear h h1
      induction l with
      | nil => simp
      | cons y l ih =>
        rw [List.nodup_cons] at hn
        by_cases e : y = n
        · subst e
          rw [List.filter_cons_of_neg (by simp)]
          have : l.filter (fun x => decide (x ≠ y)) = l := List.filter_eq_self.mpr fun x hx => by
            have : x ≠ y := fun z => hn.1 (z ▸ hx)
            simpa using this
          rw [this]
          exact Nat.le_refl _
        · rw [List.filter_cons_of_pos (by simpa using e), List.length_cons, List.length_cons]
          have := ih hn.2
          omega
    omega
def codeSt (s : Sta) : Nat := s.1.toNat * 22 + s.2.1.toNat * 11 + s.2.2.toNat
structure Tiny (s : Sta) : Prop where
  h0 : 0 ≤ s.1
  h10 : s.1 ≤ 10
  sw0 : 0 ≤ s.2.1
  sw1 : s.2.1 ≤ 1
  m0 : 0 ≤ s.2.2
  m10 : s.2.2 ≤ 10
theorem StOk.tiny {r : Rm} {g : Rg} {s : Sta} (h : r.Ok) (k : g.Ok r.top) (o : StOk r g s) : Tiny s := by
  have t10 := h.t10
  have ht := o.ht
  have g1 := k.ht
  have g2 := k.l0
  refine ⟨o.h0, by omega, ?_, ?_, o.m0, ?_⟩
  · rcases o.sw with e | e <;> omega
  · rcases o.sw with e | e <;> omega
  · by_cases hf : g.kd.four = true
    · have := o.four hf
      have := k.k3 hf
      omega
    · cases hk : g.kd with
      | lean => have := o.lean hk; omega
      | gap => have := o.zero (.inl hk); omega
      | late => have := o.zero (.inr hk); omega
      | stay => rw [hk] at hf; exact absurd rfl hf
      | look => rw [hk] at hf; exact absurd rfl hf
theorem codeSt_inj {s t : Sta} (hs : Tiny s) (ht : Tiny t) (h : codeSt s = codeSt t) : s = t := by
  obtain ⟨a1, a2, a3⟩ := s
  obtain ⟨b1, b2, b3⟩ := t
  obtain ⟨h1, h2, h3, h4, h5, h6⟩ := hs
  obtain ⟨g1, g2, g3, g4, g5, g6⟩ := ht
  simp only [codeSt] at *
  have e1 : a1 = b1 := by omega
  have e2 : a2 = b2 := by omega
  have e3 : a3 = b3 := by omega
  subst e1 e2 e3
  rfl
theorem codeSt_lt {s : Sta} (hs : Tiny s) : codeSt s < 242 := by
  obtain ⟨h1, h2, h3, h4, h5, h6⟩ := hs
  unfold codeSt
  omega
theorem few_states {l : List Sta} (hn : l.Nodup) (h : ∀ s ∈ l, Tiny s) : l.length ≤ 242 := by
  have := nodup_lt 242 (l.map codeSt) ?_ fun x hx => ?_
  · rwa [List.length_map] at this
  · induction l with
    | nil => simp
    | cons a l ih =>
      rw [List.nodup_cons] at hn
      rw [List.map_cons, List.nodup_cons]
      refine ⟨fun z => ?_, ih hn.2 fun s hs => h s (List.mem_cons_of_mem _ hs)⟩
      obtain ⟨b, hb, e⟩ := List.mem_map.mp z
      have := codeSt_inj (h b (List.mem_cons_of_mem _ hb)) (h a (by simp)) e
      exact hn.1 (this ▸ hb)
  · obtain ⟨s, hs, rfl⟩ := List.mem_map.mp hx
    exact codeSt_lt (h s hs)
structure RowsOk (r : Rm) (g : Rg) (l : Rows) : Prop where
  nd : (l.map (·.1)).Nodup
  ok : ∀ p ∈ l, StOk r g p.1
theorem RowsOk.len {r : Rm} {g : Rg} {l : Rows} (h : r.Ok) (k : g.Ok r.top) (o : RowsOk r g l) : l.length ≤ 242 := by
  have := few_states o.nd fun s hs => by
    obtain ⟨p, hp, rfl⟩ := List.mem_map.mp hs
    exact (o.ok p hp).tiny h k
  rwa [List.length_map] at this
theorem visit1_ok {r : Rm} {g : Rg} {l : Rows} {p : Sta × List Int} {w : Int} (h : r.Ok) (k : g.Ok r.top) (o : RowsOk r g l) (hp : StOk r g p.1) : RowsOk r g (visit1 r g p l w) := by
  unfold visit1
  split
  · exact o
  · rename_i hz
    have hn : lkp l (tick r g p.1 w) = none := by
      cases e : lkp l (tick r g p.1 w) with
      | none => rfl
      | some b => rw [e] at hz; exact absurd rfl hz
    refine ⟨?_, fun q hq => ?_⟩
    · rw [List.map_append, List.nodup_append]
      refine ⟨o.nd, by simp, fun a ha b hb z => ?_⟩
      simp at hb
      rw [z, hb] at ha
      exact lkp_none.mp hn ha
    · rcases List.mem_append.mp hq with hq | hq
      · exact o.ok q hq
      · rw [List.mem_singleton.mp hq]
        exact tick_ok h k hp
theorem visit1_pre {r : Rm} {g : Rg} {l : Rows} {p : Sta × List Int} {w : Int} : ∃ m, visit1 r g p l w = l ++ m := by
  unfold visit1
  split
  · exact ⟨[], by simp⟩
  · exact ⟨_, rfl⟩
theorem visit_pre {r : Rm} {g : Rg} {l : Rows} {p : Sta × List Int} : ∃ m, visit r g p l = l ++ m := by
  unfold visit
  obtain ⟨a, ea⟩ := visit1_pre (r := r) (g := g) (l := l) (p := p) (w := 1)
  rw [ea]
  obtain ⟨b, eb⟩ := visit1_pre (r := r) (g := g) (l := l ++ a) (p := p) (w := 2)
  rw [eb]
  obtain ⟨c, ec⟩ := visit1_pre (r := r) (g := g) (l := l ++ a ++ b) (p := p) (w := 3)
  rw [ec]
  exact ⟨a ++ b ++ c, by simp⟩
local macro_rules | `(tactic| walk_at "ds") => `(tactic| try simp only [endD, startD, startT, List.map_cons, List.map_nil, List.length_cons, List.length_nil, List.replicate, List.cons_append, List.nil_append, Nat.reduceSub, Nat.reduceAdd, sSeq, sRet, sIf, sNil, sAsg, sUnp, sExpr, sPar2, sPar3, xCons, xNil, xVal, xOwn, bTest, bNot, bAnd, bOr, wVar, wPeek, slot, wC, wOp2, wB, wCons, wNil, wTup, wLst, wIf, wAnd, wOr, wNot, wNeg, wCall, wCallT, wSl, wPart, wNoPart, List.set, ex1, gT_t, gT_st, gT_pr, gC_c, gN_c, gNil_c, sRaise, wChain, sFrz, frz, wIsi, wTabIn, wTabAt, sAug, wDisp1, wNewT, Bool.false_eq_true, if_false, if_true,
  fAdd_i, fAdd_s, fAdd_l, fAdd_t, fSub_i, fLt_i, fLe_i, fGt_i, fGe_i, fEq_i, fNe_i, fIs_b, fIsN_b, gMin_2, gMax_2, gLen_l, gLen_t, fIx_rm0, fIx_rm1, fIx_rm2, fIx_st0, fIx_st1, fIx_st2, fIx_rg0, fIx_rg1, fIx_rg2, fSl_rg, fEq_gap, fEq_stay, fEq_late, fEq_look, fEq_lean])
theorem sSet_td {i : Nat} {t tj : TP} {e : En} {r : Env} {kvs : List (NestedKey × D)} (h : slot r i = .own (.tdict kvs)) (q : t r (fun d => tj r (fun j => ∃ ks, j = .tuple (keysD ks) ∧ (NestedKey.tup ks).depth ≤ 8 ∧ kvs.length < sizeLine ∧ e.nx (r.set i (.own (.tdict (kvPut kvs (.tup ks) d))))) (e.ex r)) (e.ex r)) : sSet i t tj e r := by
  unfold sSet
  rw [h]
  exact q
theorem put_sd {β : Type} {g : β → D} {l : List (Sta × β)} {s : Sta} {b : β} {ks : List NestedKey} (h : ks = [.num s.1, .num s.2.1, .num s.2.2]) : D.tdict (kvPut (encL stK g l) (.tup ks) (g b)) = encSd g (putL l s b) := by
  subst h
  exact congrArg D.tdict (put_encL stK_inj l s b)
theorem len_sd {β : Type} {g : β → D} {l : List (Sta × β)} (hl : l.length < 1000) : (encL stK g l).length < sizeLine := by
  unfold encL
  rw [List.length_map]
  exact small1000 (by omega)
def envR (r : Rm) (g : Rg) (l : Rows) (here : Nat) (a b : Sl) : Env := [.val r.enc, .val g.enc, .own (encRows l), .own (.list ((l.map (·.1)).map encSt)), .val (.int here), a, b]
def bodyR : TSD := sSeq (sAsg 6 (xVal (wCall sp_step (wCons (wVar 0) (wCons (wVar 1) (wCons (wOp2 fIx (wPeek 3) (wPeek 4)) (wCons (wVar 5) wNil)))))))
    (sIf (bTest (wOp2 fNotIn (wPeek 6) (wPeek 2))) (sSeq (sSet 2 (wOp2 fAdd (wOp2 fIx (wPeek 2) (wOp2 fIx (wPeek 3) (wPeek 4))) (wLst (wCons (wVar 5) wNil))) (wPeek 6))
    (sApp 3 (wVar 6))) sNil)
theorem body_rows {r : Rm} {g : Rg} {l : Rows} {here : Nat} {p : Sta × List Int} {w : Int} {b : Sl} {e : En} (hl : l.length ≤ 999) (hp : l[here]? = some p) (hn : (l.map (·.1)).Nodup) (hr : p.2.length ≤ 998)
    (q : ∀ b, e.nx (envR r g (visit1 r g p l w) here (.val (.int w)) b)) : bodyR e (envR r g l here (.val (.int w)) b) := by
  have hat : atI ((l.map (·.1)).map encSt) (here : Int) = some (encSt p.1) := atI_nat (by rw [List.map_map, List.getElem?_map, hp]; rfl)
  have hlk : lkp l p.1 = some p.2 := lkp_of hn (List.mem_of_getElem? hp)
  unfold bodyR envR
  walk_at "ds"
  rw [fIx_l]
  refine ⟨_, hat, in_step ?_⟩
  walk_at "ds"
  refine fNotIn_sd ?_
  cases hz : (lkp l (tick r g p.1 w)).isSome with
  | true =>
    have := q (.val (encSt (tick r g p.1 w)))
    unfold visit1 at this
    rw [if_pos hz] at this
    exact this
  | false =>
    have hnot : tick r g p.1 w ∉ l.map (·.1) := by
      apply lkp_none.mp
      cases e : lkp l (tick r g p.1 w) with
      | none => rfl
      | some b => rw [e] at hz; cases hz
    have := q (.val (encSt (tick r g p.1 w)))
    unfold visit1 at this
    rw [if_neg (by rw [hz]; exact Bool.false_ne_true)] at this
    simp only [Bool.not_false, if_true]
    refine sSet_td (kvs := encL stK encIs l) rfl ?_
    walk_at "ds"
    rw [fIx_l]
    refine ⟨_, hat, fIx_sd hlk ?_⟩
    refine ⟨le1000 (by rw [List.length_map]; show p.2.length + 1 ≤ 1000; omega), ?_⟩
    have e2 : D.list (p.2.map D.int ++ [D.int w]) = encIs (p.2 ++ [w]) := by rw [encIs, List.map_append]; rfl
    rw [e2]
    refine ⟨_, rfl, stK_depth _, len_sd (by omega), ?_⟩
    rw [put_sd (g := encIs) (l := l) (s := tick r g p.1 w) (b := p.2 ++ [w]) rfl]
    unfold sApp
    walk_at "ds"
    refine ⟨small1000 (by rw [List.length_map, List.length_map]; omega), ?_⟩
    rw [putL_new hnot]
    unfold envR encRows at this
    rw [List.map_append, List.map_append] at this
    exact this
theorem sem_rows_of : ∀ ds Q E, sp_rows_of ds Q E → t_rows_of (endD Q E) (startD 7 ds) := by
  rintro _ Q E ⟨⟨r, g⟩, rfl, ⟨ok, gk⟩, q⟩
  replace ok : r.Ok := ok
  replace gk : g.Ok r.top := gk
  replace q : Q (encRows (rowsL r g)) := q
  unfold t_rows_of
  walk_at "ds"
  refine in_first ⟨[.num r.beg, .num 0, .num 0], rfl, stK_depth (first r), in_first ?_⟩
  unfold sWhile
  refine ⟨fun m env => ∃ (l : Rows) (here : Nat) (a b : Sl), m = 243 - here ∧ here ≤ l.length ∧ RowsOk r g l ∧ (∀ p ∈ l, p.2.length ≤ l.length) ∧ bfs r g (300 - here) here l = rowsL r g ∧ env = envR r g l here a b,
    ⟨243, [(first r, [])], 0, .un, .un, rfl, by simp, ⟨by simp, fun p hp => by rw [List.mem_singleton.mp hp]; exact first_ok ok gk⟩, by simp, rfl, rfl⟩, ?_⟩
  rintro m env ⟨l, here, a, b, hm, hh, ro, hlen, hb, rfl⟩
  have hl := ro.len ok gk
  unfold envR
  walk_at "ds"
  rw [List.length_map, List.length_map]
  by_cases hc : here < l.length
  · refine ite_t (decide_eq_true (by omega)) ?_
    obtain ⟨p, hp⟩ : ∃ p, l[here]? = some p := ⟨_, List.getElem?_eq_getElem hc⟩
    have pm := List.mem_of_getElem? hp
    have pok := ro.ok p pm
    have plen := hlen p pm
    have r1 := visit1_ok (w := 1) ok gk ro pok
    have r2 := visit1_ok (w := 2) ok gk r1 pok
    have r3 := visit1_ok (w := 3) ok gk r2 pok
    have l1 := r1.len ok gk
    have l2 := r2.len ok gk
    have ext : ∀ {l' : Rows} {w : Int}, l'[here]? = some p → (visit1 r g p l' w)[here]? = some p := fun {l' w} h => by
      obtain ⟨m, e⟩ := visit1_pre (r := r) (g := g) (l := l') (p := p) (w := w)
      rw [e, List.getElem?_append_left (List.getElem?_eq_some_iff.mp h).1]
      exact h
    have hp1 := ext (w := 1) hp
    have hp2 := ext (w := 2) hp1
    have grow : ∀ {l' : Rows} {w : Int}, l'.length ≤ (visit1 r g p l' w).length := fun {l' w} => by
      obtain ⟨m, e⟩ := visit1_pre (r := r) (g := g) (l := l') (p := p) (w := w)
      rw [e, List.length_append]
      omega
    have g1 := grow (l' := l) (w := 1)
    have g2 := grow (l' := visit1 r g p l 1) (w := 2)
    have g3 := grow (l' := visit1 r g p (visit1 r g p l 1) 2) (w := 3)
    have lens : ∀ {l' : Rows} {w : Int}, (∀ q ∈ l', q.2.length ≤ l'.length) → p ∈ l' → ∀ q ∈ visit1 r g p l' w, q.2.length ≤ (visit1 r g p l' w).length := fun {l' w} h hm q hq => by
      unfold visit1 at hq ⊢
      split at hq
      · rename_i hz
        rw [if_pos hz]
        exact h q hq
      · rename_i hz
        rw [if_neg hz, List.length_append]
        rcases List.mem_append.mp hq with hq | hq
        · have := h q hq
          omega
        · rw [List.mem_singleton.mp hq, List.length_append]
          have := h p hm
          simp only [List.length_cons, List.length_nil]
          omega
    have m1 := List.mem_of_getElem? hp1
    have m2 := List.mem_of_getElem? hp2
    have e1 := lens (w := 1) hlen pm
    have e2 := lens (w := 2) e1 m1
    have e3 := lens (w := 3) e2 m2
    refine ⟨envR r g l here (.val (.int 1)) b, rfl, ?_⟩
    refine body_rows (by omega) hp ro.nd (by omega) fun b1 => ?_
    refine ⟨envR r g (visit1 r g p l 1) here (.val (.int 2)) b1, rfl, ?_⟩
    refine body_rows (by omega) hp1 r1.nd (by omega) fun b2 => ?_
    refine ⟨envR r g (visit1 r g p (visit1 r g p l 1) 2) here (.val (.int 3)) b2, rfl, ?_⟩
    refine body_rows (by omega) hp2 r2.nd (by omega) fun b3 => ?_
    refine ⟨243 - (here + 1), by omega, visit r g p l, here + 1, .val (.int 3), b3, rfl, ?_, r3, e3, ?_, ?_⟩
    · show here + 1 ≤ (visit1 r g p (visit1 r g p (visit1 r g p l 1) 2) 3).length
      omega
    · rw [← hb]
      obtain ⟨n, hn⟩ : ∃ n, 300 - here = n + 1 := ⟨299 - here, by omega⟩
      have hn2 : 300 - (here + 1) = n := by omega
      rw [hn, hn2, bfs, hp]
    · rfl
  · refine ite_f (decide_eq_false (by omega)) ?_
    have : l = rowsL r g := by
      rw [← hb]
      obtain ⟨n, hn⟩ : ∃ n, 300 - here = n + 1 := ⟨299 - here, by omega⟩
      rw [hn, bfs, List.getElem?_eq_none (by omega)]
    rw [this]
    exact q
end HC
namespace HC
open PySem PySem.Spec PyProof.Rows L2
def famT : List D → Int → Bool := fun ds top => decide (1 ≤ ds.length) && (decide (ds.length ≤ 8) && ds.all fun d => isForF d top)
def isFamF : D → Int → Bool
  | .list ds, top => famT ds top
  | _, _ => false
def chkFam (x : Xc) (a b : D) (k : Ex) : Ex := if isRoomF a = true then (if isFamF b (topOf a) = true then k else .error x.badRegulator) else .error x.badRoom
def sp_check_family (x : Xc) : SpD := spEx (fun a : D × D => [a.1, a.2]) (fun a => a.1.plain = true ∧ a.2.plain = true) (fun a => chkFam x a.1 a.2 (.ok .none))
theorem mo_check_family (x : Xc) : MonoSp 2 (sp_check_family x) := mo_spEx fun _ => rfl
def eqAtD (ds : List D) (i j : Nat) : Bool := match ds[i]?, ds[j]? with
  | some a, some b => deq a b
  | _, _ => false
def firstD (ds : List D) (i : Nat) : Bool := match ds[i]? with
  | some a => !dIn a (ds.take i)
  | none => false
def grpD (ds : List D) : List (List Nat) := ((List.range ds.length).filter (firstD ds)).map fun i => (List.range ds.length).filter fun j => eqAtD ds j i
def encNs (l : List Nat) : D := .list (l.map fun (k : Nat) => D.int (k : Int))
def encGrps (l : List (List Nat)) : D := .list (l.map encNs)
def sp_groups_by : SpD := spOf (fun a : List D => [.list a]) (fun a => a.length ≤ 1000 ∧ ∀ d ∈ a, d.sh 60) (fun a => encGrps (grpD a))
theorem mo_groups_by : MonoSp 1 sp_groups_by := mo_spOf fun _ => rfl
def sws (r : Rm) (g : Rg) (ws : List Int) : List Int := (along r g ws).tail.map (·.2.1)
abbrev Rec := List Int × List Int
def lstOf : D → List D
  | .list ds => ds
  | _ => []
end HC
namespace HC
open PySem PySem.Spec PyProof.Rows L2
def t_check_family (x : Xc) : TSD :=
  sSeq (sExpr (wCall (sp_check_room x) (wCons (wVar 0) wNil)))
    (sIf (bOr (bNot (bTest (wIsi "list" (wPeek 1)))) (bOr (bNot (bTest (wChain fLe fLe (wC (.int 1)) (wB gLen (wCons (wPeek 1) wNil)) (wC (.int 8))))) (bNot (bTest (wB gAll (wCons (wComp [2] (iSeq (wVar 1)) (gN 2) bYes (wCall sp_is_for (wCons (wVar 2) (wCons (wOp2 fIx (wPeek 0) (wC (.int 0))) wNil)))) wNil)))))) (sRaise x.badRegulator) sNil)
def t_groups_by : TSD :=
  sSeq (sAsg 1 (xOwn (wLst wNil)))
    (sSeq (sFor (iEnumD (wVar 0)) (gT (gCons' (gN 2) (gCons' (gN 3) gNil'))) (sIf (bTest (wOp2 fNotIn (wPeek 3) (wSl (wPeek 0) wNoPart (wPart (wPeek 2))))) (sApp 1 (wComp [4] (iRange (wCons (wB gLen (wCons (wPeek 0) wNil)) wNil)) (gN 4) (bTest (wOp2 fEq (wOp2 fIx (wPeek 0) (wPeek 4)) (wPeek 3))) (wVar 4))) sNil))
    (sFrz 1 (sRet (wVar 1))))
end HC
namespace HC
open PySem PySem.Spec PyProof.Rows L2
local macro_rules | `(tactic| walk_at "ds") => `(tactic| try simp only [endD, startD, startT, List.map_cons, List.map_nil, List.length_cons, List.length_nil, List.replicate, List.cons_append, List.nil_append, Nat.reduceSub, Nat.reduceAdd, sSeq, sRet, sIf, sNil, sAsg, sUnp, sExpr, sPar2, sPar3, xCons, xNil, xVal, xOwn, bTest, bNot, bAnd, bOr, wVar, wPeek, slot, wC, wOp2, wB, wCons, wNil, wTup, wLst, wIf, wAnd, wOr, wNot, wNeg, wCall, wCallT, wSl, wPart, wNoPart, List.set, ex1, gT_t, gT_st, gT_pr, gC_c, gN_c, gNil_c, sRaise, wChain, sFrz, frz, wIsi, wTabIn, wTabAt, sAug, wDisp1, wNewT, wComp, iSeq, Bool.false_eq_true, if_false, if_true,
  fAdd_i, fAdd_s, fAdd_l, fAdd_t, fSub_i, fLt_i, fLe_i, fGt_i, fGe_i, fEq_i, fNe_i, fIs_b, fIsN_b, gMin_2, gMax_2, gLen_l, gLen_t, fIx_rm0, fIx_rm1, fIx_rm2, fIx_st0, fIx_st1, fIx_st2, fIx_rg0, fIx_rg1, fIx_rg2, fSl_rg, fEq_gap, fEq_stay, fEq_late, fEq_look, fEq_lean])
section
variable {Q : D → Prop} {E : Addr → Prop}
theorem all_bools {ds : List D} {p : D → Bool} : gAll [.list (ds.map fun d => .bool (p d))] Q = Q (.bool (ds.all p)) := by
  have e := bools_map (ds.map p)
  rw [List.map_map] at e
  refine propext ⟨fun ⟨bs, h, q⟩ => ?_, fun q => ⟨ds.map p, e, ?_⟩⟩
  · have e2 : bs = ds.map p := Option.some.inj (h.symm.trans e)
    subst e2
    rw [List.all_map] at q
    exact q
  · rw [List.all_map]
    exact q
theorem sem_check_family (x : Xc) : ∀ ds Q E, sp_check_family x ds Q E → t_check_family x (endD Q E) (startD 3 ds) := by
  rintro _ Q E ⟨⟨a, b⟩, rfl, ⟨h1, h2⟩, q⟩
  replace h1 : a.plain = true := h1
  replace h2 : b.plain = true := h2
  replace q : outE Q E (chkFam x a b (.ok .none)) := q
  unfold t_check_family
  walk_at "ds"
  refine in_check_room h1 ?_
  unfold chkFam at q
  cases hr : isRoomF a with
  | false =>
    rw [hr] at q
    exact q
  | true =>
    rw [hr] at q
    obtain ⟨r, ok, rfl⟩ := isRoomF_top hr
    replace q : outE Q E (if isFamF b r.top = true then .ok .none else .error x.badRegulator) := q
    simp only [if_true, isT_lst h2, ex1]
    cases b <;> first | exact absurd h2 Bool.false_ne_true | skip
    all_goals simp only [isLstD, Bool.not_true, Bool.not_false, Bool.false_eq_true, if_true, if_false]
    all_goals first | exact q | skip
    rename_i ds
    replace q : outE Q E (if famT ds r.top = true then .ok .none else .error x.badRegulator) := q
    unfold famT at q
    simp only [gLen_l, fLe_i]
    by_cases c1 : 1 ≤ ds.length
    · rw [decide_eq_true c1, Bool.true_and] at q
      rw [decide_eq_true (show (1 : Int) ≤ (ds.length : Int) by omega)]
      simp only [if_true]
      by_cases c2 : ds.length ≤ 8
      · rw [decide_eq_true c2, Bool.true_and] at q
        rw [decide_eq_true (show (ds.length : Int) ≤ 8 by omega)]
        simp only [Bool.not_true, Bool.false_eq_true, if_false]
        refine ⟨le1000 (by omega), ?_⟩
        refine comp_map (fun d => .bool (isForF d r.top)) ds (fun d hd => ⟨_, rfl, fun Q' q' => ?_⟩) ?_
        · show fIx r.enc (.int 0) fun t => sp_is_for [d, t] Q' E0'
          rw [fIx_rm0]
          exact in_is_for (E := E0') (plain_of h2 hd) q'
        · rw [all_bools]
          cases hA : ds.all fun d => isForF d r.top with
          | true => rw [hA] at q; exact q
          | false => rw [hA] at q; exact q
      · rw [decide_eq_false c2, Bool.false_and] at q
        rw [decide_eq_false (show ¬ (ds.length : Int) ≤ 8 by omega)]
        exact q
    · rw [decide_eq_false c1, Bool.false_and] at q
      rw [decide_eq_false (show ¬ (1 : Int) ≤ (ds.length : Int) by omega)]
      exact q
end
end HC
namespace HC
open PySem PySem.Spec PyProof.Rows L2
local macro_rules | `(tactic| walk_at "ds") => `(tactic| try simp only [endD, startD, startT, List.map_cons, List.map_nil, List.length_cons, List.length_nil, List.replicate, List.cons_append, List.nil_append, Nat.reduceSub, Nat.reduceAdd, sSeq, sRet, sIf, sNil, sAsg, sUnp, sExpr, sPar2, sPar3, xCons, xNil, xVal, xOwn, bTest, bNot, bAnd, bOr, wVar, wPeek, slot, wC, wOp2, wB, wCons, wNil, wTup, wLst, wIf, wAnd, wOr, wNot, wNeg, wCall, wCallT, wSl, wPart, wNoPart, List.set, ex1, gT_t, gT_st, gT_pr, gC_c, gN_c, gNil_c, sRaise, wChain, sFrz, frz, wIsi, wTabIn, wTabAt, sAug, wDisp1, wNewT, wComp, iSeq, iRange, iEnumD, Bool.false_eq_true, if_false, if_true,
  fAdd_i, fAdd_s, fAdd_l, fAdd_t, fSub_i, fLt_i, fLe_i, fGt_i, fGe_i, fEq_i, fNe_i, fIs_b, fIsN_b, gMin_2, gMax_2, gLen_l, gLen_t, fIx_rm0, fIx_rm1, fIx_rm2, fIx_st0, fIx_st1, fIx_st2, fIx_rg0, fIx_rg1, fIx_rg2, fSl_rg, fEq_gap, fEq_stay, fEq_late, fEq_look, fEq_lean])
theorem rngD_zero (n : Nat) : rngD 0 n = (List.range n).map fun (k : Nat) => D.int (k : Int) := by
  unfold rngD
  refine List.map_congr_left fun k _ => ?_
  rw [Int.zero_add]
theorem atI_of {α : Type} {l : List α} {k : Nat} {a : α} (h : l[k]? = some a) : atI l (k : Int) = some a := atI_nat h
def onB (Q : Bool → Prop) : D → Prop := fun d => match d with
  | .bool k => Q k
  | _ => False
section
variable {Q : D → Prop} {E : Addr → Prop}
theorem fEq_any {a b : D} (ha : a.sh 64) (hb : b.sh 64) (q : Q (.bool (deq a b))) : fEq a b Q := ⟨⟨ha, hb⟩, q⟩
theorem grp_comp {ds : List D} {i : Nat} {b : D} {is : Nat} {tt : TB} {te : TP} {r : Env} {Q : List D → Prop} (hb : ds[i]? = some b) (ht : ∀ k a (Q' : Bool → Prop), ds[k]? = some a → Q' (deq a b) → tt (r.set is (.val (.int (k : Nat)))) Q' E0') (he : ∀ (k : Nat) (Q' : D → Prop), Q' (.int k) → te (r.set is (.val (.int (k : Nat)))) Q' E0')
    (q : Q (((List.range ds.length).filter fun j => eqAtD ds j i).map fun (k : Nat) => D.int (k : Int))) : compW (gN is) tt te r ((List.range ds.length).map fun (k : Nat) => D.int (k : Int)) Q := by
  refine comp_filt (fun (k : Nat) => D.int (k : Int)) (fun (k : Nat) => D.int (k : Int)) (fun j => eqAtD ds j i) _ (fun k hk => ⟨_, rfl, fun Q' q' => ?_, fun _ Q' q' => he k Q' q'⟩) q
  have hk' := List.mem_range.mp hk
  refine ht k _ Q' (List.getElem?_eq_getElem hk') ?_
  unfold eqAtD at q'
  rw [List.getElem?_eq_getElem hk', hb] at q'
  exact q'
theorem sh_take {ds : List D} {n k : Nat} (h : ∀ d ∈ ds, d.sh n) : ∀ d ∈ ds.take k, d.sh n := fun d hd => h d (List.mem_of_mem_take hd)
theorem loop_groups (ds : List D) (hl : ds.length ≤ 1000) (hs : ∀ d ∈ ds, d.sh 60) (e : En) : ∀ (suf : List D) (n : Nat) (s2 s3 s4 : Sl), ds.drop n = suf → n ≤ ds.length →
    (∀ s2 s3, e.nx [.val (.list ds), .own (encGrps (grpD ds)), s2, s3, s4]) →
    loopW (gT (gCons' (gN 2) (gCons' (gN 3) gNil'))) (sIf (bTest (wOp2 fNotIn (wPeek 3) (wSl (wPeek 0) wNoPart (wPart (wPeek 2))))) (sApp 1 (wComp [4] (iRange (wCons (wB gLen (wCons (wPeek 0) wNil)) wNil)) (gN 4) (bTest (wOp2 fEq (wOp2 fIx (wPeek 0) (wPeek 4)) (wPeek 3))) (wVar 4))) sNil) e (enumD n suf)
      [.val (.list ds), .own (encGrps (((List.range n).filter (firstD ds)).map fun i => (List.range ds.length).filter fun j => eqAtD ds j i)), s2, s3, s4]
  | [], n, s2, s3, s4, hd, hn, q => by
    have en : n = ds.length := by
      have := congrArg List.length hd
      rw [List.length_drop] at this
      simp at this
      omega
    subst en
    exact q s2 s3
  | one :: suf, n, s2, s3, s4, hd, hn, q => by
    have hlt : n < ds.length := by
      have := congrArg List.length hd
      rw [List.length_drop] at this
      simp at this
      omega
    have hone : ds[n]? = some one := by
      have := congrArg (·[0]?) hd
      simpa using this
    have hdrop : ds.drop (n + 1) = suf := by
      have := congrArg List.tail hd
      rw [List.tail_drop] at this
      exact this
    have hm := List.mem_of_getElem? hone
    have step := loop_groups ds hl hs e suf (n + 1) (.val (.int n)) (.val one) s4 hdrop (by omega) q
    rw [List.range_succ, List.filter_append, List.map_append] at step
    refine ⟨[.val (.list ds), .own (encGrps _), .val (.int n), .val one, s4], rfl, ?_⟩
    walk_at "ds"
    rw [fSl_l, cutL_take, fNotIn_l]
    refine ⟨⟨(hs one hm).mono (by omega), sh_l64 (sh_take (k := n) hs)⟩, ?_⟩
    cases hf : dIn one (ds.take n) with
    | true =>
      have ff : firstD ds n = false := by unfold firstD; rw [hone]; simp [hf]
      rw [show [n].filter (firstD ds) = [] by simp [ff]] at step
      simp only [List.map_nil, List.append_nil] at step
      exact step
    | false =>
      have ff : firstD ds n = true := by unfold firstD; rw [hone]; simp [hf]
      rw [show [n].filter (firstD ds) = [n] by simp [ff]] at step
      simp only [Bool.not_false, if_true]
      unfold sApp
      walk_at "ds"
      refine ⟨⟨by omega, by omega⟩, ?_⟩
      rw [Int.toNat_natCast, rngD_zero]
      refine ⟨le1000 (by rw [List.length_map, List.length_range]; omega), ?_⟩
      refine grp_comp (i := n) hone (fun k a Q' hk q' => ?_) (fun k Q' q' => q') ?_
      · show fIx (.list ds) (.int k) fun z => fEq z one (onB Q')
        rw [fIx_l]
        exact ⟨a, atI_of hk, fEq_any ((hs a (List.mem_of_getElem? hk)).mono (by omega)) ((hs one hm).mono (by omega)) q'⟩
      · refine ⟨?_, ?_⟩
        · rw [List.length_map, List.length_map]
          have := List.length_filter_le (firstD ds) (List.range n)
          rw [List.length_range] at this
          exact small1000 (by omega)
        · rw [encGrps, List.map_append] at step
          exact step
theorem sem_groups_by : ∀ ds Q E, sp_groups_by ds Q E → t_groups_by (endD Q E) (startD 5 ds) := by
  rintro _ Q E ⟨ds, rfl, ⟨hl, hs⟩, q⟩
  replace q : Q (encGrps (grpD ds)) := q
  unfold t_groups_by
  walk_at "ds"
  unfold sFor
  walk_at "ds"
  exact loop_groups ds hl hs _ ds 0 .un .un .un rfl (Nat.zero_le _) fun s2 s3 => q
theorem in_groups_by {ds : List D} (hl : ds.length ≤ 1000) (hs : ∀ d ∈ ds, d.sh 60) (q : Q (encGrps (grpD ds))) : sp_groups_by [.list ds] Q E := ⟨ds, rfl, ⟨hl, hs⟩, q⟩
end
end HC
namespace HC
open PySem PySem.Spec PyProof.Rows L2
section
variable {Q : D → Prop} {E : Addr → Prop}
structure Rec.Ok (c : Rec) : Prop where
  l60 : c.1.length ≤ 60
  ws : ∀ w ∈ c.1, 1 ≤ w ∧ w ≤ 3
  eq : c.1.length = c.2.length
  ts : ∀ t ∈ c.2, 0 ≤ t ∧ t ≤ 1
end
end HC
namespace HC
open PySem PySem.Spec PyProof.Rows L2
section
variable {Q : D → Prop} {E : Addr → Prop}
theorem fam_is {d : D} {t : Int} (h : isFamF d t = true) : ∃ gs : List Rg, d = .list (gs.map Rg.enc) ∧ 1 ≤ gs.length ∧ gs.length ≤ 8 ∧ (∀ g ∈ gs, g.Ok t) ∧ (lstOf d).map rgOf = gs := by
  cases d <;> first | cases h | skip
  rename_i ds
  have h' : famT ds t = true := h
  unfold famT at h'
  simp only [Bool.and_eq_true, decide_eq_true_eq] at h'
  obtain ⟨l1, l8, ha⟩ := h'
  have : ∃ gs : List Rg, ds = gs.map Rg.enc ∧ (∀ g ∈ gs, g.Ok t) ∧ ds.map rgOf = gs := by
    clear l1 l8 h
    induction ds with
    | nil => exact ⟨[], rfl, by simp, rfl⟩
    | cons d ds ih =>
      simp only [List.all_cons, Bool.and_eq_true] at ha
      obtain ⟨g, gk, rfl, e⟩ := isForF_rg ha.1
      obtain ⟨gs, rfl, hg, e2⟩ := ih ha.2
      refine ⟨g :: gs, rfl, fun a ha => ?_, by rw [List.map_cons, e, e2]⟩
      rcases List.mem_cons.mp ha with rfl | ha
      · exact gk
      · exact hg a ha
  obtain ⟨gs, rfl, hg, e⟩ := this
  rw [List.length_map] at l1 l8
  exact ⟨gs, rfl, l1, l8, hg, e⟩
theorem fam_enc {gs : List Rg} {t : Int} (l1 : 1 ≤ gs.length) (l8 : gs.length ≤ 8) (h : ∀ g ∈ gs, g.Ok t) : isFamF (.list (gs.map Rg.enc)) t = true ∧ (lstOf (.list (gs.map Rg.enc))).map rgOf = gs := by
  constructor
  · show famT (gs.map Rg.enc) t = true
    unfold famT
    rw [List.length_map, decide_eq_true l1, decide_eq_true l8, List.all_map, Bool.true_and, Bool.true_and, List.all_eq_true]
    exact fun g hg => (rg_enc (h g hg)).1
  · show (gs.map Rg.enc).map rgOf = gs
    rw [List.map_map]
    conv => rhs; rw [← List.map_id gs]
    exact List.map_congr_left fun g hg => (rg_enc (h g hg)).2
theorem in_check_family {x : Xc} {a b : D} (h1 : a.plain = true) (h2 : b.plain = true) (q : outE Q E (chkFam x a b (.ok .none))) : sp_check_family x [a, b] Q E := ⟨(a, b), rfl, ⟨h1, h2⟩, q⟩
theorem fam_bad1 {x : Xc} {a b : D} (h1 : a.plain = true) (h2 : b.plain = true) (h : isRoomF a = false) (q : E x.badRoom) : sp_check_family x [a, b] Q E := in_check_family h1 h2 (by
  unfold chkFam
  rw [if_neg (by simp [h])]
  exact q)
theorem fam_bad2 {x : Xc} {a b : D} (h1 : a.plain = true) (h2 : b.plain = true) (h : isRoomF a = true) (h' : isFamF b (topOf a) = false) (q : E x.badRegulator) : sp_check_family x [a, b] Q E := in_check_family h1 h2 (by
  unfold chkFam
  rw [if_pos h, if_neg (by simp [h'])]
  exact q)
theorem fam_ok {x : Xc} {a b : D} (h1 : a.plain = true) (h2 : b.plain = true) (h : isRoomF a = true) (h' : isFamF b (topOf a) = true) (q : Q .none) : sp_check_family x [a, b] Q E := in_check_family h1 h2 (by
  unfold chkFam
  rw [if_pos h, if_pos h']
  exact q)
end
end HC
namespace HC
open PySem PySem.Spec PyProof.Rows L2
section
variable {x : Xc} {r : Rm} {g : Rg} {gs : List Rg} {cs : List Rec} {c : Rec} {ws : List Int} {Q : D → Prop} {E : Addr → Prop}
theorem pl_fam (gs : List Rg) : (D.list (gs.map Rg.enc)).plain = true := (sh_list (sh_map (fun g => sh_rg g) gs)).pl
structure GivenF (r : Rm) (gs : List Rg) : Prop where
  ok : r.Ok
  l1 : 1 ≤ gs.length
  l8 : gs.length ≤ 8
  gk : ∀ g ∈ gs, g.Ok r.top
theorem GivenF.chk (G : GivenF r gs) {k : Ex} : chkFam x r.enc (.list (gs.map Rg.enc)) k = k := by
  unfold chkFam
  have e1 : isFamF (.list (gs.map Rg.enc)) (topOf r.enc) = true := (fam_enc G.l1 G.l8 G.gk).1
  simp only [room_enc G.ok, e1, if_true]
end
end HC
namespace HC
open PySem PySem.Spec PyProof.Rows L2
theorem dIn_enc {α : Type} [DecidableEq α] {f : α → D} (h : Enc f) (a : α) : ∀ l : List α, dIn (f a) (l.map f) = decide (a ∈ l)
  | [] => by simp [dIn]
  | b :: l => by
    have ih := dIn_enc h a l
    unfold dIn at ih ⊢
    rw [List.map_cons, List.any_cons, ih, h.deq]
    by_cases e : a = b
    · subst e; simp
    · have e' : ¬ b = a := fun z => e z.symm
      simp [e, e']
theorem eqAt_enc {α : Type} [DecidableEq α] {f : α → D} (h : Enc f) {l : List α} {i j : Nat} (hi : i < l.length) (hj : j < l.length) : eqAtD (l.map f) i j = decide (l[i]? = l[j]?) := by
  unfold eqAtD
  rw [List.getElem?_map, List.getElem?_map, List.getElem?_eq_getElem hi, List.getElem?_eq_getElem hj]
  show deq (f _) (f _) = _
  rw [h.deq]
  simp
end HC
namespace HC
open PySem PySem.Spec PyProof.Rows L2
def fAddL : B2
  | .list a, .list b, Q => a.length + b.length ≤ sizeLine ∧ Q (.list (a ++ b))
  | _, _, _ => False
theorem fAddL_l {ds es : List D} {Q : D → Prop} : fAddL (.list ds) (.list es) Q = (ds.length + es.length ≤ sizeLine ∧ Q (.list (ds ++ es))) := rfl
def Xc.all (x : Xc) : List Addr := [x.badRoom, x.badRegulator, x.badWeather, x.badMarks, x.badNumber, x.badText, x.notFound]
def Xc.has (x : Xc) (c : Addr) : Prop := c ∈ x.all
structure XAll (K : PySem.W.Frag) (x : Xc) : Prop where
  pt : ∀ c ∈ x.all, XIs K c ∧ PySem.W.exmOne K (.ref c) (.ref x.heatError) = some true ∧ PySem.W.kitOne K (.ref c) (.ref x.heatError) = some true ∧ PySem.W.kitOne K (.ref c) (.type "ValueError") = some true ∧ ∀ k ∈ x.all, PySem.W.kitOne K (.ref c) (.ref k) = some (decide (c = k))
  nd : x.all.Nodup
section
variable {K : PySem.W.Frag} {x : Xc}
structure XOne (K : PySem.W.Frag) (h c : Addr) : Prop where
  cl : (PySem.W.clsIn K c).isSome = true
  ty : PySem.W.typeIn K (.ref c) = some (.type "type")
  ga : PySem.W.findIn K (.ref c) "__getattribute__" = some (some (.builtin "BaseException.__getattribute__"))
  gt : PySem.W.findIn K (.ref c) "__getattr__" = some none
  sub : PySem.W.subIn K (.ref c) (.type "BaseException") = some true
  ha : PySem.W.findIn K (.ref c) "__class__" = some (some (.builtin "object.__class__"))
  hm : PySem.W.mroIn K c (.type "object") = some true
  sh : PySem.W.subIn K (.ref c) (.ref h) = some true
  sv : PySem.W.subIn K (.ref c) (.type "ValueError") = some true
theorem XAll.at (h : XAll K x) {c : Addr} (hc : c ∈ x.all) : XIs K c ∧ PySem.W.exmOne K (.ref c) (.ref x.heatError) = some true ∧ PySem.W.kitOne K (.ref c) (.ref x.heatError) = some true ∧ PySem.W.kitOne K (.ref c) (.type "ValueError") = some true ∧ ∀ k ∈ x.all, PySem.W.kitOne K (.ref c) (.ref k) = some (decide (c = k)) := h.pt c hc
theorem XAll.he (h : XAll K x) : ∀ c, x.has c → PySem.W.exmOne K (.ref c) (.ref x.heatError) = some true := fun c hc => (h.at hc).2.1
end
end HC
namespace HC
open PySem PySem.Spec PyProof.Rows L2
theorem loopW_nil {g : GD} {body : TSD} {e : En} {r : Env} : loopW g body e [] r = e.nx r := rfl
def onRg (x : Xc) (a b : D) (k : Rm → Rg → Ex) : Ex := if isRoomF a = true then (if isForF b (topOf a) = true then k (rmOf a) (rgOf b) else .error x.badRegulator) else .error x.badRoom
def onFam (x : Xc) (a b : D) (k : Rm → List Rg → Ex) : Ex := if isRoomF a = true then (if isFamF b (topOf a) = true then k (rmOf a) ((lstOf b).map rgOf) else .error x.badRegulator) else .error x.badRoom
def intOf : D → Int
  | .int i => i
  | _ => 0
def onNum (x : Xc) (a : D) (lo hi : Int) (k : Int → Ex) : Ex := if isIntF a lo hi = true then k (intOf a) else .error x.badNumber
section
variable {x : Xc} {Q Q1 : D → Prop} {E : Addr → Prop} {a b c : D}
theorem on_rg {k : Rm → Rg → Ex} (h1 : a.plain = true) (h2 : b.plain = true) (q : outE Q E (onRg x a b k)) (go : ∀ r g, r.Ok → g.Ok r.top → a = r.enc → b = g.enc → outE Q E (k r g) → Q1 .none) : sp_check_regulator x [a, b] Q1 E := by
  unfold onRg at q
  cases hr : isRoomF a with
  | false => rw [if_neg (by simp [hr])] at q; exact chk_bad1 h1 h2 hr q
  | true =>
    rw [if_pos hr] at q
    cases hf : isForF b (topOf a) with
    | false => rw [if_neg (by simp [hf])] at q; exact chk_bad2 h1 h2 hr hf q
    | true =>
      rw [if_pos hf] at q
      refine chk_ok h1 h2 hr hf ?_
      obtain ⟨r, ok, rfl⟩ := isRoomF_top hr
      obtain ⟨g, gk, e1, e2⟩ := isForF_rg hf
      rw [e2] at q
      exact go r g ok gk rfl e1 q
theorem on_fam {k : Rm → List Rg → Ex} (h1 : a.plain = true) (h2 : b.plain = true) (q : outE Q E (onFam x a b k)) (go : ∀ r gs, GivenF r gs → a = r.enc → b = .list (gs.map Rg.enc) → outE Q E (k r gs) → Q1 .none) : sp_check_family x [a, b] Q1 E := by
  unfold onFam at q
  cases hr : isRoomF a with
  | false => rw [if_neg (by simp [hr])] at q; exact fam_bad1 h1 h2 hr q
  | true =>
    rw [if_pos hr] at q
    cases hf : isFamF b (topOf a) with
    | false => rw [if_neg (by simp [hf])] at q; exact fam_bad2 h1 h2 hr hf q
    | true =>
      rw [if_pos hf] at q
      refine fam_ok h1 h2 hr hf ?_
      obtain ⟨r, ok, rfl⟩ := isRoomF_top hr
      obtain ⟨gs, e1, l1, l8, gk, e⟩ := fam_is hf
      rw [e] at q
      exact go r gs ⟨ok, l1, l8, gk⟩ rfl e1 q
theorem rg_at {r : Rm} {g : Rg} (ok : r.Ok) (gk : g.Ok r.top) {k : Rm → Rg → Ex} : onRg x r.enc g.enc k = k r g := by
  unfold onRg
  have e1 : isForF g.enc (topOf r.enc) = true := (rg_enc gk).1
  rw [if_pos (room_enc ok), if_pos e1, (rg_enc gk).2]
  rfl
theorem fam_at {r : Rm} {gs : List Rg} (G : GivenF r gs) {k : Rm → List Rg → Ex} : onFam x r.enc (.list (gs.map Rg.enc)) k = k r gs := by
  unfold onFam
  have e1 : isFamF (.list (gs.map Rg.enc)) (topOf r.enc) = true := (fam_enc G.l1 G.l8 G.gk).1
  rw [if_pos (room_enc G.ok), if_pos e1, (fam_enc G.l1 G.l8 G.gk).2]
  rfl
theorem num_at {i lo hi : Int} (h1 : lo ≤ i) (h2 : i ≤ hi) {k : Int → Ex} : onNum x (.int i) lo hi k = k i := by
  unfold onNum
  have : isIntF (.int i) lo hi = true := by
    show (decide (lo ≤ i) && decide (i ≤ hi)) = true
    rw [decide_eq_true h1, decide_eq_true h2]
    rfl
  rw [if_pos this]
  rfl
end
end HC
namespace HC
open PySem PySem.Spec PyProof.Rows L2
theorem seq_g {t u : TSD} {e : En} {r : Env} (h : ∀ nx : Env → Prop, (∀ r', u e r' → nx r') → t { nx := nx, rt := e.rt, bk := e.bk, ct := e.ct, ex := e.ex } r) : sSeq t u e r := h (u e) fun _ z => z
theorem nx_i {f : Env → Prop} {rt : D → Prop} {bk ct : Env → Prop} {ex : Env → Addr → Prop} {r : Env} (h : f r) : En.nx { nx := f, rt := rt, bk := bk, ct := ct, ex := ex } r := h
theorem loop_gen {α : Type} {g : GD} {body : TSD} {e : En} (enc : α → D) (P : List α → Env → Prop) : ∀ (l : List α) (r : Env), P l r → (∀ r, P [] r → e.nx r) →
    (∀ a l r, P (a :: l) r → ∃ r1, g (enc a) r = some r1 ∧ ((∀ r', P l r' → loopW g body e (l.map enc) r') → body (e.lp (loopW g body e (l.map enc))) r1)) → loopW g body e (l.map enc) r
  | [], r, h, hn, _ => hn r h
  | a :: l, r, h, hn, hs => by
    obtain ⟨r1, e1, z⟩ := hs a l r h
    exact ⟨r1, e1, z fun r' h' => loop_gen enc P l r' h' hn hs⟩
theorem runFrom_snoc (r : Rm) (g : Rg) (w : Int) : ∀ (ws : List Int) (s : Sta), runFrom r g s (ws ++ [w]) = runFrom r g s ws ++ [tick r g ((runFrom r g s ws).getLast?.getD s) w]
  | [], s => rfl
  | v :: ws, s => by
    rw [List.cons_append, runFrom, runFrom, runFrom_snoc r g w ws, List.cons_append]
    congr 4
    cases e : runFrom r g (tick r g s v) ws with
    | nil =>
      have := along_length r g (tick r g s v) ws
      rw [e] at this
      simp at this
    | cons a l =>
      rw [List.getLast?_cons_cons]
      rw [List.getLast?_eq_some_getLast (by simp : (a :: l) ≠ [])]
      rfl
theorem along_snoc (r : Rm) (g : Rg) (ws : List Int) (w : Int) : along r g (ws ++ [w]) = along r g ws ++ [tick r g (lastSt r (along r g ws)) w] := runFrom_snoc r g w ws (first r)
end HC
namespace HC
open PySem PySem.Spec PyProof.Rows L2
def wGet (to te tf : TP) : TP := fun r Q E => to r (fun x => match x with
  | .tdict kvs => te r (fun y => tf r (fun z => ∃ ks, y = .tuple (keysD ks) ∧ (NestedKey.tup ks).depth ≤ 8 ∧ Q ((kvGet kvs (.tup ks)).getD z)) E) E
  | _ => False) E
section
variable {X : Cx} {C : Ct} {W : XW} {k : Nat} {o e f : Expr} {to te tf : TP} {apos cpos : Pos}
theorem td_at {pins : List (Addr × Obj)} {σ : L2.St} {H : Hp} {s : Shared} {a : Addr} {ob : Obj} {xs : List (NestedKey × Addr × Value)} (I : Inv X pins σ H s) (ea : H a = some (dnO a ob)) (de : DEnt X.prog X.w a ob xs) :
    s.TypeIs (.ref a) "dict" ∧ (∀ b, Value.ref a = .ref b → ∃ o, s.heap.get? b = some o ∧ o.dict = none) := by
  have ho : s.heap.get? a = some ob := (I.hok a _ ea).1
  obtain ⟨_, _, h3, _⟩ := de
  exact ⟨⟨ob, ho, h3.1⟩, fun b q => by cases q; exact ⟨ob, ho, h3.2.1⟩⟩
theorem pe_getN {td ty tx : TE} (hu : X.A.units + 65 < cLine) (ho : PE X o td) (he : PE X e ty) (hf : PE X f tx) (m : M2 X o "get" apos e f cpos) : PE X (.Call (.Attribute o "get" apos) [e, f] [] cpos) (fun σ H Q => td σ H fun x H1 => ∃ a ob xs, x = .ref a ∧ H1 a = some (dnO a ob) ∧ DEnt X.prog X.w a ob xs ∧ ty σ H1 fun y H2 => tx σ H2 fun z H3 => ∃ M kvs b ks ob xs, y = .ref b ∧ H3 a = some (dnO a ob) ∧ DEnt X.prog X.w a ob xs ∧ RpN X.K X.prog X.w M H3 xs kvs ∧ Rp X.K X.prog X.w M H3 (.ref b) (keyD (.tup ks)) ∧ (NestedKey.tup ks).depth ≤ 8 ∧
    ((kvGet kvs (.tup ks) = none → Q z H3) ∧ ∀ d, kvGet kvs (.tup ks) = some d → ∀ v, Rp X.K X.prog X.w M H3 v d → Q v H3)) := by
  refine ⟨fun pins s σ H Q I h => ?_⟩
  refine wpAny_Call_method m.base m.few m.line PySem.F.plainAttrs_dict PySem.F.slot_dict_get PySem.F.type_dict_get (thn (ho.run pins s σ H _ I h) fun u s1 ⟨x, H1, I1, rx, a, ob, xs, ex, ea, de, q1⟩ => ?_)
  subst ex
  obtain rfl : u = Value.ref a := rx
  obtain ⟨t1, t2⟩ := td_at I1 ea de
  refine ⟨t1, t2, ?_⟩
  rw [m.trees]
  refine Calls.callWith_builtin rfl (Calls.evalArgs_plain (Calls.spliced_cons (thn (he.run pins s1 σ H1 _ I1 q1) fun iv s2 ⟨y, H2, I2, ry, q2⟩ =>
    Calls.spliced_cons (thn (hf.run pins s2 σ H2 _ I2 q2) fun fv s3 ⟨z, H3, I3, rz, M, kvs, b, ks, ob, xs, ey, ea3, de, rn, rk, dp, q3⟩ => Calls.spliced_nil ?_))))
  subst ey
  obtain rfl : iv = Value.ref b := ry
  have hk : NestedIs s3.heap (.tup ks) (.ref b) := key_heap I3 (.tup ks) _ _ rk rfl
  have hm := td_heap I3 ea3 de rn
  refine getOr_keyed (knd := nestedKind X.prog X.w) (k := .tup ks) (room8 hu) ⟨hk, dp⟩ de.2.1 ⟨xs, hm, rfl⟩ ?_
  rw [valueAt_pairsH]
  rcases rpn_get (.tup ks) rn with ⟨z1, z2⟩ | ⟨p, v, d', hp, hd, rv, rp⟩
  · rw [z1]
    exact ⟨z, H3, I3.tok _, rz, q3.1 z2⟩
  · rw [hp]
    exact ⟨v, H3, I3.tok _, rv, q3.2 _ hd v rp⟩
theorem dv_get (G : Good X C W k) (ho : DE X C W o to) (he : DE X C W e te) (hf : DV X C W f tf) (m : M2 X o "get" apos e f cpos := by exact ⟨rfl, rfl, rfl, rfl⟩) : DV X C W (.Call (.Attribute o "get" apos) [e, f] [] cpos) (wGet to te tf) := by
  refine ⟨(pe_getN G.hu65 ho.pe he.pe hf.pe m).imp fun σ H Q ⟨M, r, E, S, hW, q⟩ => ⟨M, r, E, S, hW, ho.mo.imp (fun x z v H1 k1 S1 p1 => ?_) (fun _ z => z) q⟩, ⟨fun hq hE q => ho.mo.imp (fun x z => ?_) hE q⟩⟩
  · have F := G.fit
    cases x with
    | tdict kvs =>
      obtain ⟨K0, P0, w0, T0, M0, H0⟩ := C
      obtain ⟨z1, z2, z3⟩ := F
      cases z1; cases z2; cases z3
      obtain ⟨a, ob, xs, rfl, ea, de, rn⟩ := p1.td
      refine ⟨a, ob, xs, rfl, ea, de, M, r, E, S1, hW.mono k1, he.mo.imp (fun y z v2 H2 k2 S2 p2 => ⟨M, r, E, S2, hW.mono (k1.trans k2), hf.mo.imp (fun y2 z v3 H3 k3 S3 p3 => ?_) (fun _ z => z) z⟩) (fun _ z => z) z⟩
      obtain ⟨ks, ey, dp, q⟩ := z
      subst ey
      have p2' := (S2.rq k3 p2)
      obtain ⟨b, zs, rfl, _, _⟩ := p2'.tup
      have p1' := (S1.rq (k2.trans k3) p1)
      obtain ⟨a', ob', xs', e', ea', de', rn'⟩ := p1'.td
      cases e'
      refine ⟨M, kvs, b, ks, ob', xs', rfl, ea', de', rn', p2'.tupRp, dp, fun hn => ?_, fun d hd v rv => ?_⟩
      · rw [hn] at q
        exact q _ H3 (k1.trans (k2.trans k3)) S3 p3
      · rw [hd] at q
        exact q _ H3 (k1.trans (k2.trans k3)) S3 rv
    | _ => exact z.elim
  · cases x with
    | tdict kvs => exact he.mo.imp (fun y z => hf.mo.imp (fun w ⟨ks, a, b, c⟩ => ⟨ks, a, b, hq _ c⟩) hE z) hE z
    | _ => exact z
end
end HC
namespace HC
open PySem PySem.Spec PyProof.Rows L2
abbrev so0 (w : World) : Obj := { cls := .type "set", dict := none, data := .set #[] 0 (.fresh 0 0 (!w.params.followText "set-order")) }
section
variable {X : Cx} {C : Ct} {W : XW} {k : Nat} {e : Expr} {t : TP} {p1 p2 c1 c2 : Pos}
theorem boot_sorted' : bootBuiltins "sorted" = some (.builtin "sorted") := by decide +kernel
theorem boot_set' : bootBuiltins "set" = some (.type "set") := by decide +kernel
end
end HC
namespace HC
open PySem PySem.Spec PyProof.Rows L2
structure SortOk (ds : List D) : Prop where
  pl : D.plains ds = true
  al : PySem.W.AllAlike (ds.map D.py)
  so : PySem.W.Sortable (ds.map D.py)
  dp : ∀ d ∈ ds, d.py.depth ≤ 60
  sz : ds.length ≤ 1000
section
variable {X : Cx} {C : Ct} {W : XW} {k : Nat} {M : Addr → Prop} {H : Hp} {pins : List (Addr × Obj)} {σ : L2.St} {s : Shared}
theorem rpn_keysA {K : PySem.W.Frag} {P : Program} {w : World} {M : Addr → Prop} {H : Hp} : ∀ {ys : List (NestedKey × Addr × Value)} {kvs : List (NestedKey × D)}, RpN K P w M H ys kvs → RpA K P w M H ((ys.map (·.2.1)).map V.ref) (kvs.map fun p => keyD p.1)
  | _, _, .nil => .nil
  | _, _, .cons a _ _ c => .cons a (rpn_keysA c)
theorem SortOk.units {ds : List D} (h : SortOk ds) (hu : X.A.units + 65 < cLine) : ∀ b, b ∈ ds → X.A.units + 2 + (D.py b).depth < cLine := fun b hb => by
  have := h.dp b hb
  omega
end
end HC
namespace HC
open PySem PySem.Spec PyProof.Rows L2
theorem rng_ok {n : Nat} (h : n ≤ 1000) : -2 ^ 62 ≤ (n : Int) ∧ (n : Int) < 2 ^ 62 := by
  have e : (2 : Int) ^ 62 = 4611686018427387904 := by decide +kernel
  rw [e]
  omega
theorem rng_filt {n : Nat} {g : GD} {tt : TB} {te : TP} {r : Env} {Q : List D → Prop} (f : Nat → D) (p : Nat → Bool) (hn : n ≤ 1000)
    (h : ∀ k, k < n → ∃ r1, g (.int (k : Int)) r = some r1 ∧ (∀ Q' : Bool → Prop, Q' (p k) → tt r1 Q' E0') ∧ (p k = true → ∀ Q' : D → Prop, Q' (f k) → te r1 Q' E0'))
    (q : Q (((List.range n).filter p).map f)) : (-2 ^ 62 ≤ (n : Int) ∧ (n : Int) < 2 ^ 62) ∧ (rngD 0 (n : Int).toNat).length ≤ sizeLine ∧ compW g tt te r (rngD 0 (n : Int).toNat) Q := by
  refine ⟨rng_ok hn, ?_⟩
  rw [Int.toNat_natCast, rngD_zero]
  refine ⟨le1000 (by rw [List.length_map, List.length_range]; exact hn), ?_⟩
  exact comp_filt (fun (k : Nat) => D.int (k : Int)) f p _ (fun k hk => h k (List.mem_range.mp hk)) q
theorem rng_loop {n : Nat} {g : GD} {body : TSD} {e : En} {r : Env} (P : Nat → Env → Prop) (hn : n ≤ 1000) (h0 : P 0 r) (hd : ∀ r, P n r → e.nx r)
    (hs : ∀ k r nx, k < n → P k r → (∀ r', P (k + 1) r' → nx r') → ∃ r1, g (.int (k : Int)) r = some r1 ∧ body (e.lp nx) r1) :
    (-2 ^ 62 ≤ (n : Int) ∧ (n : Int) < 2 ^ 62) ∧ loopW g body e (rngD 0 (n : Int).toNat) r := by
  refine ⟨rng_ok hn, ?_⟩
  rw [Int.toNat_natCast, rngD_zero]
  refine loop_gen (fun (k : Nat) => D.int (k : Int)) (fun rest env => ∃ k, k ≤ n ∧ rest = (List.range n).drop k ∧ P k env) _ _ ⟨0, Nat.zero_le _, rfl, h0⟩ ?_ ?_
  · rintro env ⟨k, hk, e1, hp⟩
    have : n ≤ k := by
      have := congrArg List.length e1
      rw [List.length_drop, List.length_range, List.length_nil] at this
      omega
    have : k = n := by omega
    subst this
    exact hd _ hp
  · rintro a rest env ⟨k, hk, e1, hp⟩
    have hlt : k < n := by
      have := congrArg List.length e1
      rw [List.length_drop, List.length_range, List.length_cons] at this
      omega
    rw [List.drop_eq_getElem_cons (by rw [List.length_range]; exact hlt), List.getElem_range] at e1
    obtain ⟨rfl, rfl⟩ := List.cons.inj e1
    refine ⟨(hs a env (fun _ => False ∨ True) hlt hp fun _ _ => .inr trivial).choose, (hs a env (fun _ => False ∨ True) hlt hp fun _ _ => .inr trivial).choose_spec.1, fun go => ?_⟩
    obtain ⟨r1, e1, hb⟩ := hs a env _ hlt hp fun r' h' => go r' ⟨a + 1, hlt, rfl, h'⟩
    rw [(hs a env (fun _ => False ∨ True) hlt hp fun _ _ => .inr trivial).choose_spec.1] at e1
    cases e1
    exact hb
theorem fIx_map {α : Type} {f : α → D} {l : List α} {k : Nat} {a : α} {Q : D → Prop} (h : l[k]? = some a) (q : Q (f a)) : fIx (.list (l.map f)) (.int (k : Int)) Q := ⟨f a, atI_of (by rw [List.getElem?_map, h]; rfl), q⟩
end HC
namespace HC
open PySem PySem.Spec PyProof.Rows L2
theorem sub_len {α : Type} [DecidableEq α] : ∀ (l m : List α), l.Nodup → (∀ k ∈ l, k ∈ m) → l.length ≤ m.length
  | [], _, _, _ => Nat.zero_le _
  | a :: l, m, hn, h => by
    rw [List.nodup_cons] at hn
    have ha : a ∈ m := h a (by simp)
    have := sub_len l (m.erase a) hn.2 fun k hk => by
      have : k ≠ a := fun z => hn.1 (z ▸ hk)
      exact (List.mem_erase_of_ne this).mpr (h k (List.mem_cons_of_mem _ hk))
    rw [List.length_erase_of_mem ha] at this
    have := List.length_pos_of_mem ha
    rw [List.length_cons]
    omega
structure Lim (r : Rm) (g : Rg) (s : Sta) : Prop where
  st : StOk r g s
  four : g.kd.four = true → s = first r ∨ ((s.2.2 = g.tk - 1 → (s.2.1 = 1 → s.1 ≤ g.hi - 1) ∧ (s.2.1 = 0 → g.lo + 1 ≤ s.1)) ∧ (s.2.2 < g.tk - 1 → (s.2.1 = 0 → s.1 ≤ r.top - 1) ∧ (s.2.1 = 1 → 1 ≤ s.1)))
  oth : g.kd.four = false → (s.2.1 = 0 → s.2.2 = 0) ∧ (s.2.1 = 1 → s.1 + s.2.2 ≤ 10 ∧ s.2.2 ≤ s.1 + 1)
theorem first_lim {r : Rm} {g : Rg} (h : r.Ok) (k : g.Ok r.top) : Lim r g (first r) := ⟨first_ok h k, fun _ => .inl rfl, fun _ => ⟨fun _ => rfl, fun z => by cases z⟩⟩
theorem decid_cases (a lo hi s : Int) (hs : s = 0 ∨ s = 1) : (decid a lo hi s = 1 ∧ (a ≤ lo ∨ s = 1 ∧ a < hi)) ∨ (decid a lo hi s = 0 ∧ lo < a ∧ (hi ≤ a ∨ s = 0)) := by
  unfold decid
  split
  · exact .inl ⟨rfl, .inl (by assumption)⟩
  · split
    · exact .inr ⟨rfl, by omega, .inl (by assumption)⟩
    · rcases hs with rfl | rfl
      · exact .inr ⟨rfl, by omega, .inr rfl⟩
      · exact .inl ⟨rfl, .inr ⟨rfl, by omega⟩⟩
theorem tick_lim {r : Rm} {g : Rg} {s : Sta} {w : Int} (h : r.Ok) (k : g.Ok r.top) (o : Lim r g s) (w1 : 1 ≤ w) (w3 : w ≤ 3) : Lim r g (tick r g s w) := by
  have ok2 := tick_ok (w := w) h k o.st
  refine ⟨ok2, fun f => .inr ?_, fun f => ?_⟩
  · have t6 := h.t6
    have ht := o.st.ht
    have h0 := o.st.h0
    have r4 := h.r4
    have lh := k.lh
    have k2 := k.k2 f
    have m0 := o.st.m0
    have sw := o.st.sw
    have o4 := o.st.four f
    obtain ⟨hh, sw0, mm⟩ := s
    simp only at *
    have hw0 : sw0 = 0 → warm r hh sw0 w ≤ r.top - 1 := fun e => by unfold warm; rw [if_neg (by omega)]; omega
    have hw1 : sw0 = 1 → 1 ≤ warm r hh sw0 w := fun e => by unfold warm; rw [if_pos e]; omega
    unfold tick setSw
    simp only
    generalize warm r hh sw0 w = H at hw0 hw1
    cases hk : g.kd with
    | gap => rw [hk] at f; cases f
    | late => rw [hk] at f; cases f
    | lean => rw [hk] at f; cases f
    | stay =>
      simp only
      by_cases hm : 0 < mm
      · simp only [hm, if_true]
        exact ⟨fun e => by omega, fun _ => ⟨hw0, hw1⟩⟩
      · simp only [hm, if_false]
        rcases decid_cases H g.lo g.hi sw0 sw with ⟨e, c⟩ | ⟨e, c, c'⟩ <;> rw [e]
        · by_cases z : (1 : Int) = sw0
          · subst z
            simp
            exact ⟨fun _ => by omega, fun _ => hw1 rfl⟩
          · rw [if_pos z]
            exact ⟨fun _ => ⟨fun _ => by omega, fun y => by omega⟩, fun y => by omega⟩
        · by_cases z : (0 : Int) = sw0
          · subst z
            simp
            exact ⟨fun _ => by omega, fun _ => hw0 rfl⟩
          · rw [if_pos z]
            exact ⟨fun _ => ⟨fun y => by omega, fun _ => by omega⟩, fun y => by omega⟩
    | look =>
      simp only
      by_cases hm : 0 < mm
      · simp only [hm, if_true]
        exact ⟨fun e => by omega, fun _ => ⟨hw0, hw1⟩⟩
      · simp only [hm, if_false]
        rcases decid_cases H g.lo g.hi sw0 sw with ⟨e, c⟩ | ⟨e, c, c'⟩ <;> rw [e]
        · exact ⟨fun _ => ⟨fun _ => by omega, fun y => by omega⟩, fun y => by omega⟩
        · exact ⟨fun _ => ⟨fun y => by omega, fun _ => by omega⟩, fun y => by omega⟩
  · have t10 := h.t10
    have t6 := h.t6
    have ht := o.st.ht
    have h0 := o.st.h0
    have r4 := h.r4
    have lh := k.lh
    have l0 := k.l0
    have ght := k.ht
    have sw := o.st.sw
    have m0 := o.st.m0
    have ol := o.st.lean
    have oth := o.oth f
    have z0 := ok2.h0
    have z1 := ok2.ht
    obtain ⟨hh, sw0, mm⟩ := s
    simp only at *
    have hw1 : sw0 = 1 → hh + 1 ≤ warm r hh sw0 w ∨ warm r hh sw0 w = r.top := fun e => by unfold warm; rw [if_pos e]; omega
    unfold tick at z0 z1 ⊢
    unfold setSw
    simp only at z0 z1 ⊢
    generalize warm r hh sw0 w = H at hw1 z0 z1
    cases hk : g.kd with
    | stay => rw [hk] at f; cases f
    | look => rw [hk] at f; cases f
    | gap => exact ⟨fun _ => rfl, fun _ => ⟨by simp only; omega, by simp only; omega⟩⟩
    | late => exact ⟨fun _ => rfl, fun _ => ⟨by simp only; omega, by simp only; omega⟩⟩
    | lean =>
      simp only
      have ol' := ol hk
      rcases decid_cases H g.lo (g.hi - mm) sw0 sw with ⟨e, c⟩ | ⟨e, c, c'⟩ <;> rw [e]
      · refine ⟨fun y => by omega, fun _ => ?_⟩
        rw [if_pos rfl]
        rcases sw with e0 | e1
        · have := oth.1 e0
          omega
        · have := oth.2 e1
          have := hw1 e1
          omega
      · exact ⟨fun _ => by rw [if_neg (by omega)], fun y => by omega⟩
def cls20 (m : Int) : List Sta := (List.range 10).map (fun (k : Nat) => ((k : Int), (1 : Int), m)) ++ (List.range 10).map fun (k : Nat) => ((k : Int) + 1, (0 : Int), m)
def cls20' (m : Int) : List Sta := (List.range 10).map (fun (k : Nat) => ((k : Int), (0 : Int), m)) ++ (List.range 10).map fun (k : Nat) => ((k : Int) + 1, (1 : Int), m)
def allFour (r : Rm) (g : Rg) : List Sta := first r :: (cls20 (g.tk - 1) ++ (cls20' 0 ++ if g.tk = 3 then cls20' 1 else []))
def clsOn (m n : Nat) : List Sta := (List.range n).map fun (k : Nat) => ((k : Int) + (m : Int) - 1, (1 : Int), (m : Int))
def allOth : List Sta := (List.range 11).map (fun (k : Nat) => ((k : Int), (0 : Int), (0 : Int))) ++ ((List.range 11).map (fun (k : Nat) => ((k : Int), (1 : Int), (0 : Int))) ++ (clsOn 1 10 ++ (clsOn 2 8 ++ (clsOn 3 6 ++ (clsOn 4 4 ++ clsOn 5 2)))))
theorem lim_mem {r : Rm} {g : Rg} (h : r.Ok) (k : g.Ok r.top) : ∃ m : List Sta, m.length ≤ 61 ∧ ∀ s, Lim r g s → s ∈ m := by
  have t10 := h.t10
  have l0 := k.l0
  have ght := k.ht
  cases hf : g.kd.four with
  | true =>
    have k2 := k.k2 hf
    have k3 := k.k3 hf
    have e : (allFour r g).length ≤ 61 := by
      unfold allFour cls20 cls20'
      split <;> simp
    refine ⟨allFour r g, e, fun s o => ?_⟩
    have h0 := o.st.h0
    have ht := o.st.ht
    have m0 := o.st.m0
    have o4 := o.st.four hf
    unfold allFour
    rcases o.four hf with e | ⟨c1, c2⟩
    · rw [e]; simp
    · refine List.mem_cons_of_mem _ ?_
      obtain ⟨a, b, m⟩ := s
      have sw := o.st.sw
      simp only at *
      by_cases hm : m = g.tk - 1
      · refine List.mem_append_left _ ?_
        subst hm
        obtain ⟨d1, d2⟩ := c1 rfl
        rcases sw with rfl | rfl
        · refine List.mem_append_right _ (List.mem_map.mpr ⟨(a - 1).toNat, List.mem_range.mpr (by have := d2 rfl; omega), ?_⟩)
          have := d2 rfl
          rw [Int.toNat_of_nonneg (by omega)]
          simp
        · refine List.mem_append_left _ (List.mem_map.mpr ⟨a.toNat, List.mem_range.mpr (by have := d1 rfl; omega), ?_⟩)
          rw [Int.toNat_of_nonneg h0]
      · refine List.mem_append_right _ ?_
        obtain ⟨d1, d2⟩ := c2 (by omega)
        have key : ∀ m, (a, b, m) ∈ cls20' m := fun m => by
          rcases sw with rfl | rfl
          · refine List.mem_append_left _ (List.mem_map.mpr ⟨a.toNat, List.mem_range.mpr (by have := d1 rfl; omega), ?_⟩)
            rw [Int.toNat_of_nonneg h0]
          · refine List.mem_append_right _ (List.mem_map.mpr ⟨(a - 1).toNat, List.mem_range.mpr (by have := d2 rfl; omega), ?_⟩)
            have := d2 rfl
            rw [Int.toNat_of_nonneg (by omega)]
            simp
        by_cases hz : m = 0
        · subst hz
          exact List.mem_append_left _ (key 0)
        · have : g.tk = 3 ∧ m = 1 := by omega
          rw [if_pos this.1, this.2]
          exact List.mem_append_right _ (key 1)
  | false =>
    have e : allOth.length ≤ 61 := by decide
    refine ⟨allOth, e, fun s o => ?_⟩
    have h0 := o.st.h0
    have ht := o.st.ht
    have m0 := o.st.m0
    have sw := o.st.sw
    obtain ⟨d1, d2⟩ := o.oth hf
    obtain ⟨a, b, m⟩ := s
    simp only at *
    have on : ∀ (mm n : Nat), m = mm → 1 ≤ mm → a - m + 1 < n → (mm : Int) ≤ a + 1 → (a, (1 : Int), m) ∈ clsOn mm n := fun mm n e _ h1 h2 => by
      subst e
      refine List.mem_map.mpr ⟨(a - mm + 1).toNat, List.mem_range.mpr (by omega), ?_⟩
      rw [Int.toNat_of_nonneg (by omega)]
      have : a - (mm : Int) + 1 + (mm : Int) - 1 = a := by omega
      rw [this]
    unfold allOth
    rcases sw with rfl | rfl
    · rw [d1 rfl]
      refine List.mem_append_left _ (List.mem_map.mpr ⟨a.toNat, List.mem_range.mpr (by omega), ?_⟩)
      rw [Int.toNat_of_nonneg h0]
    · refine List.mem_append_right _ ?_
      obtain ⟨c1, c2⟩ := d2 rfl
      have hc : m = 0 ∨ m = 1 ∨ m = 2 ∨ m = 3 ∨ m = 4 ∨ m = 5 := by omega
      rcases hc with e | e | e | e | e | e
      · subst e
        refine List.mem_append_left _ (List.mem_map.mpr ⟨a.toNat, List.mem_range.mpr (by omega), ?_⟩)
        rw [Int.toNat_of_nonneg h0]
      · exact List.mem_append_right _ (List.mem_append_left _ (on 1 10 e (by omega) (by omega) (by omega)))
      · exact List.mem_append_right _ (List.mem_append_right _ (List.mem_append_left _ (on 2 8 e (by omega) (by omega) (by omega))))
      · exact List.mem_append_right _ (List.mem_append_right _ (List.mem_append_right _ (List.mem_append_left _ (on 3 6 e (by omega) (by omega) (by omega)))))
      · exact List.mem_append_right _ (List.mem_append_right _ (List.mem_append_right _ (List.mem_append_right _ (List.mem_append_left _ (on 4 4 e (by omega) (by omega) (by omega))))))
      · exact List.mem_append_right _ (List.mem_append_right _ (List.mem_append_right _ (List.mem_append_right _ (List.mem_append_right _ (on 5 2 e (by omega) (by omega) (by omega))))))
theorem lim_few {r : Rm} {g : Rg} (h : r.Ok) (k : g.Ok r.top) {l : List Sta} (hn : l.Nodup) (hl : ∀ s ∈ l, Lim r g s) : l.length ≤ 61 := by
  obtain ⟨m, hm, hs⟩ := lim_mem h k
  exact Nat.le_trans (sub_len l m hn fun s hs' => hs s (hl s hs')) hm
end HC
namespace HC
open PySem PySem.Spec PyProof.Rows L2
structure RGood (r : Rm) (g : Rg) (l : Rows) : Prop where
  nd : (l.map (·.1)).Nodup
  lim : ∀ p ∈ l, Lim r g p.1
  run : ∀ p ∈ l, lastSt r (along r g p.2) = p.1
  wk : ∀ p ∈ l, ∀ w ∈ p.2, 1 ≤ w ∧ w ≤ 3
  len : ∀ (i : Nat) p, l[i]? = some p → p.2.length ≤ i
def Cl (r : Rm) (g : Rg) (l : Rows) (n : Nat) : Prop := ∀ (i : Nat) p, i < n → l[i]? = some p → ∀ w : Int, 1 ≤ w → w ≤ 3 → tick r g p.1 w ∈ l.map (·.1)
section
variable {r : Rm} {g : Rg}
theorem last_snoc (ws : List Int) (w : Int) : lastSt r (along r g (ws ++ [w])) = tick r g (lastSt r (along r g ws)) w := by
  rw [along_snoc]
  unfold lastSt
  rw [List.getLast?_append]
  rfl
theorem RGood.l61 (h : r.Ok) (k : g.Ok r.top) {l : Rows} (o : RGood r g l) : l.length ≤ 61 := by
  have := lim_few h k o.nd fun s hs => by
    obtain ⟨p, hp, rfl⟩ := List.mem_map.mp hs
    exact o.lim p hp
  rwa [List.length_map] at this
theorem visit1_in {p : Sta × List Int} {l : Rows} {w : Int} : tick r g p.1 w ∈ (visit1 r g p l w).map (·.1) := by
  unfold visit1
  split
  · rename_i h
    cases e : lkp l (tick r g p.1 w) with
    | none => rw [e] at h; cases h
    | some b => exact List.mem_map.mpr ⟨_, lkp_mem e, rfl⟩
  · simp
theorem visit1_good {l : Rows} {p : Sta × List Int} {w : Int} {here : Nat} (h : r.Ok) (k : g.Ok r.top) (o : RGood r g l) (hp : l[here]? = some p) (w1 : 1 ≤ w) (w3 : w ≤ 3) : RGood r g (visit1 r g p l w) := by
  have pm := List.mem_of_getElem? hp
  unfold visit1
  split
  · exact o
  · rename_i hz
    have hn : lkp l (tick r g p.1 w) = none := by
      cases e : lkp l (tick r g p.1 w) with
      | none => rfl
      | some b => rw [e] at hz; exact absurd rfl hz
    refine ⟨?_, fun q hq => ?_, fun q hq => ?_, fun q hq => ?_, fun i q hq => ?_⟩
    · rw [List.map_append, List.nodup_append]
      refine ⟨o.nd, by simp, fun a ha b hb z => ?_⟩
      simp at hb
      rw [z, hb] at ha
      exact lkp_none.mp hn ha
    · rcases List.mem_append.mp hq with hq | hq
      · exact o.lim q hq
      · rw [List.mem_singleton.mp hq]
        exact tick_lim h k (o.lim p pm) w1 w3
    · rcases List.mem_append.mp hq with hq | hq
      · exact o.run q hq
      · rw [List.mem_singleton.mp hq]
        show lastSt r (along r g (p.2 ++ [w])) = _
        rw [last_snoc, o.run p pm]
    · rcases List.mem_append.mp hq with hq | hq
      · exact o.wk q hq
      · rw [List.mem_singleton.mp hq]
        intro v hv
        rcases List.mem_append.mp hv with hv | hv
        · exact o.wk p pm v hv
        · rw [List.mem_singleton.mp hv]
          exact ⟨w1, w3⟩
    · have hlt := (List.getElem?_eq_some_iff.mp hp).1
      by_cases hi : i < l.length
      · rw [List.getElem?_append_left hi] at hq
        exact o.len i q hq
      · rw [List.getElem?_append_right (by omega)] at hq
        have hi2 : i - l.length = 0 := by
          have := (List.getElem?_eq_some_iff.mp hq).1
          simp at this
          omega
        rw [hi2] at hq
        cases hq
        have := o.len here p hp
        simp
        omega
theorem visit1_keep {l : Rows} {p : Sta × List Int} {w : Int} {i : Nat} {q : Sta × List Int} (h : l[i]? = some q) : (visit1 r g p l w)[i]? = some q := by
  obtain ⟨m, e⟩ := visit1_pre (r := r) (g := g) (l := l) (p := p) (w := w)
  rw [e, List.getElem?_append_left (List.getElem?_eq_some_iff.mp h).1]
  exact h
theorem visit_keep {l : Rows} {p : Sta × List Int} {i : Nat} {q : Sta × List Int} (h : l[i]? = some q) : (visit r g p l)[i]? = some q := visit1_keep (visit1_keep (visit1_keep h))
theorem visit1_mem {l : Rows} {p : Sta × List Int} {w : Int} {s : Sta} (h : s ∈ l.map (·.1)) : s ∈ (visit1 r g p l w).map (·.1) := by
  obtain ⟨m, e⟩ := visit1_pre (r := r) (g := g) (l := l) (p := p) (w := w)
  rw [e, List.map_append]
  exact List.mem_append_left _ h
theorem visit_good {l : Rows} {p : Sta × List Int} {here : Nat} (h : r.Ok) (k : g.Ok r.top) (o : RGood r g l) (hp : l[here]? = some p) : RGood r g (visit r g p l) :=
  visit1_good h k (visit1_good h k (visit1_good h k o hp (by omega) (by omega)) (visit1_keep hp) (by omega) (by omega)) (visit1_keep (visit1_keep hp)) (by omega) (by omega)
theorem visit_in {l : Rows} {p : Sta × List Int} {w : Int} (w1 : 1 ≤ w) (w3 : w ≤ 3) : tick r g p.1 w ∈ (visit r g p l).map (·.1) := by
  have : w = 1 ∨ w = 2 ∨ w = 3 := by omega
  unfold visit
  rcases this with rfl | rfl | rfl
  · exact visit1_mem (visit1_mem visit1_in)
  · exact visit1_mem visit1_in
  · exact visit1_in
theorem bfs_good (h : r.Ok) (k : g.Ok r.top) : ∀ (n here : Nat) (l : Rows), 61 < n + here → here ≤ l.length → RGood r g l → Cl r g l here → RGood r g (bfs r g n here l) ∧ Cl r g (bfs r g n here l) (bfs r g n here l).length ∧ ∀ (i : Nat) q, l[i]? = some q → (bfs r g n here l)[i]? = some q
  | 0, here, l, hn, hl, o, c => by
    have := o.l61 h k
    exact absurd hn (by omega)
  | n + 1, here, l, hn, hl, o, c => by
    rw [bfs]
    cases e : l[here]? with
    | none =>
      have : l.length ≤ here := List.getElem?_eq_none_iff.mp e
      have : here = l.length := by omega
      subst this
      exact ⟨o, c, fun i q hq => hq⟩
    | some p =>
      have hlt := (List.getElem?_eq_some_iff.mp e).1
      obtain ⟨m, em⟩ := visit_pre (r := r) (g := g) (l := l) (p := p)
      have hlen : l.length ≤ (visit r g p l).length := by rw [em, List.length_append]; omega
      have c' : Cl r g (visit r g p l) (here + 1) := fun i q hi hq w w1 w3 => by
        by_cases hi2 : i = here
        · subst hi2
          rw [visit_keep e] at hq
          cases hq
          exact visit_in w1 w3
        · have hi3 : i < here := by omega
          have hq0 : l[i]? = some q := by
            rw [em, List.getElem?_append_left (by omega)] at hq
            exact hq
          have := c i q hi3 hq0 w w1 w3
          rw [em, List.map_append]
          exact List.mem_append_left _ this
      obtain ⟨a, b, d⟩ := bfs_good h k n (here + 1) (visit r g p l) (by omega) (by omega) (visit_good h k o e) c'
      exact ⟨a, b, fun i q hq => d i q (visit_keep hq)⟩
theorem rows_start (h : r.Ok) (k : g.Ok r.top) : RGood r g [(first r, [])] := by
  refine ⟨by simp, fun p hp => ?_, fun p hp => ?_, fun p hp => ?_, fun i p hp => ?_⟩
  · rw [List.mem_singleton.mp hp]; exact first_lim h k
  · rw [List.mem_singleton.mp hp]; rfl
  · rw [List.mem_singleton.mp hp]; intro w hw; cases hw
  · have : i = 0 := by
      have := (List.getElem?_eq_some_iff.mp hp).1
      simp at this
      exact this
    subst this
    cases hp
    exact Nat.le_refl _
theorem rows_good (h : r.Ok) (k : g.Ok r.top) : RGood r g (rowsL r g) ∧ Cl r g (rowsL r g) (rowsL r g).length ∧ (rowsL r g)[0]? = some (first r, []) := by
  obtain ⟨a, b, c⟩ := bfs_good h k 300 0 [(first r, [])] (by omega) (by simp) (rows_start h k) fun i p hi => absurd hi (Nat.not_lt_zero _)
  exact ⟨a, b, c 0 _ rfl⟩
inductive Reach (r : Rm) (g : Rg) (s : Sta) : Sta → Prop
  | one {w : Int} : 1 ≤ w → w ≤ 3 → Reach r g s (tick r g s w)
  | more {t : Sta} {w : Int} : Reach r g s t → 1 ≤ w → w ≤ 3 → Reach r g s (tick r g t w)
theorem Reach.lim (h : r.Ok) (k : g.Ok r.top) {s t : Sta} (o : Lim r g s) (c : Reach r g s t) : Lim r g t := by
  induction c with
  | one w1 w3 => exact tick_lim h k o w1 w3
  | more _ w1 w3 ih => exact tick_lim h k ih w1 w3
theorem rows_closed (h : r.Ok) (k : g.Ok r.top) {s : Sta} (hs : s ∈ (rowsL r g).map (·.1)) {w : Int} (w1 : 1 ≤ w) (w3 : w ≤ 3) : tick r g s w ∈ (rowsL r g).map (·.1) := by
  obtain ⟨_, c, _⟩ := rows_good h k
  obtain ⟨p, hp, rfl⟩ := List.mem_map.mp hs
  obtain ⟨i, hi⟩ := List.mem_iff_getElem?.mp hp
  exact c i p (List.getElem?_eq_some_iff.mp hi).1 hi w w1 w3
end
end HC
namespace HC
open PySem PySem.Spec PyProof.Rows L2
abbrev keysL (r : Rm) (g : Rg) : List Sta := (rowsL r g).map (·.1)
def stOf : D → Sta
  | .tuple [.int a, .int b, .int c] => (a, b, c)
  | _ => (0, 0, 0)
end HC
namespace HC
open PySem PySem.Spec PyProof.Rows L2
theorem sSet_tdG {i : Nat} {t tj : TP} {e : En} {r : Env} {kvs : List (NestedKey × D)} (h : slot r i = .own (.tdict kvs)) (q : t r (fun d => tj r (fun j => ∃ ks, j = .tuple (keysD ks) ∧ (NestedKey.tup ks).depth ≤ 8 ∧ kvs.length < sizeLine ∧ e.nx (r.set i (.own (.tdict (kvPut kvs (.tup ks) d))))) (e.ex r)) (e.ex r)) : sSet i t tj e r := by
  unfold sSet
  rw [h]
  exact q
structure Dfs (r : Rm) (g : Rg) (s : Sta) (l os : List Sta) (hd : Option (Sta × Int)) : Prop where
  nd : l.Nodup
  re : ∀ t ∈ l, Reach r g s t
  op : ∀ t ∈ os, t = s ∨ t ∈ l
  hh : ∀ h n, hd = some (h, n) → h = s ∨ h ∈ l
  cl : ∀ t, (t = s ∨ t ∈ l) → t ∉ os → ∀ w : Int, 1 ≤ w → w ≤ 3 → (∀ h n, hd = some (h, n) → t = h → w ≤ n) → tick r g t w ∈ l
section
variable {r : Rm} {g : Rg} {s : Sta}
theorem Dfs.l61 (ok : r.Ok) (gk : g.Ok r.top) (o : Lim r g s) {l os : List Sta} {hd : Option (Sta × Int)} (d : Dfs r g s l os hd) : l.length ≤ 61 := lim_few ok gk d.nd fun t ht => (d.re t ht).lim ok gk o
theorem Dfs.start : Dfs r g s [] [s] none := ⟨by simp, fun t h => (by cases h), fun t h => .inl (List.mem_singleton.mp h), fun h n z => (by cases z), fun t h hn => by
  rcases h with rfl | h
  · exact absurd (by simp) hn
  · cases h⟩
theorem Dfs.old {l os : List Sta} {h : Sta} {n : Int} (d : Dfs r g s l os (some (h, n))) (hin : tick r g h (n + 1) ∈ l) : Dfs r g s l os (some (h, n + 1)) := ⟨d.nd, d.re, d.op, fun h' m z => by
  cases z
  exact d.hh h n rfl, fun t ht hn w w1 w3 hw => by
  by_cases e : t = h ∧ w = n + 1
  · rw [e.1, e.2]
    exact hin
  · refine d.cl t ht hn w w1 w3 fun h' m z e' => ?_
    cases z
    have := hw h (n + 1) rfl e'
    have : ¬ w = n + 1 := fun z => e ⟨e', z⟩
    omega⟩
theorem Dfs.new {l os : List Sta} {h : Sta} {n : Int} (d : Dfs r g s l os (some (h, n))) (n0 : 0 ≤ n) (n3 : n + 1 ≤ 3) (hin : tick r g h (n + 1) ∉ l) : Dfs r g s (l ++ [tick r g h (n + 1)]) (os ++ [tick r g h (n + 1)]) (some (h, n + 1)) := by
  refine ⟨?_, fun t ht => ?_, fun t ht => ?_, fun h' m z => ?_, fun t ht hn w w1 w3 hw => ?_⟩
  · rw [List.nodup_append]
    refine ⟨d.nd, by simp, fun a ha b hb z => ?_⟩
    rw [List.mem_singleton.mp hb] at z
    exact hin (z ▸ ha)
  · rcases List.mem_append.mp ht with ht | ht
    · exact d.re t ht
    · rw [List.mem_singleton.mp ht]
      rcases d.hh h n rfl with e | e
      · rw [e]; exact .one (by omega) n3
      · exact .more (d.re h e) (by omega) n3
  · rcases List.mem_append.mp ht with ht | ht
    · rcases d.op t ht with e | e
      · exact .inl e
      · exact .inr (List.mem_append_left _ e)
    · exact .inr (List.mem_append_right _ ht)
  · cases z
    rcases d.hh h n rfl with e | e
    · exact .inl e
    · exact .inr (List.mem_append_left _ e)
  · have hn1 : t ∉ os := fun z => hn (List.mem_append_left _ z)
    have ht1 : t = s ∨ t ∈ l := by
      rcases ht with e | e
      · exact .inl e
      · rcases List.mem_append.mp e with e | e
        · exact .inr e
        · exact absurd (List.mem_append_right _ e) hn
    by_cases e : t = h ∧ w = n + 1
    · rw [e.1, e.2]
      simp
    · refine List.mem_append_left _ (d.cl t ht1 hn1 w w1 w3 fun h' m z e' => ?_)
      cases z
      have := hw h (n + 1) rfl e'
      have : ¬ w = n + 1 := fun z => e ⟨e', z⟩
      omega
theorem Dfs.next {l os : List Sta} {h : Sta} (d : Dfs r g s l os (some (h, 3))) : Dfs r g s l os none := ⟨d.nd, d.re, d.op, fun h n z => (by cases z), fun t ht hn w w1 w3 _ => d.cl t ht hn w w1 w3 fun h' m z _ => by
  cases z
  exact w3⟩
theorem Dfs.all {l : List Sta} (d : Dfs r g s l [] none) : ∀ t, t ∈ l ↔ Reach r g s t := fun t => ⟨d.re t, fun c => by
  induction c with
  | one w1 w3 => exact d.cl s (.inl rfl) (by simp) _ w1 w3 (fun _ _ z => by cases z)
  | more _ w1 w3 ih => exact d.cl _ (.inr ih) (by simp) _ w1 w3 (fun _ _ z => by cases z)⟩
end
end HC
namespace HC
open PySem PySem.Spec PyProof.Rows L2
theorem in_rows {r : Rm} {g : Rg} {Q : D → Prop} {E : Addr → Prop} (ok : r.Ok) (gk : g.Ok r.top) (q : Q (encRows (rowsL r g))) : sp_rows_of [r.enc, g.enc] Q E := ⟨(r, g), rfl, ⟨ok, gk⟩, q⟩
end HC
namespace HC
open PySem PySem.Spec PyProof.Rows L2
theorem rows_td (l : Rows) : encRows l = .tdict (encL stK encIs l) := rfl
theorem keys_lim {r : Rm} {g : Rg} (ok : r.Ok) (gk : g.Ok r.top) {s : Sta} (h : s ∈ keysL r g) : Lim r g s := by
  obtain ⟨p, hp, rfl⟩ := List.mem_map.mp h
  exact (rows_good ok gk).1.lim p hp
theorem keys_len {r : Rm} {g : Rg} (ok : r.Ok) (gk : g.Ok r.top) : (keysL r g).length ≤ 61 := by
  rw [List.length_map]
  exact (rows_good ok gk).1.l61 ok gk
end HC
namespace HC
open PySem PySem.Spec PyProof.Rows L2
def Wd (ws : List Int) : Prop := ∀ w ∈ ws, 1 ≤ w ∧ w ≤ 3
def max3 (a b c : Int) : Int := if b ≤ a then (if c ≤ a then a else c) else if c ≤ b then b else c
section
variable (r : Rm) (g : Rg)
def clk (s t : Sta) : Int := if t.2.1 = s.2.1 then 0 else 1
theorem clk_01 (s t : Sta) : 0 ≤ clk s t ∧ clk s t ≤ 1 := by unfold clk; split <;> omega
def most : Nat → Sta → Int
  | 0, _ => 0
  | n + 1, s => max3 (most n (tick r g s 1) + clk s (tick r g s 1)) (most n (tick r g s 2) + clk s (tick r g s 2)) (most n (tick r g s 3) + clk s (tick r g s 3))
def valW (n : Nat) (s : Sta) (w : Int) : Int := most r g n (tick r g s w) + clk s (tick r g s w)
def bestW (n : Nat) (s : Sta) : Int := if valW r g n s 1 = most r g (n + 1) s then 1 else if valW r g n s 2 = most r g (n + 1) s then 2 else 3
def grow : Nat → Sta → List Int
  | 0, _ => []
  | n + 1, s => bestW r g n s :: grow n (tick r g s (bestW r g n s))
end
end HC
namespace HC
open PySem PySem.Spec PyProof.Rows L2
theorem Reach.from {r : Rm} {g : Rg} {s t : Sta} {w : Int} (h1 : 1 ≤ w) (h3 : w ≤ 3) (c : Reach r g (tick r g s w) t) : Reach r g s t := by
  induction c with
  | one a b => exact .more (.one h1 h3) a b
  | more _ a b ih => exact .more ih a b
section
variable (r : Rm) (g : Rg)
variable (lo hi : Int)
def outB (s : Sta) : Bool := decide (s.1 < lo) || decide (s.1 > hi)
def stepO (f : Sta → Int) (s : Sta) (c w : Int) : Int := if outB lo hi (tick r g s w) = true then (if 1 + f (tick r g s w) > c then 1 + f (tick r g s w) else c) else c
def fO : Nat → Sta → Int
  | 0, _ => 0
  | n + 1, s => stepO r g lo hi (fO n) s (stepO r g lo hi (fO n) s (stepO r g lo hi (fO n) s 0 1) 2) 3
inductive OutW : Sta → List Sta → Prop
  | nil (s : Sta) : OutW s []
  | cons {s : Sta} {w : Int} {l : List Sta} : 1 ≤ w → w ≤ 3 → outB lo hi (tick r g s w) = true → OutW (tick r g s w) l → OutW s (tick r g s w :: l)
variable {r g lo hi}
theorem OutW.out {s : Sta} {l : List Sta} (h : OutW r g lo hi s l) : ∀ t ∈ l, outB lo hi t = true := by
  induction h with
  | nil => intro t ht; cases ht
  | cons _ _ ho _ ih =>
    intro t ht
    rcases List.mem_cons.mp ht with rfl | ht
    · exact ho
    · exact ih t ht
theorem OutW.reach {s : Sta} {l : List Sta} (h : OutW r g lo hi s l) : ∀ t ∈ l, Reach r g s t := by
  induction h with
  | nil => intro t ht; cases ht
  | @cons s w l h1 h3 _ _ ih =>
    intro t ht
    rcases List.mem_cons.mp ht with rfl | ht
    · exact .one h1 h3
    · have := ih t ht
      exact Reach.from h1 h3 this
theorem OutW.twice {s : Sta} {l : List Sta} (h : OutW r g lo hi s l) (hn : ¬ l.Nodup) : ∃ t ∈ l, Reach r g t t := by
  induction h with
  | nil => exact absurd List.nodup_nil hn
  | @cons s w l h1 h3 _ hl ih =>
    rw [List.nodup_cons] at hn
    by_cases hm : tick r g s w ∈ l
    · exact ⟨_, List.mem_cons_self, hl.reach _ hm⟩
    · obtain ⟨t, ht, c⟩ := ih fun z => hn ⟨hm, z⟩
      exact ⟨t, List.mem_cons_of_mem _ ht, c⟩
end
end HC
namespace HC
open PySem PySem.Spec PyProof.Rows L2
def prD (q : List NestedKey × D) : D := .tuple [.tuple (keysD q.1), q.2]
def gDictP : Bn := fun ds Q => match ds with
  | [.list ds] => ∃ kvs : List (List NestedKey × D), ds = kvs.map prD ∧ (kvs.map (·.1)).Nodup ∧ (∀ q ∈ kvs, (NestedKey.tup q.1).depth ≤ 8) ∧ Q (.tdict (kvs.map fun q => (.tup q.1, q.2)))
  | _ => False
theorem mo_dictP : MoB gDictP := ⟨fun {ds Q Q'} hq h => by
  unfold gDictP at h ⊢
  split at h
  · obtain ⟨kvs, a, b, c, d⟩ := h
    exact ⟨kvs, a, b, c, hq _ d⟩
  · exact h⟩
section
variable {X : Cx} {C : Ct} {W : XW} {k : Nat}
theorem pairs_rp {pins : List (Addr × Obj)} {σ : L2.St} {H : Hp} {s : Shared} {M : Addr → Prop} (I : Inv X pins σ H s) : ∀ {kvs : List (List NestedKey × D)} {xs : List V} {its : List Value}, RpA X.K X.prog X.w M H xs (kvs.map prD) → Vals xs its →
    ∃ qs : List (Addr × NestedKey × Addr × Value), its = qs.map (fun q => Value.ref q.1) ∧ (∀ q ∈ qs, PairAt s.heap q.1 (.ref q.2.2.1) q.2.2.2) ∧ (∀ q ∈ qs, NestedIs s.heap q.2.1 (.ref q.2.2.1)) ∧ RpN X.K X.prog X.w M H (qs.map (·.2)) (kvs.map fun q => (.tup q.1, q.2))
  | [], _, _, .nil, .nil => ⟨[], rfl, fun _ h => (by cases h), fun _ h => (by cases h), .nil⟩
  | q :: kvs, v :: xs, it :: its, .cons a b, .cons c d => by
    obtain ⟨qs, e1, e2, e3, e4⟩ := pairs_rp I b d
    obtain ⟨T, ys, rfl, sq, pa⟩ := (Rp.q (C := ⟨X.K, X.prog, X.w, none, fun _ => False, fun _ => none⟩) a).tup
    have ci : it = Value.ref T := c
    subst ci
    cases pa with
    | cons pk pr =>
      cases pr with
      | cons pv pn =>
        cases pn
        rename_i vk vv
        obtain ⟨its2, rv, pl, hz⟩ := I.tuple sq
        cases rv with
        | cons rk rr =>
          cases rr with
          | cons rvv rn =>
            cases rn
            rename_i uk uv
            have hk : NestedIs s.heap (.tup q.1) uk := key_heap I (.tup q.1) _ _ pk rk
            obtain ⟨b0, ev⟩ : ∃ b0, vk = V.ref b0 := by
              cases pk with
              | tup m h r => exact ⟨_, rfl⟩
              | ktup h r => exact ⟨_, rfl⟩
            subst ev
            have eu : uk = Value.ref b0 := rk
            subst eu
            refine ⟨(T, .tup q.1, b0, uv) :: qs, by rw [e1]; rfl, ?_, ?_, .cons pk rvv pv e4⟩
            · intro q' hq'
              rcases List.mem_cons.mp hq' with rfl | hq'
              · exact .inl pl
              · exact e2 q' hq'
            · intro q' hq'
              rcases List.mem_cons.mp hq' with rfl | hq'
              · exact hk
              · exact e3 q' hq'
theorem stored_nodup {K : Type} [DecidableEq K] : ∀ (ps xs : List (K × Addr × Value)), ((xs ++ ps).map (·.1)).Nodup → storedAllH xs ps = xs ++ ps
  | [], xs, _ => by rw [List.append_nil]; rfl
  | p :: ps, xs, h => by
    show storedAllH (storedH xs p.1 p.2.1 p.2.2) ps = _
    have hn : atKey xs p.1 = none := by
      cases e : atKey xs p.1 with
      | none => rfl
      | some y =>
        rw [List.map_append, List.map_cons, List.nodup_append] at h
        have hm : p.1 ∈ xs.map (·.1) := by
          have : ∀ {l : List (K × Addr × Value)}, atKey l p.1 = some y → p.1 ∈ l.map (·.1) := by
            intro l
            induction l with
            | nil => intro z; simp [atKey] at z
            | cons a l ih =>
              intro z
              by_cases ha : a.1 = p.1
              · rw [List.map_cons, ha]; exact List.mem_cons_self
              · refine List.mem_cons_of_mem _ (ih ?_)
                rw [← z]
                simp [atKey, List.find?_cons, ha]
          exact this e
        exact absurd rfl (h.2.2 p.1 hm p.1 List.mem_cons_self)
    rw [storedH_new hn]
    have := stored_nodup ps (xs ++ [(p.1, p.2.1, p.2.2)]) (by rw [List.append_assoc]; exact h)
    rw [this, List.append_assoc]
    rfl
theorem b_dictP (G : Good X C W k) : Blt X C (.type "dict") gDictP := by
  refine ⟨?_, mo_dictP⟩
  refine fit_cases (X := X) (motive := fun C => CallR X (.type "dict") (rDn C gDictP)) (fun T M0 H0 => ?_) C G.fit
  intro pins s σ H xs us Q I r ⟨M, ds, rq, dm, h⟩
  unfold gDictP at h
  split at h
  · obtain ⟨kvs, rfl, nd, dp, q⟩ := h
    obtain ⟨v, rfl, r1⟩ := rq1 rq
    obtain ⟨a, ys, rfl, ea, pa⟩ := r1.lst
    rw [Vals.ref1 r]
    obtain ⟨its, rv, pl, hz⟩ := I.list (SqL.of ea)
    obtain ⟨qs, e1, e2, e3, e4⟩ := pairs_rp I pa rv
    subst e1
    have hl : qs.length = kvs.length := by
      have := rpn_len e4
      rw [List.length_map, List.length_map] at this
      exact this
    obtain ⟨o, n, ho, hc, hd, hdat⟩ := pl
    have keys : (qs.map (·.2)).map (·.1) = kvs.map fun q => NestedKey.tup q.1 := by
      have : ∀ {ps : List (NestedKey × Addr × Value)} {ks : List (NestedKey × D)}, RpN X.K X.prog X.w M H ps ks → ps.map (·.1) = ks.map (·.1) := by
        intro ps
        induction ps with
        | nil => intro ks z; cases z; rfl
        | cons p ps ih => intro ks z; cases z with | cons _ _ _ z => rw [List.map_cons, List.map_cons, ih z]
      rw [this e4, List.map_map]
      rfl
    have ndk : (((qs.map (·.2)).map (·.1))).Nodup := by
      rw [keys]
      have : (kvs.map fun q => NestedKey.tup q.1) = (kvs.map (·.1)).map NestedKey.tup := by rw [List.map_map]; rfl
      rw [this]
      exact List.Pairwise.map _ (fun a b hne e => hne (by injection e)) nd
    have es := stored_nodup (qs.map (·.2)) [] (by simpa using ndk)
    have dpk : ∀ x ∈ qs.map (·.2), x.1.depth ≤ 8 := fun x hx => by
      have : x.1 ∈ (qs.map (·.2)).map (·.1) := List.mem_map_of_mem hx
      rw [keys] at this
      obtain ⟨q', hq', e⟩ := List.mem_map.mp this
      rw [← e]
      exact dp q' hq'
    have hyl := HC.RpA.length pa
    rw [List.length_map] at hyl
    replace hz : qs.length ≤ sizeLine := by omega
    refine call_dict_pairsH (knd := nestedKind X.prog X.w) (ps := qs.map (·.2)) (PairArg.list a (qs.map fun q => Value.ref q.1).toArray (fun j => ((qs[j]?).map (·.1)).getD 0) (qs.map fun q => (Value.ref q.2.2.1, q.2.2.2))) (I.ok.hd G.calm) ?_ ?_ ?_ ?_ ?_ fun h' tk hd' hk => ?_
    · have := G.hu65
      show X.A.units + 2 + 8 < cLine
      omega
    · refine ⟨⟨o, n, ho, hc, hd, hdat⟩, ⟨by simp, fun j kk vv hj => ?_⟩⟩
      rw [List.getElem?_map] at hj
      obtain ⟨q', hq', e⟩ := Option.map_eq_some_iff.mp hj
      cases e
      refine ⟨?_, ?_⟩
      · simp [hq']
      · show PairAt s.heap (((qs[j]?).map (·.1)).getD 0) _ _
        rw [hq']
        exact e2 q' (List.mem_of_getElem? hq')
    · refine ⟨by simp, fun i key v hr => ?_⟩
      have hr : (qs.map fun q => (Value.ref q.2.2.1, q.2.2.2))[i]? = some (key, v) := hr
      rw [List.getElem?_map] at hr
      obtain ⟨q', hq', e⟩ := Option.map_eq_some_iff.mp hr
      cases e
      exact ⟨q'.2.1, q'.2.2.1, by rw [List.getElem?_map, hq']; rfl, rfl⟩
    · intro h' hk x hx
      obtain ⟨q', hq', rfl⟩ := List.mem_map.mp hx
      refine ⟨NestedIs.at (fun b o vs n e _ => hk b o (Nat.ne_of_lt (Heap.lt_size e)) (by simp) e) _ _ (e3 q' hq'), dpk _ hx⟩
    · rw [List.length_map]; exact hz
    · rw [es, List.nil_append] at hd'
      have hm : (s.heap.objs.size == sysModules) = false := beq_eq_false_iff_ne.mpr (Nat.ne_of_gt I.big)
      obtain ⟨ob, g1, g2⟩ := dent_of (X := X) hd' (by rw [List.length_map]; exact hz) hm dpk
      have hp := I.hok.fresh (Nat.le_refl s.heap.objs.size)
      refine ⟨.ref s.heap.objs.size, upd H s.heap.objs.size (dnO s.heap.objs.size ob), I.laid (t' := tk) (fun b o e => hk b o (by simp) e) (Nat.le_refl _) (dn_objOk g1), rfl, q _ _ (same_upd hp) (.dctN (dm.fresh hp) upd_same g2 (e4.step (Stp.grow (same_upd hp))))⟩
  · exact h.elim
end
end HC
namespace HC
open PySem PySem.Spec PyProof.Rows L2
section
variable {X : Cx} {C : Ct}
theorem rpn_keys {K : PySem.W.Frag} {P : Program} {w : World} {M : Addr → Prop} {H : Hp} : ∀ {xs : List (NestedKey × Addr × Value)} {kvs : List (NestedKey × D)}, RpN K P w M H xs kvs → xs.map (·.1) = kvs.map (·.1)
  | [], _, .nil => rfl
  | x :: xs, _, .cons _ _ _ r => by rw [List.map_cons, List.map_cons, rpn_keys r]
end
end HC
namespace HC
open PySem PySem.Spec PyProof.Rows L2
theorem boot_dict' : bootBuiltins "dict" = some (.type "dict") := by decide +kernel
end HC
namespace HC
open PySem PySem.Spec PyProof.Rows L2
theorem for_rngT {n : Nat} {t : TP} {g : GD} {body : TSD} {e : En} {r : Env} (ht : ∀ (Q : D → Prop) (E : Addr → Prop), Q (.int (n : Int)) → t r Q E) (P : Nat → Env → Prop) (hn : n ≤ 1000) (h0 : P 0 r) (hd : ∀ r, P n r → e.nx r)
    (hs : ∀ k r nx, k < n → P k r → (∀ r', P (k + 1) r' → nx r') → ∃ r1, g (.int (k : Int)) r = some r1 ∧ body (e.lp nx) r1) :
    sFor (iRange (wCons t wNil)) g body e r := ht _ _ (rng_loop P hn h0 hd hs)
theorem for_seqT {α : Type} {t : TP} {g : GD} {body : TSD} {e : En} {r : Env} (enc : α → D) (l : List α) (ht : ∀ (Q : List D → Prop) (E : Addr → Prop), Q (l.map enc) → iSeq t r Q E) (P : List α → Env → Prop) (h0 : P l r) (hd : ∀ r, P [] r → e.nx r)
    (hs : ∀ a rest r nx, P (a :: rest) r → (∀ r', P rest r' → nx r') → ∃ r1, g (enc a) r = some r1 ∧ body (e.lp nx) r1) :
    sFor (iSeq t) g body e r := by
  refine ht _ _ ?_
  refine loop_gen enc P l r h0 hd fun a rest r hp => ?_
  obtain ⟨r1, e1, _⟩ := hs a rest r (fun _ => True) hp fun _ _ => trivial
  refine ⟨r1, e1, fun go => ?_⟩
  obtain ⟨r2, e2, hb⟩ := hs a rest r _ hp go
  rw [e1] at e2
  cases e2
  exact hb
theorem nd_app {pre rest : List Sta} {s : Sta} (h : (pre ++ s :: rest).Nodup) : s ∉ pre := fun z => by
  rw [List.nodup_append] at h
  exact h.2.2 s z s List.mem_cons_self rfl
section
variable {r : Rm} {g : Rg}
theorem keys_nd (ok : r.Ok) (gk : g.Ok r.top) : (keysL r g).Nodup := (rows_good ok gk).1.nd
theorem first_key (ok : r.Ok) (gk : g.Ok r.top) : first r ∈ keysL r g := List.mem_map.mpr ⟨(first r, []), List.mem_of_getElem? (rows_good ok gk).2.2, rfl⟩
end
end HC
namespace HC
open PySem PySem.Spec PyProof.Rows L2
abbrev TK := List (Addr × List Int)
section
variable {P : Program} {w : World} {A : Around} {E : Value → Shared → Prop} {s : Shared}
structure Gat (ks : TK) (i : Nat) (L : TK) : Prop where
  a : ∀ q ∈ L, q ∈ ks.take i
  b : ∀ q ∈ ks.take i, q.2 ∈ L.map (·.2)
theorem Gat.old {ks L : TK} {i : Nat} {y : Addr × List Int} (g : Gat ks i L) (h : ks[i]? = some y) (hm : y.2 ∈ L.map (·.2)) : Gat ks (i + 1) L := by
  have e := take_next h
  constructor
  · intro q hq
    rw [e]
    exact List.mem_append_left _ (g.a q hq)
  · intro q hq
    rw [e, List.mem_append] at hq
    rcases hq with hq | hq
    · exact g.b q hq
    · cases List.mem_singleton.mp hq
      exact hm
theorem Gat.new {ks L L' : TK} {i : Nat} {y : Addr × List Int} (g : Gat ks i L) (h : ks[i]? = some y) (pm : L'.Perm (y :: L)) : Gat ks (i + 1) L' := by
  have e := take_next h
  constructor
  · intro q hq
    rw [e, List.mem_append]
    rcases List.mem_cons.mp (pm.mem_iff.mp hq) with rfl | z
    · exact .inr List.mem_cons_self
    · exact .inl (g.a q z)
  · intro q hq
    rw [(pm.map (·.2)).mem_iff, List.map_cons]
    rw [e, List.mem_append] at hq
    rcases hq with hq | hq
    · exact List.mem_cons_of_mem _ (g.b q hq)
    · cases List.mem_singleton.mp hq
      exact List.mem_cons_self
theorem upd_tups {I : Addr} {fp wr : List Addr} {G : Array GenState → Array GenState → Prop} {n : Nat} {Pv : Nat → Value → Prop} {St : Nat → Shared → Prop} {R : Result → Shared → Prop}
    (W : WalksS P w A.in1 I fp wr G n Pv St) (S : Addr) (nm : S ∉ fp) (ks : TK) (hn : n = ks.length) (m : List (List Int)) (hm : ∀ q ∈ ks, q.2 ∈ m) (hm2 : m.length < 63) (vals : ∀ i v, Pv i v → ∃ q, ks[i]? = some q ∧ v = .ref q.1)
    (h0 : Heap) (tk0 : ∀ q ∈ ks, IsT P w h0 q.2 q.1) (hS0 : h0.get? S = none) (hw0 : ∀ b ∈ wr, h0.get? b = none) (hu : A.in1.units < cLine) :
    ∀ (k i : Nat) (s : Shared), n - i = k → i ≤ n → St i s → (∀ b o, h0.get? b = some o → s.heap.get? b = some o) → (∃ L es ep t, SetTR P w s.heap S L es ep t ∧ Gat ks i L) →
      (∀ s' L es ep t, Moved (S :: wr) G s s' → SetTR P w s'.heap S L es ep t → Gat ks n L → (∀ b o, h0.get? b = some o → s'.heap.get? b = some o) → R (.ok (.ret .none)) s') →
      codeAny (model P w) A (.builtin "set.update.loop" ⟨[.ref S, .ref I], []⟩) R s := by
  have nw : S ∉ wr := fun h => nm (W.sub _ h)
  have up : ∀ b ∈ wr, b ∈ S :: wr := fun b hb => List.mem_cons_of_mem _ hb
  have kp : ∀ {s s' : Shared}, Moved wr G s s' → (∀ b o, h0.get? b = some o → s.heap.get? b = some o) → ∀ b o, h0.get? b = some o → s'.heap.get? b = some o := fun mv old b o e =>
    mv.heap b o (fun hb => by rw [hw0 b hb] at e; cases e) (old b o e)
  have few : ∀ {L : TK} {i : Nat}, (L.map (·.2)).Nodup → Gat ks i L → L.length + 1 < 64 := fun {L i} nd g => by
    have := sub_len (L.map (·.2)) m nd fun k hk => by
      obtain ⟨q, hq, rfl⟩ := List.mem_map.mp hk
      exact hm q (List.mem_of_mem_take (g.a q hq))
    rw [List.length_map] at this
    omega
  intro k
  induction k with
  | zero =>
    intro i s e0 hi st old ⟨L, es, ep, t, hS, g⟩ fin
    obtain rfl : i = n := by omega
    refine codeAny_builtin PyProof.Rows.F.entry_set_update_loop ?_
    rw [Around.under_plainId PyProof.Rows.F.plain_set_update_loop _]
    refine wpAny_bind (W.done s _ _ st fun s' mv => ?_)
    refine wpAny_pure (?_ : R (.ok (.ret .none)) s')
    have old' := kp mv old
    exact fin s' L es ep t (mv.mono up) (hS.keep (fun o e => mv.heap S o nw e) fun q hq => isT_keep (tk0 q (List.mem_of_mem_take (g.a q hq))) old') g old'
  | succ k ih =>
    intro i s e0 hi st old ⟨L, es, ep, t, hS, g⟩ fin
    have lt : i < n := by omega
    refine codeAny_builtin PyProof.Rows.F.entry_set_update_loop ?_
    rw [Around.under_plainId PyProof.Rows.F.plain_set_update_loop _]
    refine wpAny_bind (W.item i s _ _ lt st fun v s' pv st' mv => ?_)
    obtain ⟨q, hq, rfl⟩ := vals i v pv
    have old' := kp mv old
    have hS' : SetTR P w s'.heap S L es ep t := hS.keep (fun o e => mv.heap S o nw e) fun y hy => isT_keep (tk0 y (List.mem_of_mem_take (g.a y hy))) old'
    have hx : IsT P w s'.heap q.2 q.1 := isT_keep (tk0 q (List.mem_of_getElem? hq)) old'
    refine (?_ : wpAny _ A.in1 (holding [Value.ref q.1] (setAdd S (.ref q.1)) >>= _) _ _ s')
    unfold setAdd
    refine wpAny_bind (wpAny_holding (wpAny_holding (wpAny_bind (wpAny_pyHash_tuple hu hx ?_))))
    refine add_at (s := { s' with toks := s'.toks + (q.2.length + 1) }) hS' hx hu (few hS'.nd g) fun b h1 L' es' ep' t' sb hS2 c1 c2 => ?_
    have g' : Gat ks (i + 1) L' := by
      rcases Classical.em (q.2 ∈ L.map (·.2)) with c | c
      · rw [c1 c]; exact g.old hq c
      · exact g.new hq (c2 c)
    have old2 : ∀ b o, h0.get? b = some o → h1.get? b = some o := fun b o e => (sb.2 b (fun z => by rw [z, hS0] at e; cases e)).trans (old' b o e)
    refine wpAny_pure ⟨plainId_quiet PyProof.Rows.F.plain_set_update_loop _, ih (i + 1) _ (by omega) lt (W.frame _ s' _ _ st' (Nat.le_add_right _ _) fun b hb o e => ?_) old2 ⟨L', es', ep', t', hS2, g'⟩ fun s2 L2 es2 ep2 t2 mv2 hS3 g3 old3 => ?_⟩
    · rw [sb.2 b (fun z : b = S => nm (by rw [← z]; exact hb))]
      exact e
    · refine fin s2 L2 es2 ep2 t2 (Moved.trans W.gtrans ((mv.mono up).then_heap (Nat.le_add_right _ _) fun b o hb e => ?_) mv2) hS3 g3 old3
      rw [sb.2 b (fun z : b = S => hb (by rw [z]; exact List.mem_cons_self))]
      exact e
theorem set_of_tups {l : Addr} {its : Array Value} (ks : TK) (m : List (List Int)) (hm : ∀ q ∈ ks, q.2 ∈ m) (hm2 : m.length < 63) {Q : Value → Shared → Prop} (hn0 : A.handled = none) (lst : s.heap.IsList l its) (iar : its.toList = ks.map fun q => Value.ref q.1)
    (tk0 : ∀ q ∈ ks, IsT P w s.heap q.2 q.1) (hu : A.units + 3 < cLine)
    (fin : ∀ (h1 : Heap) (tk : Nat) L es ep t, SetTR P w h1 s.heap.objs.size L es ep t → Gat ks ks.length L → (∀ b o, s.heap.get? b = some o → h1.get? b = some o) → Q (.ref s.heap.objs.size) { s with heap := h1, toks := tk }) :
    wpAny (model P w) A (call (.type "set") [.ref l]) Q E s := by
  have len : its.size = ks.length := by have z := congrArg List.length iar; rw [Array.length_toList, List.length_map] at z; exact z
  obtain ⟨cc, tl, hm0⟩ := PySem.F.called_set.mro
  have hm1 := PySem.F.called_set.made; have hm3 := PySem.F.called_set.sub
  refine wpAny_call (codeAny_of_tree (?_ : wpAny _ _ (callAny (.type "set") _) _ _ _))
  refine wpAny_pure ⟨Code.quiet_builtin _ (by decide +kernel), codeAny_builtin PySem.F.entry_type_call ?_⟩
  rw [Around.under_plain (weight_type_call_type "set" [.ref l] []) rfl]
  have n1 := PySem.F.called_set.notType; have n2 := PySem.F.called_set.canCreate; have n3 := PySem.F.typeCall_set_1 (.ref l)
  repeat (any_goals (first | assumption | wp_step))
  refine codeAny_mono (code_set_led1 (.ref l) (E := E) (Q₁ := fun ob s1 => ob = .ref s.heap.objs.size ∧ s1 = { s with heap := s.heap.push (so0 w) }) ⟨rfl, rfl⟩) fun rr s1 hr => ?_
  cases rr with
  | error e => exact hr
  | ok fl =>
    cases fl with
    | ret ob =>
      obtain ⟨rfl, rfl⟩ := hr
      have gS : (s.heap.push (so0 w)).get? s.heap.objs.size = some (so0 w) := Heap.get?_push_size _ rfl
      have tS : Shared.TypeIs { s with heap := s.heap.push (so0 w) } (.ref s.heap.objs.size) "set" := ⟨_, gS, rfl⟩
      have i1 := PySem.F.called_set.init.lookup; have i2 := PySem.F.called_set.init.bind (.ref s.heap.objs.size)
      repeat (any_goals (first | assumption | wp_step))
      refine codeAny_mono (codeAny_call_builtin (R := wants (fun z s2 => z = .none ∧ ∃ h1 tk L es ep t, s2 = { s with heap := h1, toks := tk } ∧ SetTR P w h1 s.heap.objs.size L es ep t ∧ Gat ks ks.length L ∧ (∀ b o, s.heap.get? b = some o → h1.get? b = some o)) E) PySem.F.called_set.init.plain PySem.F.entry_set_init (check_set_init_1 tS ?_)) fun r2 s2 hr2 => ?_
      · obtain ⟨ol, g1, c1, nl, d1⟩ := lst
        obtain ⟨xc, xd, xa, xs⟩ := ol
        simp only at c1 d1
        subst c1; subst d1
        have g2 : (s.heap.push (so0 w)).get? l = some { cls := .type "list", dict := xd, data := .seq its nl, slots := xs } := Heap.get?_push_of_some _ g1
        have u1 := PySem.F.sub_list_set; have u2 := PySem.F.sub_list_frozenset
        have u3 : (Value.type "list" == Value.type "dict") = false := by decide
        have l1 : (s.heap.push (so0 w)).IsList l its := ⟨_, g2, rfl, nl, rfl⟩
        unfold Builtin.«set.__init__» noKeywords Builtin.Frozenset.updateFrom
        generalize hp : pyIter = pIt
        wp_walk
        subst hp
        refine wpAny_pyIter_list l1 (wpAny_bind (wpAny_runValue ?_))
        have lt : l < s.heap.objs.size := Heap.lt_size g1
        have h3 : A.in1.in1.in1.handled = none := by simp [hn0]
        have ne1 : l ≠ (s.heap.push (so0 w)).objs.size := by rw [Heap.size_push]; exact Nat.ne_of_lt (Nat.lt_succ_of_lt lt)
        have nm : s.heap.objs.size ∉ [(s.heap.push (so0 w)).objs.size, l] := by
          rw [Heap.size_push]
          simp only [List.mem_cons, List.mem_singleton, List.not_mem_nil, or_false, not_or]
          exact ⟨Nat.ne_of_lt (Nat.lt_succ_self _), Nat.ne_of_gt lt⟩
        have vals : ∀ (i : Nat) (v : Value), its[i]? = some v → ∃ q, ks[i]? = some q ∧ v = .ref q.1 := fun i v hv => by
          have z : its.toList[i]? = some v := by rw [Array.getElem?_toList]; exact hv
          rw [iar, List.getElem?_map] at z
          obtain ⟨q, hq, rfl⟩ := Option.map_eq_some_iff.mp z
          exact ⟨q, hq, rfl⟩
        have out : ∀ b, s.heap.objs.size ≤ b → s.heap.get? b = none := fun b hb => by
          cases z : s.heap.get? b with
          | none => rfl
          | some o => exact absurd (Heap.lt_size z) (Nat.not_lt.mpr hb)
        refine upd_tups ((Walks.list h3 _ l ne1 its).toS) s.heap.objs.size nm ks len m hm hm2 vals s.heap tk0 (out _ (Nat.le_refl _)) (fun b hb => out b (by rw [List.mem_singleton.mp hb, Heap.size_push]; exact Nat.le_succ _)) hu (its.size - 0) 0 _ (by omega) (Nat.zero_le _) ⟨⟨_, Heap.get?_push_size _ rfl, rfl, rfl⟩, (l1.push _)⟩ (fun b o e => Heap.get?_push_of_some _ (Heap.get?_push_of_some _ e)) ⟨[], #[], 0, _, setTR_fresh (Heap.get?_push_of_some _ gS), ⟨fun q h => (by cases h), fun q h => (by simp at h)⟩⟩ ?_
        intro s' L es ep t mv hS' g' old
        obtain ⟨h1, g3, d', tk', os'⟩ := s'
        have e1 : g3 = s.gens := mv.gens; have e2 : d' = s.drawn := mv.drawn; have e3 : os' = s.os := mv.os
        subst e1; subst e2; subst e3
        refine wpAny_pure (?_ : wpAny _ _ (ret Value.none) _ _ _)
        rw [len] at g'
        exact wpAny_pure ⟨rfl, h1, tk', L, es, ep, t, rfl, hS', g', old⟩
      · cases r2 with
        | error e => exact hr2
        | ok f2 =>
          cases f2 with
          | ret z =>
            obtain ⟨rfl, h1, tk, L, es, ep, t, rfl, hS', g', hk'⟩ := hr2
            repeat (any_goals (first | assumption | wp_step))
            exact fin _ _ _ _ _ _ hS' g' hk'
          | _ => exact hr2.elim
    | _ => exact hr.elim
end
section
variable {X : Cx}
def rSetF (K : PySem.W.Frag) (P : Program) (w : World) : List V → Hp → VK → Prop := fun xs H Q => ∃ (l : Addr) (ks : TK) (m : List (List Int)), xs = [V.ref l] ∧ SqL K H l (ks.map fun q => V.ref q.1) ∧ (∀ q ∈ ks, SqT K H q.1 (q.2.map V.int)) ∧ (∀ q ∈ ks, q.2 ∈ m) ∧ m.length < 63 ∧
  ∀ a L, H a = none → (∀ q ∈ L, q ∈ ks) → (∀ q ∈ ks, q.2 ∈ L.map (·.2)) → Q (.ref a) (upd H a (SetTO P w a L))
theorem cr_setF (hc : X.calm = true) (hu : X.A.units + 64 < cLine) : CallR X (.type "set") (rSetF X.K X.prog X.w) := by
  intro pins s σ H xs us Q I r ⟨l, ks, m, e, sq, tk, hm, hm2, q⟩
  subst e
  rw [Vals.ref1 r]
  obtain ⟨its, rv, pl, hz⟩ := I.list sq
  have new : H s.heap.objs.size = none := I.hok.fresh (Nat.le_refl _)
  refine set_of_tups (P := X.prog) (w := X.w) ks m hm hm2 (I.ok.hd hc) pl.isList (by simpa using refs_of_vals rv) (fun y hy => I.isT (tk y hy)) (by omega) fun h1 t1 L es ep t R g old => ?_
  refine ⟨.ref s.heap.objs.size, _, I.laid (t' := t1) old (Nat.le_refl _) (setTO_new R.t0), rfl, q _ L new (fun y hy => List.mem_of_mem_take (g.a y hy)) fun y hy => g.b y (by rw [List.take_length]; exact hy)⟩
end
end HC
namespace HC
open PySem PySem.Spec PyProof.Rows L2
def tupD (k : List Int) : D := .tuple (k.map D.int)
def wSortSetT (t : TP) : TP := fun r Q E => t r (fun x => match x with
  | .list ds => ∃ (ks m : List (List Int)) (n : Nat) (B : Int), ds = ks.map tupD ∧ (∀ k ∈ ks, k ∈ m) ∧ m.length < 63 ∧ 1 ≤ n ∧ (∀ k ∈ ks, k.length = n ∧ TS.Bd B k) ∧
    ∀ out : List (List Int), out.Nodup → (∀ k, k ∈ out ↔ k ∈ ks) → out.Pairwise (fun a b => TS.code B a ≤ TS.code B b) → Q (.list (out.map tupD))
  | _ => False) E
section
variable {K : PySem.W.Frag} {P : Program} {w : World} {M : Addr → Prop} {H : Hp}
theorem tups_rp : ∀ {ks : List (List Int)} {xs : List V}, RpA K P w M H xs (ks.map tupD) → ∃ qs : TK, xs = qs.map (fun q => V.ref q.1) ∧ qs.map (·.2) = ks ∧ (∀ q ∈ qs, SqT K H q.1 (q.2.map V.int)) ∧ ∀ q ∈ qs, Rp K P w M H (.ref q.1) (tupD q.2)
  | [], _, .nil => ⟨[], rfl, rfl, fun _ h => (by cases h), fun _ h => (by cases h)⟩
  | k :: ks, _, .cons a b => by
    obtain ⟨qs, e1, e2, e3, e4⟩ := tups_rp b
    obtain ⟨T, ys, rfl, sq, pa⟩ := (Rp.q (C := ⟨K, P, w, none, fun _ => False, fun _ => none⟩) a).tup
    have ey := HC.RpA.ofInts pa
    subst ey
    refine ⟨(T, k) :: qs, by rw [e1]; rfl, by rw [List.map_cons, e2], ?_, ?_⟩
    · intro q hq
      rcases List.mem_cons.mp hq with rfl | hq
      · exact sq
      · exact e3 q hq
    · intro q hq
      rcases List.mem_cons.mp hq with rfl | hq
      · exact a
      · exact e4 q hq
theorem sqT_same {H' : Hp} {a : Addr} {xs : List V} (h : SqT K H a xs) (s : Same H H') : SqT K H' a xs := by
  rcases h with (h | ⟨o, h⟩) | h
  · exact .inl (.inl (s _ _ h))
  · exact .inl (.inr ⟨o, s _ _ h⟩)
  · exact .inr h
theorem rpA_tups : ∀ {qs : TK}, (∀ q ∈ qs, Rp K P w M H (.ref q.1) (tupD q.2)) → RpA K P w M H (qs.map fun q => V.ref q.1) ((qs.map (·.2)).map tupD)
  | [], _ => .nil
  | q :: qs, h => .cons (h q List.mem_cons_self) (rpA_tups fun y hy => h y (List.mem_cons_of_mem _ hy))
end
section
variable {X : Cx} {C : Ct} {W : XW} {k : Nat} {e : Expr} {t : TP} {p1 p2 c1 c2 : Pos}
theorem dn_sortSetT (G : Good X C W k) (ha : DE X C W e t) (m1 : X.mg "sorted" = none) (m2 : X.mg "set" = none) (hg1 : Gl X "sorted" := by rfl) (hg2 : Gl X "set" := by rfl)
    (he1 : starEach [e] X.env = (false, eval e X.env) :: starEach [] X.env := by rfl) (hp1 : (backTo c2 (starEach [] X.env)).any (·.1) = false := by rfl)
    (he2 : starEach [.Call (.Name "set" p2) [e] [] c2] X.env = (false, eval (.Call (.Name "set" p2) [e] [] c2) X.env) :: starEach [] X.env := by rfl) (hp2 : (backTo c1 (starEach [] X.env)).any (·.1) = false := by rfl) :
    DN X C W (.Call (.Name "sorted" p1) [.Call (.Name "set" p2) [e] [] c2] [] c1) (wSortSetT t) := by
  refine ⟨(pe_callB (cr_sortedT G.calm) hg1 m1 boot_sorted' (pa_cons (pe_callTy (cr_setF G.calm G.hu) hg2 m2 boot_set' (pa_cons ha.pe pa_nil he1) (by decide) (by decide) he1 hp1) pa_nil he2) (by decide) (by decide) he2 hp2).imp fun σ H Q ⟨M, r, E, S, hW, q⟩ => ⟨M, r, E, S, hW, ha.mo.imp (fun x z v H1 k1 S1 p1 => ?_) (fun _ z => z) q⟩,
    ⟨fun hq hE q => ha.mo.imp (fun x z => ?_) hE q⟩⟩
  · have F := G.fit
    cases x with
    | list ds =>
      obtain ⟨K0, P0, w0, T0, M0, H0⟩ := C
      obtain ⟨z1, z2, z3⟩ := F
      cases z1; cases z2; cases z3
      obtain ⟨ks, m, n, B, rfl, h1, h2, h3, h4, q⟩ := z
      obtain ⟨a, ys, rfl, ea, pa⟩ := p1.lst
      obtain ⟨qs, rfl, e2, e3, e4⟩ := tups_rp pa
      have hin : ∀ y ∈ qs, y.2 ∈ ks := fun y hy => by rw [← e2]; exact List.mem_map_of_mem hy
      refine ⟨a, qs, m, rfl, SqL.of ea, e3, fun y hy => h1 _ (hin y hy), h2, fun p L hp sub all => ?_⟩
      have s1 : Same H1 (upd H1 p (SetTO X.prog X.w p L)) := same_upd hp
      refine ⟨p, L, n, B, rfl, upd_same, fun y hy => sqT_same (e3 y (sub y hy)) s1, h3, fun y hy => h4 _ (hin y (sub y hy)), fun L' b pm nd hl pw hb => ?_⟩
      have s2 : Same (upd H1 p (SetTO X.prog X.w p L)) (upd (upd H1 p (SetTO X.prog X.w p L)) b (.lst (L'.map fun q => V.ref q.1))) := same_upd hb
      have hb1 : H1 b = none := by
        cases z : H1 b with
        | none => rfl
        | some o => rw [s1 b o z] at hb; cases hb
      have S3 := S1.take (p := b) (H' := upd (upd H1 p (SetTO X.prog X.w p L)) b (.lst (L'.map fun q => V.ref q.1))) hb1 (s1.trans s2) (by rw [upd_same]; simp)
      have sub' : ∀ y ∈ L', y ∈ qs := fun y hy => sub y (pm.mem_iff.mp hy)
      have stp : Stp M H1 (fun a => M a ∨ a = b) (upd (upd H1 p (SetTO X.prog X.w p L)) b (.lst (L'.map fun q => V.ref q.1))) := fun c o ec mc => ⟨(s1.trans s2) c o ec, fun z => by
        rcases z with z | z
        · exact mc z
        · subst z; rw [hb1] at ec; cases ec⟩
      refine q (L'.map (·.2)) nd (fun kk => ⟨fun hk => ?_, fun hk => ?_⟩) (List.Pairwise.map _ (fun _ _ z => z) pw) b _ (k1.trans (Same.ex (s1.trans s2))) (S1.none_of k1 hb1) S3 (.lst upd_same (rpA_tups fun y hy => (e4 y (sub' y hy)).step stp))
      · obtain ⟨y, hy, rfl⟩ := List.mem_map.mp hk
        exact hin y (sub' y hy)
      · rw [← e2] at hk
        obtain ⟨y, hy, rfl⟩ := List.mem_map.mp hk
        have := all y hy
        rw [(pm.map (·.2)).mem_iff]
        exact this
    | _ => exact z.elim
  · cases x with
    | list ds => exact let ⟨ks, m, n, B, a1, a2, a3, a4, a5, q⟩ := z; ⟨ks, m, n, B, a1, a2, a3, a4, a5, fun out a b c => hq _ (q out a b c)⟩
    | _ => exact z
end
end HC
namespace HC
open PySem PySem.Spec PyProof.Rows L2
def gListT : Bn := fun ds Q => match ds with
  | [.tdict kvs] => Q (.list (kvs.map fun p => keyD p.1))
  | _ => gList ds Q
section
variable {X : Cx} {C : Ct} {W : XW} {k : Nat}
theorem cr_listT (hc : X.calm = true) : CallR X (.type "list") (fun xs H Q => ∃ (a : Addr) (ob : Obj) (ys : List (NestedKey × Addr × Value)) (M : Addr → Prop) (kvs : List (NestedKey × D)), xs = [.ref a] ∧ H a = some (dnO a ob) ∧ DEnt X.prog X.w a ob ys ∧ RpN X.K X.prog X.w M H ys kvs ∧
    ∀ p ws, H p = none → RpA X.K X.prog X.w M H ws (kvs.map fun p => keyD p.1) → Q (.ref p) (upd H p (.lst ws))) := by
  intro pins s σ H xs us Q I r ⟨a, ob, ys, M, kvs, e, ea, de, rn, q⟩
  subst e
  obtain ⟨u, rfl, ru⟩ := vals1 r
  obtain rfl : u = Value.ref a := ru
  obtain ⟨es, ep, h4, hks⟩ := dent_keys de
  have h1 := de.1; have h2 := de.2.1; have h3 := de.2.2.1
  have ho : s.heap.get? a = some ob := (I.hok a _ ea).1
  have raw : s.heap.DictRaw a es ep := ⟨ob, ho, h3, h4⟩
  have Ks : PySem.W.KdlSrc X.prog X.w "dict" a a es.size (fun i v => ∃ hi : i < es.size, v = es[i].key) (fun h => h.DictRaw a es ep) := KdlSrc.rawDict h2
  have hsz : es.size = ys.length := by
    have := congrArg List.length hks
    simpa using this
  have pk := rpn_keysA rn
  have rk : Vals ((ys.map (·.2.1)).map V.ref) (es.toList.map (·.key)) := by
    rw [hks]
    generalize ys.map (·.2.1) = l
    induction l with
    | nil => exact .nil
    | cons x l ih => exact .cons rfl ih
  refine PySem.W.kdl_call Ks (by have := I.ok.hd hc; simpa using this) raw (by rw [hsz]; exact h1) fun h' tk acc c' hk hS hacc => ?_
  have el : acc.toList = es.toList.map (·.key) := by
    refine List.ext_getElem? fun n => ?_
    rw [List.getElem?_map, Array.getElem?_toList, Array.getElem?_toList]
    by_cases hn : n < es.size
    · have hn' : n < acc.size := by rw [hacc.1]; exact hn
      obtain ⟨_, e⟩ := hacc.2 n acc[n] (Array.getElem?_eq_getElem hn')
      rw [Array.getElem?_eq_getElem hn', Array.getElem?_eq_getElem hn, e]
      rfl
    · rw [Array.getElem?_eq_none (by rw [hacc.1]; omega), Array.getElem?_eq_none (by omega)]
      rfl
  have hl : ((ys.map (·.2.1)).map V.ref).length ≤ sizeLine := by rw [List.length_map, List.length_map]; exact h1
  refine ⟨.ref _, upd H s.heap.objs.size (.lst ((ys.map (·.2.1)).map V.ref)), I.laid (t' := tk) hk (Nat.le_refl _) ⟨hl, acc.toList, c', by rw [el]; exact rk, ?_⟩, rfl, q _ _ (I.hok.fresh (Nat.le_refl _)) pk⟩
  exact hS
theorem b_listT (G : Good X C W k) : Blt X C (.type "list") gListT := by
  refine ⟨?_, ⟨fun {ds Q Q'} hq h => ?_⟩⟩
  · refine fit_cases (X := X) (motive := fun C => CallR X (.type "list") (rDn C gListT)) (fun T M0 H0 => ?_) C G.fit
    intro pins s σ H xs us Q I r ⟨M, ds, rq, dm, h⟩
    unfold gListT at h
    split at h
    · obtain ⟨v, rfl, r1⟩ := rq1 rq
      obtain ⟨a, ob, ys, rfl, ea, de, rn⟩ := r1.td
      exact cr_listT G.calm pins s σ H _ us Q I r ⟨a, ob, ys, M, _, rfl, ea, de, rn, fun p ws hp pw => h _ _ (same_upd hp) (.lst (dm.fresh hp) upd_same (HC.RpA.step (Stp.grow (same_upd hp)) pw))⟩
    · exact (b_list (C := ⟨X.K, X.prog, X.w, T, M0, H0⟩) ⟨rfl, rfl, rfl⟩).ok pins s σ H xs us Q I r ⟨M, ds, rq, dm, h⟩
  · unfold gListT at h ⊢
    split at h
    · exact hq _ h
    · exact (b_list G.fit).mo.imp hq h
end
end HC
namespace HC
open PySem PySem.Spec PyProof.Rows L2
section
variable (r : Rm) (g : Rg) (lo hi : Int)
def Stb (s : Sta) (v : Int) : Prop := ∃ n0, ∀ n, n0 ≤ n → fO r g lo hi n s = v
theorem Stb.one {s : Sta} {v u : Int} (a : Stb r g lo hi s v) (b : Stb r g lo hi s u) : v = u := by
  obtain ⟨n, h⟩ := a
  obtain ⟨m, k⟩ := b
  rw [← h (n + m) (by omega), ← k (n + m) (by omega)]
def Inf (s : Sta) : Prop := ∀ n : Nat, (n : Int) ≤ fO r g lo hi n s
theorem Inf.no {s : Sta} (h : Inf r g lo hi s) {v : Int} (k : Stb r g lo hi s v) : False := by
  obtain ⟨n0, hk⟩ := k
  have a := h (n0 + v.toNat + 1)
  rw [hk _ (by omega)] at a
  omega
end
end HC
namespace HC
open PySem PySem.Spec PyProof.Rows L2
def trip (s : Sta) : List Int := [s.1, s.2.1, s.2.2]
theorem trip_inj {a b : Sta} (h : trip a = trip b) : a = b := by
  obtain ⟨a1, a2, a3⟩ := a
  obtain ⟨b1, b2, b3⟩ := b
  simp only [trip, List.cons.injEq, and_true] at h
  obtain ⟨rfl, rfl, rfl⟩ := h
  rfl
theorem lim_bd {r : Rm} {g : Rg} {s : Sta} (ok : r.Ok) (gk : g.Ok r.top) (h : Lim r g s) : TS.Bd 64 (trip s) := by
  have h1 := h.st
  have t10 := Rm.Ok.t10 ok
  have l0 := gk.l0
  have ht := gk.ht
  have a := h1.h0
  have b := h1.ht
  have c := h1.sw
  have d := h1.m0
  have e : s.2.2 ≤ 10 := by
    cases hf : g.kd.four with
    | true =>
      have := h1.four hf
      have := gk.k3 hf
      omega
    | false =>
      cases hk : g.kd with
      | gap => rw [h1.zero (.inl hk)]; omega
      | late => rw [h1.zero (.inr hk)]; omega
      | lean => have := h1.lean hk; omega
      | stay => rw [hk] at hf; cases hf
      | look => rw [hk] at hf; cases hf
  intro m hm
  simp only [trip, List.mem_cons, List.mem_nil_iff, or_false, List.not_mem_nil] at hm
  rcases hm with rfl | rfl | rfl <;> omega
theorem sort_states {r : Rm} {g : Rg} (ok : r.Ok) (gk : g.Ok r.top) {fr : List Sta} (hl : ∀ s ∈ fr, Lim r g s) {Q : D → Prop}
    (q : ∀ l : List Sta, l.Nodup → (∀ s, s ∈ l ↔ s ∈ fr) → l.Pairwise (fun a b => TS.code 64 (trip a) ≤ TS.code 64 (trip b)) → Q (encSts l)) :
    ∃ (ks m : List (List Int)) (n : Nat) (B : Int), fr.map encSt = ks.map tupD ∧ (∀ k ∈ ks, k ∈ m) ∧ m.length < 63 ∧ 1 ≤ n ∧ (∀ k ∈ ks, k.length = n ∧ TS.Bd B k) ∧
      ∀ out : List (List Int), out.Nodup → (∀ k, k ∈ out ↔ k ∈ ks) → out.Pairwise (fun a b => TS.code B a ≤ TS.code B b) → Q (.list (out.map tupD)) := by
  obtain ⟨m, hm, hin⟩ := lim_mem ok gk
  refine ⟨fr.map trip, m.map trip, 3, 64, by rw [List.map_map]; rfl, fun k hk => ?_, by rw [List.length_map]; omega, by omega, fun k hk => ?_, fun out nd mem pw => ?_⟩
  · obtain ⟨s, hs, rfl⟩ := List.mem_map.mp hk
    exact List.mem_map_of_mem (hin s (hl s hs))
  · obtain ⟨s, hs, rfl⟩ := List.mem_map.mp hk
    exact ⟨rfl, lim_bd ok gk (hl s hs)⟩
  · have : ∃ l : List Sta, out = l.map trip := by
      have h : ∀ k ∈ out, ∃ s, trip s = k := fun k hk => by
        obtain ⟨s, _, e⟩ := List.mem_map.mp ((mem k).mp hk)
        exact ⟨s, e⟩
      clear nd mem pw
      induction out with
      | nil => exact ⟨[], rfl⟩
      | cons k out ih =>
        obtain ⟨l, e⟩ := ih fun x hx => h x (List.mem_cons_of_mem _ hx)
        obtain ⟨s, es⟩ := h k List.mem_cons_self
        exact ⟨s :: l, by rw [List.map_cons, es, e]⟩
    obtain ⟨l, rfl⟩ := this
    have e : (l.map trip).map tupD = l.map encSt := by rw [List.map_map]; rfl
    rw [e]
    refine q l (List.Pairwise.of_map trip (fun a b hne e => hne (congrArg trip e)) nd) (fun s => ?_) ((List.pairwise_map (f := trip) (R := fun a b => TS.code 64 a ≤ TS.code 64 b)).mp pw)
    have := mem (trip s)
    constructor
    · intro hs
      obtain ⟨s', hs', e⟩ := List.mem_map.mp (this.mp (List.mem_map_of_mem hs))
      rw [← trip_inj e]; exact hs'
    · intro hs
      obtain ⟨s', hs', e⟩ := List.mem_map.mp (this.mpr (List.mem_map_of_mem hs))
      rw [← trip_inj e]; exact hs'
end HC
namespace HC
open PySem PySem.Spec PyProof.Rows L2
section
variable {r : Rm} {g : Rg} {lo hi : Int}
structure Peel (r : Rm) (g : Rg) (lo hi : Int) (ps : List (Sta × Int)) (left : List Sta) : Prop where
  nd : (ps.map (·.1)).Nodup
  sub : ∀ p ∈ ps, p.1 ∈ keysL r g
  st : ∀ p ∈ ps, Stb r g lo hi p.1 p.2
  lf : ∀ s, s ∈ left ↔ s ∈ keysL r g ∧ s ∉ ps.map (·.1)
  l61 : left.length ≤ 61
  lnd : left.Nodup
theorem Peel.add {ps : List (Sta × Int)} {s : Sta} {m : Int} (nd : (ps.map (·.1)).Nodup) (hs : s ∉ ps.map (·.1)) : ((ps ++ [(s, m)]).map (·.1)).Nodup := by
  rw [List.map_append, List.nodup_append]
  refine ⟨nd, by simp, fun a ha b hb => ?_⟩
  have : b = s := by simpa using hb
  subst this
  exact fun z => hs (z ▸ ha)
end
end HC
namespace HC
section
variable {V : Type} [DecidableEq V] {E : V → Int → V → Prop}
inductive Wk (E : V → Int → V → Prop) : Nat → V → V → Int → Prop
  | nil (s : V) : Wk E 0 s s 0
  | snoc {n : Nat} {u v w : V} {c d : Int} : Wk E n u v c → E v d w → Wk E (n + 1) u w (c + d)
theorem Wk.app {n m : Nat} {u v w : V} {c d : Int} (h1 : Wk E n u v c) (h2 : Wk E m v w d) : Wk E (n + m) u w (c + d) := by
  induction h2 with
  | nil s => rw [Int.add_zero]; exact h1
  | snoc h e ih => rw [← Nat.add_assoc, ← Int.add_assoc]; exact (ih h1).snoc e
theorem Wk.cast {n m : Nat} {u v : V} {c d : Int} (h : Wk E n u v c) (e1 : n = m) (e2 : c = d) : Wk E m u v d := by subst e1 e2; exact h
theorem Wk.path {n : Nat} {u v : V} {c : Int} (h : Wk E n u v c) : ∃ (f : Nat → V) (p : Nat → Int), f 0 = u ∧ f n = v ∧ p 0 = 0 ∧ p n = c ∧ ∀ i, i < n → E (f i) (p (i + 1) - p i) (f (i + 1)) := by
  induction h with
  | nil s => exact ⟨fun _ => s, fun _ => 0, rfl, rfl, rfl, rfl, fun i hi => absurd hi (Nat.not_lt_zero _)⟩
  | @snoc n u v w c d h e ih =>
    obtain ⟨f, p, h1, h2, h3, h4, h5⟩ := ih
    refine ⟨fun i => if i ≤ n then f i else w, fun i => if i ≤ n then p i else c + d, ?_, ?_, ?_, ?_, fun i hi => ?_⟩
    · simp [h1]
    · exact if_neg (by omega)
    · simp [h3]
    · exact if_neg (by omega)
    · by_cases hn : i < n
      · have a : i ≤ n := by omega
        have b : i + 1 ≤ n := hn
        simp only [a, b, if_true]
        exact h5 i hn
      · have a : i = n := by omega
        subst a
        have b : ¬ i + 1 ≤ i := by omega
        simp only [Nat.le_refl, b, if_true, if_false]
        rw [h2, h4]
        have : c + d - c = d := by omega
        rw [this]
        exact e
theorem Wk.of {n : Nat} {f : Nat → V} {p : Nat → Int} (h : ∀ i, i < n → E (f i) (p (i + 1) - p i) (f (i + 1))) (i : Nat) : ∀ k, i + k ≤ n → Wk E k (f i) (f (i + k)) (p (i + k) - p i)
  | 0, _ => (Wk.nil (f i)).cast rfl (by show (0 : Int) = p i - p i; omega)
  | k + 1, hk => by
    have z := (Wk.of h i k (by omega)).snoc (h (i + k) (by omega))
    refine z.cast rfl ?_
    show p (i + k) - p i + (p (i + k + 1) - p (i + k)) = p (i + (k + 1)) - p i
    have : i + (k + 1) = i + k + 1 := rfl
    rw [this]; omega
theorem Wk.stay {S : List V} (cl : ∀ s c a, s ∈ S → E s c a → a ∈ S) {n : Nat} {u v : V} {c : Int} (h : Wk E n u v c) (hu : u ∈ S) : v ∈ S := by
  induction h with
  | nil s => exact hu
  | snoc h e ih => exact cl _ _ _ (ih hu) e
theorem twice {S : List V} (f : Nat → V) (h : ∀ i, i ≤ S.length → f i ∈ S) : ∃ i j, i < j ∧ j ≤ S.length ∧ f i = f j := by
  refine Classical.byContradiction fun no => ?_
  have nd : ((List.range (S.length + 1)).map f).Nodup := by
    unfold List.Nodup
    rw [List.pairwise_map]
    refine List.Pairwise.imp_of_mem (R := fun a b => a < b) (fun {a b} ha hb lt e => ?_) List.pairwise_lt_range
    exact no ⟨a, b, lt, by have := List.mem_range.mp hb; omega, e⟩
  have := sub_len _ S nd (fun k hk => by
    obtain ⟨i, hi, rfl⟩ := List.mem_map.mp hk
    exact h i (by have := List.mem_range.mp hi; omega))
  rw [List.length_map, List.length_range] at this
  omega
theorem Wk.cut {S : List V} (cl : ∀ s c a, s ∈ S → E s c a → a ∈ S) {n : Nat} {u v : V} {c : Int} (h : Wk E n u v c) (hu : u ∈ S) (hn : S.length ≤ n) :
    ∃ a b d z c1 c0 c2, Wk E a u z c1 ∧ Wk E b z z c0 ∧ Wk E d z v c2 ∧ a + b + d = n ∧ c1 + c0 + c2 = c ∧ 1 ≤ b ∧ b ≤ S.length := by
  obtain ⟨f, p, h1, h2, h3, h4, h5⟩ := h.path
  have mem : ∀ i, i ≤ n → f i ∈ S := fun i hi => by
    have w := Wk.of h5 0 i (by omega)
    rw [Nat.zero_add, h1] at w
    exact w.stay cl hu
  obtain ⟨i, j, lt, le, e⟩ := twice f (fun i hi => mem i (by omega))
  have w1 := Wk.of h5 0 i (by omega)
  have w2 := Wk.of h5 i (j - i) (by omega)
  have w3 := Wk.of h5 j (n - j) (by omega)
  rw [Nat.zero_add, h1, h3] at w1
  rw [show i + (j - i) = j by omega, ← e] at w2
  rw [show j + (n - j) = n by omega, ← e, h2, h4] at w3
  exact ⟨i, j - i, n - j, f i, _, _, _, w1, w2, w3, by omega, by omega, by omega, by omega⟩
theorem Wk.round {S : List V} (cl : ∀ s c a, s ∈ S → E s c a → a ∈ S) {p q : Int} (sh : ∀ n s c, s ∈ S → 1 ≤ n → n ≤ S.length → Wk E n s s c → c * q ≤ p * n) : ∀ (m n : Nat) (s : V) (c : Int), n ≤ m → s ∈ S → Wk E n s s c → c * q ≤ p * n
  | 0, n, s, c, hm, hs, h => by
    have : n = 0 := by omega
    subst this
    cases h
    simp
  | m + 1, n, s, c, hm, hs, h => by
    by_cases hn : S.length ≤ n
    · obtain ⟨a, b, d, z, c1, c0, c2, w1, w2, w3, e1, e2, b1, b2⟩ := h.cut cl hs hn
      have r1 := sh b z c0 (w1.stay cl hs) b1 b2 w2
      have r2 := Wk.round cl sh m (a + d) s (c1 + c2) (by omega) hs (w1.app w3)
      have e3 : (n : Int) = (a + d : Nat) + (b : Nat) := by omega
      have e4 : c = (c1 + c2) + c0 := by omega
      rw [e3, e4, Int.add_mul, Int.mul_add]
      exact Int.add_le_add r2 r1
    · by_cases h0 : n = 0
      · subst h0; cases h; simp
      · exact sh n s c hs (by omega) (by omega) h
end
end HC
namespace HC
theorem frac_trans {a b c x y z : Int} (hy : 0 < y) (hz : 0 ≤ z) (hx : 0 ≤ x) (h1 : a * y ≤ b * x) (h2 : b * z ≤ c * y) : a * z ≤ c * x := by
  have e1 : (a * z) * y ≤ (c * x) * y := by
    have p1 : a * y * z ≤ b * x * z := Int.mul_le_mul_of_nonneg_right h1 hz
    have p2 : b * z * x ≤ c * y * x := Int.mul_le_mul_of_nonneg_right h2 hx
    have q1 : a * z * y = a * y * z := by rw [Int.mul_assoc, Int.mul_comm z y, ← Int.mul_assoc]
    have q2 : b * x * z = b * z * x := by rw [Int.mul_assoc, Int.mul_comm x z, ← Int.mul_assoc]
    have q3 : c * x * y = c * y * x := by rw [Int.mul_assoc, Int.mul_comm x y, ← Int.mul_assoc]
    rw [q1, q3]
    exact Int.le_trans p1 (q2 ▸ p2)
  exact Int.le_of_mul_le_mul_right e1 hy
theorem ex_frac {Q : Nat → Int → Prop} (pos : ∀ n c, Q n c → 1 ≤ n) : ∀ (l : List (Nat × Int)), (∃ x ∈ l, Q x.1 x.2) → ∃ x ∈ l, Q x.1 x.2 ∧ ∀ y ∈ l, Q y.1 y.2 → y.2 * (x.1 : Int) ≤ x.2 * (y.1 : Int)
  | [], ⟨_, h, _⟩ => by cases h
  | p :: l, ⟨x, hx, qx⟩ => by
    by_cases hl : ∃ x ∈ l, Q x.1 x.2
    · obtain ⟨z, z1, z2, z3⟩ := ex_frac pos l hl
      by_cases hp : Q p.1 p.2
      · have := pos _ _ hp
        have := pos _ _ z2
        by_cases le : p.2 * (z.1 : Int) ≤ z.2 * (p.1 : Int)
        · refine ⟨z, List.mem_cons_of_mem _ z1, z2, fun y hy qy => ?_⟩
          rcases List.mem_cons.mp hy with rfl | hy
          · exact le
          · exact z3 y hy qy
        · refine ⟨p, List.mem_cons_self .., hp, fun y hy qy => ?_⟩
          rcases List.mem_cons.mp hy with rfl | hy
          · exact Int.le_refl _
          · exact frac_trans (y := z.1) (b := z.2) (by omega) (by omega) (by omega) (z3 y hy qy) (by omega)
      · refine ⟨z, List.mem_cons_of_mem _ z1, z2, fun y hy qy => ?_⟩
        rcases List.mem_cons.mp hy with rfl | hy
        · exact absurd qy hp
        · exact z3 y hy qy
    · rcases List.mem_cons.mp hx with rfl | hx
      · refine ⟨x, List.mem_cons_self .., qx, fun y hy qy => ?_⟩
        rcases List.mem_cons.mp hy with rfl | hy
        · exact Int.le_refl _
        · exact absurd ⟨y, hy, qy⟩ hl
      · exact absurd ⟨x, hx, qx⟩ hl
section
variable {V : Type} [DecidableEq V] {E : V → Int → V → Prop} {S : List V}
structure Net (E : V → Int → V → Prop) (S : List V) (fs : V) : Prop where
  cl : ∀ s c a, s ∈ S → E s c a → a ∈ S
  fm : fs ∈ S
  rc : ∀ s ∈ S, ∃ n c, Wk E n fs s c
  out : ∀ s ∈ S, ∃ c a, E s c a
  cnt : ∀ s c a, E s c a → 0 ≤ c ∧ c ≤ 1
theorem Wk.cnt (h : ∀ s c a, E s c a → 0 ≤ c ∧ c ≤ 1) {n : Nat} {u v : V} {c : Int} (w : Wk E n u v c) : 0 ≤ c ∧ c ≤ n := by
  induction w with
  | nil s => omega
  | snoc w e ih => have := h _ _ _ e; omega
theorem Net.long {fs : V} (N : Net E S fs) : ∀ n, ∃ v c, Wk E n fs v c
  | 0 => ⟨fs, 0, .nil fs⟩
  | n + 1 => by
    obtain ⟨v, c, w⟩ := N.long n
    obtain ⟨d, a, e⟩ := N.out v (w.stay N.cl N.fm)
    exact ⟨a, c + d, w.snoc e⟩
def Rund (E : V → Int → V → Prop) (S : List V) (n : Nat) (c : Int) : Prop := 1 ≤ n ∧ n ≤ S.length ∧ ∃ s ∈ S, Wk E n s s c
theorem Net.best {fs : V} (N : Net E S fs) : ∃ n c, Rund E S n c ∧ ∀ m s d, s ∈ S → Wk E m s s d → d * (n : Int) ≤ c * (m : Int) := by
  obtain ⟨v, c, w⟩ := N.long S.length
  obtain ⟨a, b, d, z, c1, c0, c2, w1, w2, w3, e1, e2, b1, b2⟩ := w.cut N.cl N.fm (Nat.le_refl _)
  have hz := w1.stay N.cl N.fm
  have ml : ∀ (n : Nat) (c : Int), Rund E S n c → (n, c) ∈ (List.range (S.length + 1)).flatMap fun n => (List.range (S.length + 1)).map fun (k : Nat) => (n, (k : Int)) := by
    intro n c ⟨h1, h2, s, hs, w⟩
    have := w.cnt N.cnt
    refine List.mem_flatMap.mpr ⟨n, List.mem_range.mpr (by omega), List.mem_map.mpr ⟨c.toNat, List.mem_range.mpr (by omega), ?_⟩⟩
    rw [Int.toNat_of_nonneg this.1]
  obtain ⟨x, _, x2, x3⟩ := ex_frac (Q := Rund E S) (fun n c h => h.1) _ ⟨(b, c0), ml b c0 ⟨b1, b2, z, hz, w2⟩, b1, b2, z, hz, w2⟩
  refine ⟨x.1, x.2, x2, fun m s d hs w => Wk.round N.cl (fun n s c hs h1 h2 w => x3 (n, c) (ml n c ⟨h1, h2, s, hs, w⟩) ⟨h1, h2, s, hs, w⟩) m m s d (Nat.le_refl _) hs w⟩
structure Hts (E : V → Int → V → Prop) (S : List V) (fs : V) (h : Nat → V → Option Int) : Prop where
  is : ∀ t s F, t ≤ S.length → h t s = some F → Wk E t fs s F ∧ ∀ c, Wk E t fs s c → c ≤ F
  ex : ∀ t s c, t ≤ S.length → Wk E t fs s c → ∃ F, h t s = some F
theorem Wk.split {n : Nat} {u v : V} {c : Int} (h : Wk E n u v c) {j : Nat} (hj : j ≤ n) : ∃ y c1 c2, Wk E j u y c1 ∧ Wk E (n - j) y v c2 ∧ c1 + c2 = c := by
  obtain ⟨f, p, h1, h2, h3, h4, h5⟩ := h.path
  have w1 := Wk.of h5 0 j (by omega)
  have w2 := Wk.of h5 j (n - j) (by omega)
  rw [Nat.zero_add, h1, h3] at w1
  rw [show j + (n - j) = n by omega, h2, h4] at w2
  exact ⟨f j, _, _, w1, w2, by omega⟩
theorem Wk.rep {n : Nat} {u : V} {c : Int} (h : Wk E n u u c) : ∀ k : Nat, Wk E (k * n) u u (k * c)
  | 0 => (Wk.nil u).cast (by simp) (by simp)
  | k + 1 => ((Wk.rep h k).app h).cast (by rw [Nat.succ_mul]) (by rw [show ((k + 1 : Nat) : Int) = (k : Int) + 1 from rfl, Int.add_mul, Int.one_mul])
end
end HC
namespace HC
open PySem PySem.Spec PyProof.Rows L2
inductive Rk where
  | on | off | clicks
def Rk.txt : Rk → Str
  | .on => "on"
  | .off => "off"
  | .clicks => "clicks"
def rcnt : Rk → Sta → Sta → Int
  | .on, _, t => t.2.1
  | .off, _, t => 1 - t.2.1
  | .clicks, s, t => clk s t
def hget : List (Sta × Int) → Sta → Option Int
  | [], _ => none
  | (k, v) :: l, s => if k = s then some v else hget l s
def hput (l : List (Sta × Int)) (s : Sta) (b : Int) : List (Sta × Int) := match hget l s with
  | none => l ++ [(s, b)]
  | some v => if v < b then l.map (fun p => if p.1 = s then (p.1, b) else p) else l
theorem hget_app {s a : Sta} {b : Int} : ∀ {l : List (Sta × Int)}, hget (l ++ [(a, b)]) s = match hget l s with
    | none => if a = s then some b else none
    | some v => some v
  | [] => rfl
  | (k, v) :: l => by
    show (if k = s then some v else hget (l ++ [(a, b)]) s) = _
    by_cases h : k = s
    · rw [if_pos h]; simp [hget, h]
    · rw [if_neg h, hget_app]; simp [hget, h]
theorem hget_map {s a : Sta} {b : Int} : ∀ {l : List (Sta × Int)}, hget (l.map (fun p => if p.1 = a then (p.1, b) else p)) s = if a = s then (hget l s).map (fun _ => b) else hget l s
  | [] => by simp [hget]
  | (k, v) :: l => by
    rw [List.map_cons]
    by_cases h : k = s
    · subst h
      by_cases e : k = a
      · subst e; simp [hget]
      · have e' : ¬ a = k := fun z => e z.symm
        simp [hget, e, e']
    · by_cases e : k = a
      · subst e
        simp only [if_true, hget, h, if_false]
        rw [hget_map]
        simp [h]
      · simp only [e, if_false, hget, h]
        rw [hget_map]
theorem hget_put {l : List (Sta × Int)} {s a : Sta} {b : Int} : hget (hput l a b) s = if a = s then some (match hget l s with
    | none => b
    | some v => max v b) else hget l s := by
  unfold hput
  by_cases e : a = s
  · subst e
    rw [if_pos rfl]
    split
    · rename_i h
      rw [hget_app, h]
      simp
    · rename_i v h
      split
      · rw [hget_map, if_pos rfl, h]
        show some b = some (max v b)
        congr 1
        omega
      · rw [h]
        show some v = some (max v b)
        congr 1
        omega
  · rw [if_neg e]
    split
    · rw [hget_app]
      cases hget l s <;> simp [e]
    · split
      · rw [hget_map, if_neg e]
      · rfl
theorem hget_mem {s : Sta} {v : Int} : ∀ {l : List (Sta × Int)}, hget l s = some v → (s, v) ∈ l
  | [], h => by cases h
  | (k, w) :: l, h => by
    unfold hget at h
    split at h
    · rename_i e; cases h; subst e; exact List.mem_cons_self ..
    · exact List.mem_cons_of_mem _ (hget_mem h)
theorem hget_of {s : Sta} {v : Int} : ∀ {l : List (Sta × Int)}, (l.map (·.1)).Nodup → (s, v) ∈ l → hget l s = some v
  | [], _, h => by cases h
  | (k, w) :: l, hn, h => by
    rw [List.map_cons, List.nodup_cons] at hn
    unfold hget
    rcases List.mem_cons.mp h with h | h
    · cases h; rw [if_pos rfl]
    · rw [if_neg (fun z => hn.1 (List.mem_map.mpr ⟨(s, v), h, z.symm⟩))]
      exact hget_of hn.2 h
theorem hput_nd {l : List (Sta × Int)} {a : Sta} {b : Int} (h : (l.map (·.1)).Nodup) : ((hput l a b).map (·.1)).Nodup := by
  unfold hput
  split
  · rename_i e
    rw [List.map_append, List.nodup_append]
    refine ⟨h, by simp, fun x hx y hy z => ?_⟩
    rw [List.map_cons, List.map_nil, List.mem_singleton] at hy
    obtain ⟨p, hp, rfl⟩ := List.mem_map.mp hx
    have := hget_of h (s := p.1) (v := p.2) hp
    rw [z, hy] at this
    rw [e] at this
    cases this
  · split
    · rw [List.map_map]
      have : ((fun p : Sta × Int => p.1) ∘ fun p : Sta × Int => if p.1 = a then (p.1, b) else p) = fun p => p.1 := by
        funext p
        show (if p.1 = a then (p.1, b) else p).1 = p.1
        split <;> rfl
      rw [this]
      exact h
    · exact h
def hfold (ps : List (Sta × Int)) : List (Sta × Int) := ps.foldl (fun l p => hput l p.1 p.2) []
theorem fold_inv : ∀ (ps pre : List (Sta × Int)) (l : List (Sta × Int)), (l.map (·.1)).Nodup → (∀ s F, hget l s = some F → (s, F) ∈ pre ∧ ∀ c, (s, c) ∈ pre → c ≤ F) → (∀ s c, (s, c) ∈ pre → ∃ F, hget l s = some F) →
    ((ps.foldl (fun l p => hput l p.1 p.2) l).map (·.1)).Nodup ∧ (∀ s F, hget (ps.foldl (fun l p => hput l p.1 p.2) l) s = some F → (s, F) ∈ pre ++ ps ∧ ∀ c, (s, c) ∈ pre ++ ps → c ≤ F) ∧ (∀ s c, (s, c) ∈ pre ++ ps → ∃ F, hget (ps.foldl (fun l p => hput l p.1 p.2) l) s = some F)
  | [], pre, l, nd, h1, h2 => by rw [List.append_nil]; exact ⟨nd, h1, h2⟩
  | (a, b) :: ps, pre, l, nd, h1, h2 => by
    rw [List.foldl_cons]
    have e : pre ++ (a, b) :: ps = (pre ++ [(a, b)]) ++ ps := by simp
    rw [e]
    refine fold_inv ps (pre ++ [(a, b)]) (hput l a b) (hput_nd nd) (fun s F h => ?_) (fun s c h => ?_)
    · rw [hget_put] at h
      split at h
      · rename_i ea
        subst ea
        cases hl : hget l a with
        | none =>
          rw [hl] at h
          cases h
          refine ⟨by simp, fun c hc => ?_⟩
          rcases List.mem_append.mp hc with hc | hc
          · obtain ⟨F, hF⟩ := h2 _ _ hc
            rw [hl] at hF; cases hF
          · cases List.mem_singleton.mp hc; exact Int.le_refl _
        | some v =>
          rw [hl] at h
          have hF : max v b = F := Option.some.inj h
          obtain ⟨m1, m2⟩ := h1 a v hl
          refine ⟨?_, fun c hc => ?_⟩
          · by_cases hv : v < b
            · have : F = b := by omega
              subst this; simp
            · have : F = v := by omega
              subst this; exact List.mem_append_left _ m1
          · rcases List.mem_append.mp hc with hc | hc
            · have := m2 c hc; omega
            · cases List.mem_singleton.mp hc; omega
      · rename_i ea
        obtain ⟨m1, m2⟩ := h1 s F h
        refine ⟨List.mem_append_left _ m1, fun c hc => ?_⟩
        rcases List.mem_append.mp hc with hc | hc
        · exact m2 c hc
        · cases List.mem_singleton.mp hc; exact absurd rfl ea
    · rw [hget_put]
      split
      · exact ⟨_, rfl⟩
      · rename_i ea
        rcases List.mem_append.mp h with hc | hc
        · exact h2 s c hc
        · cases List.mem_singleton.mp hc; exact absurd rfl ea
theorem hfold_is (ps : List (Sta × Int)) : ((hfold ps).map (·.1)).Nodup ∧ (∀ s F, hget (hfold ps) s = some F → (s, F) ∈ ps ∧ ∀ c, (s, c) ∈ ps → c ≤ F) ∧ (∀ s c, (s, c) ∈ ps → ∃ F, hget (hfold ps) s = some F) :=
  fold_inv ps [] [] (by simp) (fun _ _ h => by cases h) (fun _ _ h => by cases h)
section
variable {r : Rm} {g : Rg} {k : Rk}
def road (r : Rm) (g : Rg) (k : Rk) : Sta → Int → Sta → Prop := fun s c a => s ∈ keysL r g ∧ ∃ w : Int, 1 ≤ w ∧ w ≤ 3 ∧ a = tick r g s w ∧ c = rcnt k s a
def turnL (r : Rm) (g : Rg) (k : Rk) (l : List (Sta × Int)) : List (Sta × Int) := l.flatMap fun p => [1, 2, 3].map fun w => (tick r g p.1 w, p.2 + rcnt k p.1 (tick r g p.1 w))
def htL (r : Rm) (g : Rg) (k : Rk) : Nat → List (Sta × Int)
  | 0 => [(first r, 0)]
  | t + 1 => hfold (turnL r g k (htL r g k t))
theorem key_sw (ok : r.Ok) (gk : g.Ok r.top) {s : Sta} (h : s ∈ keysL r g) : s.2.1 = 0 ∨ s.2.1 = 1 := (keys_lim ok gk h).st.sw
theorem rcnt_01 (ok : r.Ok) (gk : g.Ok r.top) {s t : Sta} (h : t ∈ keysL r g) : 0 ≤ rcnt k s t ∧ rcnt k s t ≤ 1 := by
  have a := key_sw ok gk h
  cases k with
  | on => show 0 ≤ t.2.1 ∧ t.2.1 ≤ 1; omega
  | off => show 0 ≤ 1 - t.2.1 ∧ 1 - t.2.1 ≤ 1; omega
  | clicks => exact clk_01 s t
theorem road_net (ok : r.Ok) (gk : g.Ok r.top) : Net (road r g k) (keysL r g) (first r) := by
  have cl : ∀ s c a, s ∈ keysL r g → road r g k s c a → a ∈ keysL r g := fun s c a hs ⟨_, w, w1, w3, e, _⟩ => by rw [e]; exact rows_closed ok gk hs w1 w3
  refine ⟨cl, first_key ok gk, fun s hs => ?_, fun s hs => ⟨_, _, hs, 1, by decide, by decide, rfl, rfl⟩, fun s c a ⟨hs, w, w1, w3, e, ec⟩ => ?_⟩
  · obtain ⟨p, hp, rfl⟩ := List.mem_map.mp hs
    have G := (rows_good ok gk).1
    have run := G.run p hp
    have wk := G.wk p hp
    rw [← run]
    have go : ∀ (n : Nat) (ws : List Int), ws.length = n → (∀ w ∈ ws, 1 ≤ w ∧ w ≤ 3) → ∃ c, Wk (road r g k) n (first r) (lastSt r (along r g ws)) c := fun n => by
      induction n with
      | zero =>
        intro ws hl _
        have : ws = [] := List.eq_nil_of_length_eq_zero hl
        subst this
        exact ⟨0, .nil _⟩
      | succ n ih =>
        intro ws0 hl hw
        obtain ⟨ws, w, rfl⟩ : ∃ ws w, ws0 = ws ++ [w] := ⟨ws0.dropLast, ws0.getLast (fun z => by rw [z] at hl; cases hl), (List.dropLast_concat_getLast _).symm⟩
        obtain ⟨c, h⟩ := ih ws (by simpa using hl) fun x hx => hw x (List.mem_append_left _ hx)
        have hk := h.stay cl (first_key ok gk)
        have hw1 := hw w (by simp)
        have e : lastSt r (along r g (ws ++ [w])) = tick r g (lastSt r (along r g ws)) w := by
          rw [along_snoc]; simp [lastSt]
        rw [e]
        exact ⟨_, h.snoc ⟨hk, w, hw1.1, hw1.2, rfl, rfl⟩⟩
    obtain ⟨c, h⟩ := go _ p.2 rfl wk
    exact ⟨_, c, h⟩
  · subst ec
    exact rcnt_01 ok gk (by rw [e]; exact rows_closed ok gk hs w1 w3)
theorem mem_turn {l : List (Sta × Int)} {s : Sta} {c : Int} : (s, c) ∈ turnL r g k l ↔ ∃ p ∈ l, ∃ w : Int, 1 ≤ w ∧ w ≤ 3 ∧ s = tick r g p.1 w ∧ c = p.2 + rcnt k p.1 s := by
  unfold turnL
  rw [List.mem_flatMap]
  constructor
  · rintro ⟨p, hp, h⟩
    obtain ⟨w, hw, e⟩ := List.mem_map.mp h
    cases e
    refine ⟨p, hp, w, ?_, ?_, rfl, rfl⟩ <;> (simp at hw; omega)
  · rintro ⟨p, hp, w, w1, w3, rfl, rfl⟩
    refine ⟨p, hp, List.mem_map.mpr ⟨w, ?_, rfl⟩⟩
    have : w = 1 ∨ w = 2 ∨ w = 3 := by omega
    simp [this]
theorem ht_is (ok : r.Ok) (gk : g.Ok r.top) : ∀ t, ((htL r g k t).map (·.1)).Nodup ∧ (∀ s F, hget (htL r g k t) s = some F → Wk (road r g k) t (first r) s F ∧ ∀ c, Wk (road r g k) t (first r) s c → c ≤ F) ∧ (∀ s c, Wk (road r g k) t (first r) s c → ∃ F, hget (htL r g k t) s = some F)
  | 0 => by
    refine ⟨by simp [htL], fun s F h => ?_, fun s c h => ?_⟩
    · have := hget_mem h
      simp only [htL, List.mem_singleton] at this
      cases this
      exact ⟨.nil _, fun c w => by cases w; exact Int.le_refl _⟩
    · cases h
      exact ⟨0, by simp [htL, hget]⟩
  | t + 1 => by
    obtain ⟨nd, h1, h2⟩ := ht_is ok gk t
    obtain ⟨n1, n2, n3⟩ := hfold_is (turnL r g k (htL r g k t))
    have N := road_net (k := k) ok gk
    have step : ∀ s c, Wk (road r g k) (t + 1) (first r) s c → ∃ F, c ≤ F ∧ (s, F) ∈ turnL r g k (htL r g k t) := fun s c h => by
      cases h with
      | @snoc _ _ v _ c' d h e =>
        obtain ⟨F, hF⟩ := h2 v c' h
        have le := (h1 v F hF).2 c' h
        obtain ⟨_, w, w1, w3, ea, ec⟩ := e
        refine ⟨F + rcnt k v s, by omega, mem_turn.mpr ⟨(v, F), hget_mem hF, w, w1, w3, ea, rfl⟩⟩
    refine ⟨n1, fun s F h => ?_, fun s c h => ?_⟩
    · obtain ⟨m1, m2⟩ := n2 s F h
      obtain ⟨p, hp, w, w1, w3, ea, ec⟩ := mem_turn.mp m1
      have hF := hget_of nd (s := p.1) (v := p.2) hp
      have wp := (h1 _ _ hF).1
      refine ⟨?_, fun c hc => ?_⟩
      · rw [ec]
        exact wp.snoc ⟨wp.stay N.cl N.fm, w, w1, w3, ea, rfl⟩
      · obtain ⟨F', le, hm⟩ := step s c hc
        have := m2 F' hm
        omega
    · obtain ⟨F', _, hm⟩ := step s c h
      exact n3 s F' hm
end
end HC
namespace HC
open PySem PySem.Spec PyProof.Rows L2
structure Shr (r : Rm) (g : Rg) (k : Rk) (p q : Nat) : Prop where
  q1 : 1 ≤ q
  low : Nat.gcd p q = 1
  up : ∀ m s d, s ∈ keysL r g → Wk (road r g k) m s s d → d * (q : Int) ≤ (p : Int) * (m : Int)
  at' : ∃ m s d, 1 ≤ m ∧ m ≤ (keysL r g).length ∧ s ∈ keysL r g ∧ Wk (road r g k) m s s d ∧ d * (q : Int) = (p : Int) * (m : Int)
section
variable {r : Rm} {g : Rg} {k : Rk}
def lowI (a : Int) (b : Nat) : Int × Int := (a / (Int.gcd a b : Int), (b : Int) / (Int.gcd a b : Int))
def fless (x y : Int × Int) : Prop := x.1 * y.2 < y.1 * x.2
instance {x y : Int × Int} : Decidable (fless x y) := inferInstanceAs (Decidable (x.1 * y.2 < y.1 * x.2))
end
end HC
namespace HC
open PySem PySem.Spec PyProof.Rows L2
def leastStep (h : Nat → Option Int) (N : Nat) (FN : Int) (acc : Option (Int × Int)) (t : Nat) : Option (Int × Int) := match h t with
  | none => acc
  | some Ft => match acc with
    | none => some (lowI (FN - Ft) (N - t))
    | some x => if fless (lowI (FN - Ft) (N - t)) x then some (lowI (FN - Ft) (N - t)) else some x
def leastF (h : Nat → Option Int) (N : Nat) (FN : Int) (T : Nat) : Option (Int × Int) := (List.range T).foldl (leastStep h N FN) none
theorem leastF_succ (h : Nat → Option Int) (N : Nat) (FN : Int) (T : Nat) : leastF h N FN (T + 1) = leastStep h N FN (leastF h N FN T) T := by
  unfold leastF
  rw [List.range_succ, List.foldl_append]
  rfl
def bestStep (h : Nat → Sta → Option Int) (N : Nat) (best : Int × Int) (p : Sta × Int) : Int × Int := match leastF (fun t => h t p.1) N p.2 N with
  | none => best
  | some x => if fless best x then x else best
structure BestOk (h : Nat → Sta → Option Int) (N : Nat) (pre : List (Sta × Int)) (b : Int × Int) : Prop where
  den : ∃ q : Nat, b.2 = (q : Int) ∧ 1 ≤ q ∧ Int.gcd b.1 q = 1
  pos : 0 ≤ b.1
  A : ∀ p ∈ pre, ∀ t0 F0, t0 < N → h t0 p.1 = some F0 → ∃ t Ft, t < N ∧ h t p.1 = some Ft ∧ (p.2 - Ft) * b.2 ≤ b.1 * ((N : Int) - t)
  B : b.1 = 0 ∨ ∃ p ∈ pre, ∀ t Ft, t < N → h t p.1 = some Ft → b.1 * ((N : Int) - t) ≤ (p.2 - Ft) * b.2
section
variable {r : Rm} {g : Rg} {k : Rk}
def bestL (r : Rm) (g : Rg) (k : Rk) : Int × Int := (htL r g k (keysL r g).length).foldl (bestStep (fun t s => hget (htL r g k t) s) (keysL r g).length) (0, 1)
end
end HC
namespace HC
open PySem PySem.Spec PyProof.Rows L2
def bldW (y0 y1 y2 j : Nat) (t1 t2 t3 : TP) (kd : D) (fin : List D → Env → Prop) : List D → List D → Env → Prop
  | [], acc, r => fin acc r
  | d :: ds, acc, r => t1 (r.set y0 (.val d)) (fun d1 => t2 ((r.set y0 (.val d)).set y1 (.val d1)) (fun d2 => slot (((r.set y0 (.val d)).set y1 (.val d1)).set y2 (.val d2)) j = .val kd ∧
      t3 (((r.set y0 (.val d)).set y1 (.val d1)).set y2 (.val d2)) (fun d3 => acc.length < sizeLine ∧ bldW y0 y1 y2 j t1 t2 t3 kd fin ds (acc ++ [d3]) (((r.set y0 (.val d)).set y1 (.val d1)).set y2 (.val d2))) E0') E0') E0'
def sBuild (i j : Nat) (u : TPA) (y0 y1 y2 : Nat) (t1 t2 t3 : TP) : TSD := fun e r => match slot r i with
  | .own (.tdict kvs) => (∀ (m : Nat) (d : D), r[m]? = some (Sl.own d) → m = i) ∧ ∃ ks, slot r j = .val (.tuple (keysD ks)) ∧ (NestedKey.tup ks).depth ≤ 8 ∧ kvs.length < sizeLine ∧ kvGet kvs (.tup ks) = none ∧
      u (r.set i .un) (fun ds => bldW y0 y1 y2 j t1 t2 t3 (.tuple (keysD ks)) (fun acc r' => e.nx (r'.set i (.own (.tdict (kvs ++ [(.tup ks, .list acc)]))))) ds [] (r.set i .un)) E0'
  | _ => False
section
variable {X : Cx} {C : Ct} {W : XW} {k : Nat}
def rIxRaw (X : Cx) : R2 := fun x y H Q => ∃ (M : Addr → Prop) (a b : Addr) (o : Obj) (xs : List (NestedKey × Addr × Value)) (ks : List NestedKey) (p : Addr × Value) (v : V), x = .ref a ∧ y = .ref b ∧ H a = some (dnO a o) ∧ DEnt X.prog X.w a o xs ∧ (∀ q ∈ xs, Rp X.K X.prog X.w M H (.ref q.2.1) (keyD q.1)) ∧
  Rp X.K X.prog X.w M H (.ref b) (.tuple (keysD ks)) ∧ (NestedKey.tup ks).depth ≤ 8 ∧ atKey xs (.tup ks) = some p ∧ RelV v p.2 ∧ Q v H
theorem ix_raw (hu : X.A.units + 65 < cLine) : IxR X (rIxRaw X) := by
  intro value slice pins s σ H x y v uu Q I rx ry ⟨M, a, b, o, xs, ks, p, vv, e1, e2, ea, de, hk, rk, dp, hp, rv, q⟩ hs
  subst e1 e2
  cases rx
  cases ry
  have hkey : NestedIs s.heap (.tup ks) (.ref b) := key_heap I (.tup ks) _ _ rk rfl
  obtain ⟨h1, h2, h3, es, ep, h4, h5, h6, h7⟩ := de
  have hm : s.heap.DictOfH (nestedKind X.prog X.w) a xs := ⟨o, es, ep, (I.hok a _ ea).1, h3, h4, h5, fun z hz => ⟨key_heap I z.1 _ _ (hk z hz) rfl, h7 z hz⟩, h6⟩
  exact tail_any hm.typeIs PySem.F.slot_dict_getitem.lookup (wpAny_getItem_heap (knd := nestedKind X.prog X.w) (k := .tup ks) (room8 hu) ⟨hkey, dp⟩ hm hp ⟨vv, H, I.tok _, rv, q⟩) hs
theorem Good.at (G : Good X C W k) {C' : Ct} (h : Fit X C') : Good X C' W k := { G with fit := h }
def Ct.here (C : Ct) (M : Addr → Prop) (H : Hp) : Ct := { C with M0 := M, H0 := H }
theorem Fit.here (F : Fit X C) (M : Addr → Prop) (H : Hp) : Fit X (C.here M H) := ⟨F.k, F.p, F.w⟩
theorem Sim.here {M M' : Addr → Prop} {r : Env} {σ : L2.St} {H H' : Hp} (S : Sim C M r σ H) (no : ∀ (m : Nat) (d : D), r[m]? ≠ some (Sl.own d)) (st : Stp M H M' H') (tk : C.tok M' H') (dm : ∀ a, M' a → H' a ≠ none) (it : ∀ a, C.inT a → M' a) : Sim (C.here M' H') M' r σ H' where
  len := S.len
  val := fun i d e => let ⟨v, h1, h2⟩ := S.val i d e; ⟨v, h1, h2.step st⟩
  own := fun i d e => absurd e (no i d)
  sep := fun i j d e a h => absurd h (no i d)
  tk := S.tk
  base := ⟨fun _ _ _ h => h, tk⟩
  m0 := fun _ h => h
  dom := dm
  inm := it
structure BI (C : Ct) (M1 : Addr → Prop) (i : Nat) (a l : Addr) (ob : Obj) (H0 : Hp) (acc : List D) (r : Env) (σ : L2.St) (H : Hp) : Prop where
  S : Sim (C.here M1 H) M1 r σ H
  no : ∀ (m : Nat) (d : D), r[m]? ≠ some (Sl.own d)
  si : σ[i]? = some (some (.ref a))
  ea : H a = some (dnO a ob)
  el : ∃ vs, H l = some (.lst vs) ∧ C.RpA M1 H vs acc
  kp : ∀ b o, b ≠ a → b ≠ l → ¬ C.inT b → H0 b = some o → H b = some o
section
variable {M1 : Addr → Prop} {i : Nat} {a l : Addr} {ob : Obj} {H0 : Hp} {acc : List D} {r : Env} {σ : L2.St} {H : Hp}
theorem BI.ex (B : BI C M1 i a l ob H0 acc r σ H) (na : ¬ C.inT a) (nl : ¬ C.inT l) {H' : Hp} (k : C.Ex H H') (S' : Sim (C.here M1 H) M1 r σ H') : BI C M1 i a l ob H0 acc r σ H' where
  S := Sim.here (C := C.here M1 H) S' B.no Stp.refl S'.base.tok S'.dom (fun b t => S'.tm t)
  no := B.no
  si := B.si
  ea := k a _ na B.ea
  el := let ⟨vs, h1, h2⟩ := B.el; ⟨vs, k l _ nl h1, HC.RpA.step (B.S.stp k) h2⟩
  kp := fun b o h1 h2 h3 h4 => k b o h3 (B.kp b o h1 h2 h3 h4)
theorem BI.set (B : BI C M1 i a l ob H0 acc r σ H) {y : Nat} (ne : i ≠ y) {v : V} {d : D} (p : C.Rp M1 H v d) : BI C M1 i a l ob H0 acc (r.set y (.val d)) (σ.set y (some v)) H where
  S := Sim.set (C := C.here M1 H) B.S p
  no := fun m e q => by
    by_cases hm : y = m
    · subst hm
      rw [List.getElem?_set_self'] at q
      cases z : r[y]? with
      | none => rw [z] at q; cases q
      | some w => rw [z] at q; cases q
    · rw [List.getElem?_set_ne hm] at q
      exact B.no m e q
  si := by rw [List.getElem?_set_ne (Ne.symm ne)]; exact B.si
  ea := B.ea
  el := B.el
  kp := B.kp
theorem BI.app (B : BI C M1 i a l ob H0 acc r σ H) (al : a ≠ l) (ml : M1 l) (nl : ¬ C.inT l) {v : V} {d : D} (p : C.Rp M1 H v d) : ∃ vs, H l = some (.lst vs) ∧ vs.length = acc.length ∧ BI C M1 i a l ob H0 (acc ++ [d]) r σ (upd H l (.lst (vs ++ [v]))) := by
  obtain ⟨vs, h1, h2⟩ := B.el
  have st : Stp M1 H M1 (upd H l (.lst (vs ++ [v]))) := fun b o e m => ⟨by rw [upd_ne (show b ≠ l from fun z => m (by rw [z]; exact ml))]; exact e, m⟩
  have tk : C.tok M1 (upd H l (.lst (vs ++ [v]))) := tok_step st (fun b hb => upd_ne (fun z : b = l => nl (z ▸ hb))) B.S.base.tok
  refine ⟨vs, h1, HC.RpA.length h2, ⟨?_, B.no, B.si, ?_, ⟨_, upd_same, ?_⟩, fun b o q1 q2 q3 q4 => ?_⟩⟩
  · exact Sim.here (C := C.here M1 H) B.S B.no st tk (fun b m z => by
      by_cases hb : b = l
      · subst hb; rw [upd_same] at z; cases z
      · rw [upd_ne hb] at z; exact B.S.dom b m z) (fun b t => B.S.tm t)
  · rw [upd_ne al]; exact B.ea
  · exact HC.RpA.append (HC.RpA.step st h2) (.cons (HC.Rp.step st p) .nil)
  · rw [upd_ne q2]; exact B.kp b o q1 q2 q3 q4
end
theorem pe_any {e : Expr} {t : TP} (h : ∀ C', Good X C' W k → DV X C' W e t) : PE X e (fun σ H Q => ∃ C', Good X C' W k ∧ lV C' W t σ H Q) := ⟨fun pins s σ H Q I ⟨C', g, q⟩ => (h C' g).pe.run pins s σ H Q I q⟩
theorem pi_any {tg e : Expr} {t : TPA} (h : ∀ C', Good X C' W k → DI X C' W tg e t) : PI X tg e (fun σ H Q => ∃ C', Good X C' W k ∧ lI C' W t σ H Q) := ⟨fun pins s σ H Q I ⟨C', g, q⟩ => (h C' g).pi.run pins s σ H Q I q⟩
theorem BI.eval {M1 : Addr → Prop} {i : Nat} {a l : Addr} {ob : Obj} {H0 : Hp} {acc : List D} {r : Env} {σ : L2.St} {H : Hp} (B : BI C M1 i a l ob H0 acc r σ H) (G : Good X C W k) (na : ¬ C.inT a) (nl : ¬ C.inT l) {t : TP} (mo : Mono t) {P : D → Prop} {Q : V → Hp → Prop} (z : t r P E0')
    (h : ∀ d v H', P d → BI C M1 i a l ob H0 acc r σ H' → C.Rp M1 H' v d → Q v H') : ∃ C', Good X C' W k ∧ lV C' W t σ H Q :=
  ⟨C.here M1 H, G.at (G.fit.here M1 H), M1, r, E0', B.S, fun _ _ _ _ z => z.elim, mo.imp (fun d hd v H' k' S' p => h d v H' hd (B.ex na nl k' S') p) (fun _ z => z) z⟩
theorem mono_bld {y0 y1 y2 j : Nat} {t1 t2 t3 : TP} {kd : D} {fin fin' : List D → Env → Prop} (m1 : Mono t1) (m2 : Mono t2) (m3 : Mono t3) (h : ∀ a r, fin a r → fin' a r) : ∀ (ds acc : List D) (r : Env), bldW y0 y1 y2 j t1 t2 t3 kd fin ds acc r → bldW y0 y1 y2 j t1 t2 t3 kd fin' ds acc r
  | [], acc, r, q => h _ _ q
  | d :: ds, acc, r, q => m1.imp (fun d1 q => m2.imp (fun d2 ⟨q0, q⟩ => ⟨q0, m3.imp (fun d3 ⟨q1, q⟩ => ⟨q1, mono_bld m1 m2 m3 h ds _ _ q⟩) (fun _ z => z) q⟩) (fun _ z => z) q) (fun _ z => z) q
theorem atKey_self {xs : List (NestedKey × Addr × Value)} {k : NestedKey} (h : atKey xs k = none) (b : Addr) (u : Value) : atKey (xs ++ [(k, b, u)]) k = some (b, u) := by
  unfold atKey at h ⊢
  rw [Option.map_eq_none_iff] at h
  rw [List.find?_append, h]
  simp
theorem BI.done {M M1 : Addr → Prop} {i : Nat} {a l : Addr} {ob : Obj} {Ha H0 : Hp} {acc : List D} {r0 r : Env} {σ0 σ : L2.St} {H : Hp} {d : D} (B : BI C M1 i a l ob H0 acc r σ H) (S : Sim C M r0 σ0 Ha) (a0 : C.H0 a = none) (am : M a) (a1 : ¬ C.M0 a) (M1e : ∀ b, M1 b ↔ M b ∨ b = l) (hl : Ha l = none)
    (k0 : ∀ b o, b ≠ a → ¬ C.inT b → Ha b = some o → H0 b = some o) (tp : Stp M Ha M H → C.Top M H a d) : Stp M Ha M H ∧ Sim C M (r.set i (.own d)) σ H := by
  have kp : ∀ b o, b ≠ a → ¬ C.inT b → Ha b = some o → H b = some o := fun b o h1 h2 h3 => B.kp b o h1 (ne_of_none h3 hl) h2 (k0 b o h1 h2 h3)
  have st : Stp M Ha M H := fun b o e m => ⟨kp b o (fun z => m (z ▸ am)) (fun t => m (S.tm t)) e, m⟩
  have s2 : Stp M1 H M H := fun b o e m => ⟨e, fun z => m ((M1e b).mpr (.inl z))⟩
  have out : ∀ (m : Nat) (x : Sl), (r.set i (.own d))[m]? = some x → (m = i ∧ x = .own d) ∨ (m ≠ i ∧ r[m]? = some x) := fun m x q => by
    by_cases hm : i = m
    · subst hm
      rw [List.getElem?_set_self'] at q
      cases z : r[i]? with
      | none => rw [z] at q; cases q
      | some w => rw [z] at q; cases q; exact .inl ⟨rfl, rfl⟩
    · rw [List.getElem?_set_ne hm] at q
      exact .inr ⟨Ne.symm hm, q⟩
  refine ⟨st, ⟨by rw [List.length_set]; exact B.S.len, fun m e q => ?_, fun m e q => ?_, fun m n e1 e2 b q1 q2 _ _ => ?_, fun m q => ?_, ⟨fun b o h1 h2 => ?_, tok_step (C := C) s2 (fun _ _ => rfl) B.S.base.tok⟩, S.m0, fun b m => B.S.dom b ((M1e b).mpr (.inl m)), S.inm⟩⟩
  · rcases out m _ q with ⟨_, z⟩ | ⟨_, z⟩
    · cases z
    · obtain ⟨v, h1, h2⟩ := B.S.val m e z
      exact ⟨v, h1, HC.Rp.step s2 h2⟩
  · rcases out m _ q with ⟨hm, z⟩ | ⟨_, z⟩
    · cases z
      subst hm
      exact ⟨a, B.si, am, a0, a1, tp st⟩
    · exact absurd z (B.no m e)
  · rcases out m _ q1 with ⟨hm, _⟩ | ⟨_, z⟩
    · rcases out n _ q2 with ⟨hn, _⟩ | ⟨_, z⟩
      · rw [hm, hn]
      · exact absurd z (B.no n e2)
    · exact absurd z (B.no m e1)
  · rcases out m _ q with ⟨_, z⟩ | ⟨_, z⟩
    · cases z; exact trivial
    · exact B.S.tk m z
  · exact kp b o (fun z => by rw [z, a0] at h2; cases h2) h1 (S.base.keep b o h1 h2)
variable {f st nw n1 n2 : Str} {iter e1 e2 e3 : Expr} {u : TPA} {t1 t2 t3 : TP} {p1 p2 p3 p4 p5 q0 q1 q2 q3 q4 q5 q6 q7 q8 q9 pos : Pos}
theorem dss_build (i j y0 y1 y2 : Nat) (G : Good X C W k) (hi : ∀ C', Good X C' W k → DI X C' W (.Name nw q0) iter u) (h1 : ∀ C', Good X C' W k → DV X C' W e1 t1) (h2 : ∀ C', Good X C' W k → DV X C' W e2 t2) (h3 : ∀ C', Good X C' W k → DV X C' W e3 t3)
    (ij : i ≠ j) (i0 : i ≠ y0) (i1 : i ≠ y1) (i2 : i ≠ y2)
    (N0 : X.N[y0]? = some nw) (N1 : X.N[y1]? = some n1) (N2 : X.N[y2]? = some n2) (Ni : X.N[i]? = some f) (Nj : X.N[j]? = some st)
    (L0 : Loc X.env.scope nw) (L1 : Loc X.env.scope n1) (L2' : Loc X.env.scope n2)
    (F0 : X.fn nw = true ∨ X.env.scope.names.lookup nw = some .local) (F1 : X.fn n1 = true ∨ X.env.scope.names.lookup n1 = some .local) (F2 : X.fn n2 = true ∨ X.env.scope.names.lookup n2 = some .local)
    (Vi : Vis X.env.scope f) (Vj : Vis X.env.scope st)
    (hdi : (f == ("__debug__" : Str)) = false := by decide) (hci : (f == ("__classdict__" : Str)) = false := by decide) (hdj : (st == ("__debug__" : Str)) = false := by decide) (hcj : (st == ("__classdict__" : Str)) = false := by decide)
    (ha : ∀ v, assign (.Subscript (.Name f p1) (.Name st p2) p3) X.env v = (do
      let ov ← holding [v] (eval (.Name f p1) X.env)
      let iv ← holding [v, ov] (eval (.Name st p2) X.env)
      standAt p3
      holding [v, ov, iv] (setItem ov iv v)
      release [v, ov, iv] []) := by intro _; rfl)
    (a1 : swapsWithSole [.Subscript (.Name f p1) (.Name st p2) p3] (.List [] p4) p5.line X.env = pure false := by rfl) (a2 : swappedStores [.Subscript (.Name f p1) (.Name st p2) p3] (.List [] p4) X.env = pure none := by rfl)
    (a3 : (assignEach [.Subscript (.Name f p1) (.Name st p2) p3] X.env).map (·.2) = [assign (.Subscript (.Name f p1) (.Name st p2) p3) X.env] := by rfl)
    (s1 : swapsWith e1 (some (.Name n1 q1)) q2.line X.env = pure false := by rfl) (s2 : swapsWith e2 (some (.Name n2 q3)) q4.line X.env = pure false := by rfl)
    (hbase : attributeBase (.Subscript (.Name f q5) (.Name st q6) q7) "append" X.env (eval (.Subscript (.Name f q5) (.Name st q6) q7) X.env) = eval (.Subscript (.Name f q5) (.Name st q6) q7) X.env := by rfl)
    (hfew : ((backTo q9 (starEach [e3] X.env)).all (fun x => !x.1) && (backToKw q9 (keywordEach [] X.env)).all (fun x => x.1.isSome) && decide (([e3] : List Expr).length + ([] : List Keyword).length + (if ([] : List Keyword).isEmpty then 0 else 1) < 30)) = true := by rfl)
    (hline : (q8.endLine == q9.line) = true := by rfl) (hst : starEach [e3] X.env = (false, eval e3 X.env) :: starEach [] X.env := by rfl)
    (hpx : PlainIx (.Name st q6) := by intro _ _; rfl) {qe : Pos} (hsw : swapsWith (.Call (.Attribute (.Subscript (.Name f q5) (.Name st q6) q7) "append" q8) [e3] [] q9) none qe.line X.env = pure false := by rfl) (hfs : ∀ x, foldedSetIterable iter X.env x = pure x := by intro _; rfl) :
    DSs X C W [.Assign [.Subscript (.Name f p1) (.Name st p2) p3] (.List [] p4) p5, .For (.Name nw q0) iter [.Assign [.Name n1 q1] e1 q2, .Assign [.Name n2 q3] e2 q4, .Expr (.Call (.Attribute (.Subscript (.Name f q5) (.Name st q6) q7) "append" q8) [e3] [] q9) qe] [] pos] (sBuild i j u y0 y1 y2 t1 t2 t3) := by
  have m1 := (h1 C G).mo
  have m2 := (h2 C G).mo
  have m3 := (h3 C G).mo
  have mi := (hi C G).mo
  refine ⟨(pss_cons (ps_asg (pe_lst pa_nil) (pg_sub (pe_var (i := i) Ni Vi hdi hci) (pe_var (i := j) Nj Vj hdj hcj) (set_td G.hu65) ha) a1 a2 a3)
    (pss_one (ps_for G.own G.calm (pi_any hi) (pg_name (i := y0) G.nd N0 L0 F0)
      (pss_cons (ps_set (i := y1) G.nd N1 L1 (pe_any h1) s1 F1) (pss_cons (ps_set (i := y2) G.nd N2 L2' (pe_any h2) s2 F2)
        (pss_one (ps_expr (pe_bm PySem.F.plainAttrs_list PySem.F.slot_list_append PySem.F.type_list_append mt_append (pe_ix (ix_raw G.hu65) (pe_var (i := i) Ni Vi hdi hci) (pe_var (i := j) Nj Vj hdj hcj) hpx) (pa_cons (pe_any h3) pa_nil hst) hbase hfew hline hst rfl) hsw)))) hfs))).imp fun De σ H ⟨M, r, e, S, f, q⟩ => ?_, ⟨fun {e e' r} h q => ?_⟩⟩
  · unfold sBuild at q
    split at q
    · rename_i kvs es
      obtain ⟨one, ks, ej, dp, hz, hn, q⟩ := q
      have hr := slot_get es (by simp)
      have hj := slot_get ej (by simp)
      obtain ⟨a, e1, am, a0, a1, tp⟩ := S.own i _ hr
      obtain ⟨kv, ek, pk⟩ := S.val j _ hj
      obtain ⟨b, _, rfl, _, _⟩ := Ct.Rq.tup (C := C) (M := M) (H := H) (.inl pk)
      cases tp with
      | @dctN ob xs _ ea de rn =>
        have na : ¬ C.inT a := fun t => a1 (S.inm a t)
        have hat : atKey xs (.tup ks) = none := by
          rcases rpn_get (.tup ks) rn with ⟨z, _⟩ | ⟨_, _, _, _, z, _⟩
          · exact z
          · rw [hn] at z; cases z
        have FF := G.fit
        refine ⟨Nat.zero_le _, fun l hl => ⟨.ref a, e1, .ref b, ek, ?_⟩⟩
        have al : a ≠ l := ne_of_none ea hl
        have nl : ¬ C.inT l := fun t => S.dom l (S.tm t) hl
        have Sw := S.same (same_upd (o := .lst []) hl)
        have st1 : Stp M H M (upd H l (.lst [])) := Stp.grow (same_upd hl)
        have ea1 : upd H l (.lst []) a = some (dnO a ob) := by rw [upd_ne al]; exact ea
        have nM : ¬ M l := fun m => S.dom l m hl
        obtain ⟨K0, P0, w0, T0, M0, H0⟩ := C
        obtain ⟨z1, z2, z3⟩ := FF
        cases z1; cases z2; cases z3
        refine ⟨M, a, b, ob, xs, kvs, ks, rfl, rfl, ea1, de, RpN.step st1 rn, HC.Rp.step st1 pk, dp, by rw [rpn_len rn]; exact hz, fun ob' u de' ru => ?_⟩
        obtain ⟨s3, S3⟩ := Sw.mut (o := dnO a ob') (d' := .tdict (kvPut kvs (.tup ks) (.list []))) hr e1 fun s3 => .dctN upd_same de' (RpN.step s3 (rpn_put (RpN.step st1 rn) (HC.Rp.step st1 pk) ru (.lst nM upd_same .nil)))
        rw [storedH_new hat] at de'
        have keysH : ∀ q ∈ xs ++ [(NestedKey.tup ks, b, u)], HC.Rp X.K X.prog X.w M H (.ref q.2.1) (keyD q.1) := fun q hq => by
          rcases List.mem_append.mp hq with hq | hq
          · exact rpn_mem rn q hq
          · rw [List.mem_singleton.mp hq]; exact pk
        have unset : ∀ (m : Nat) (x : Sl), x ≠ .un → (r.set i Sl.un)[m]? = some x → m ≠ i ∧ r[m]? = some x := fun m x hx q => by
          by_cases hm : i = m
          · subst hm
            rw [List.getElem?_set_self'] at q
            cases z : r[i]? with
            | none => rw [z] at q; cases q
            | some w => rw [z] at q; cases q; exact absurd rfl hx
          · rw [List.getElem?_set_ne hm] at q
            exact ⟨Ne.symm hm, q⟩
        have B0 : BI ⟨X.K, X.prog, X.w, T0, M0, H0⟩ (fun b => M b ∨ b = l) i a l ob' (upd (upd H l (.lst [])) a (dnO a ob')) [] (r.set i .un) σ (upd (upd H l (.lst [])) a (dnO a ob')) := by
          have st2 : Stp M H (fun b => M b ∨ b = l) (upd (upd H l (.lst [])) a (dnO a ob')) := fun c o ec mc => ⟨by rw [upd_ne (show c ≠ a from fun z => mc (by rw [z]; exact am)), upd_ne (ne_of_none ec hl)]; exact ec, fun z => z.elim mc (ne_of_none ec hl)⟩
          refine ⟨⟨by rw [List.length_set]; exact S.len, fun m d z => ?_, fun m d z => ?_, fun m n d d' c z _ _ _ => ?_, fun m z => ?_, ⟨fun _ _ _ h => h, tok_step (C := ⟨X.K, X.prog, X.w, T0, M0, H0⟩) st2 (fun c hc => by rw [upd_ne (fun z : c = a => na (z ▸ hc)), upd_ne (fun z : c = l => nl (z ▸ hc))]) S.base.tok⟩, fun _ h => h, fun c mc z => ?_, fun c t => .inl (S.tm t)⟩, fun m d z => ?_, e1, upd_same, ⟨[], ?_, .nil⟩, fun _ _ _ _ _ h => h⟩
          · obtain ⟨v, h1, h2⟩ := S.val m d (unset m _ (by simp) z).2
            exact ⟨v, h1, HC.Rp.step st2 h2⟩
          · obtain ⟨n1, n2⟩ := unset m _ (by simp) z
            exact absurd (one m d n2) n1
          · obtain ⟨n1, n2⟩ := unset m _ (by simp) z
            exact absurd (one m d n2) n1
          · rename_i x'
            by_cases hx : x' = .un
            · subst hx; exact trivial
            · exact S.tk m (unset m _ hx z).2
          · rcases mc with mc | mc
            · exact S3.dom c mc z
            · subst mc
              rw [upd_ne (Ne.symm al), upd_same] at z
              cases z
          · obtain ⟨n1, n2⟩ := unset m _ (by simp) z
            exact absurd (one m d n2) n1
          · rw [upd_ne (Ne.symm al), upd_same]
        refine ⟨_, G.at (G.fit.here (fun b => M b ∨ b = l) (upd (upd H l (.lst [])) a (dnO a ob'))), _, r.set i .un, E0', B0.S, fun _ _ _ _ z => z.elim, mi.imp (fun ds z J H3 k3 S3' Y => ?_) (fun _ z => z) q⟩
        have B3' := B0.ex na nl k3 S3'
        have B3 : BI ⟨X.K, X.prog, X.w, T0, M0, H0⟩ (fun b => M b ∨ b = l) i a l ob' H3 [] (r.set i .un) σ H3 := { B3' with kp := fun _ _ _ _ _ h => h }
        have k0 : ∀ c o, c ≠ a → ¬ Ct.inT ⟨X.K, X.prog, X.w, T0, M0, H0⟩ c → H c = some o → H3 c = some o := fun c o h1 h2 h3 => B3'.kp c o h1 (ne_of_none h3 hl) h2 (by rw [upd_ne h1, upd_ne (ne_of_none h3 hl)]; exact h3)
        have tm1 : ∀ c, Ct.inT ⟨X.K, X.prog, X.w, T0, M0, H0⟩ c → M c := fun c t => S.tm t
        have stH : ∀ {acc : List D} {r' : Env} {σ' : L2.St} {H' : Hp}, BI ⟨X.K, X.prog, X.w, T0, M0, H0⟩ (fun b => M b ∨ b = l) i a l ob' H3 acc r' σ' H' → Stp M H (fun b => M b ∨ b = l) H' := fun B c o ec mc =>
          ⟨B.kp c o (fun z => mc (by rw [z]; exact am)) (ne_of_none ec hl) (fun t => mc (tm1 c t)) (k0 c o (fun z => mc (by rw [z]; exact am)) (fun t => mc (tm1 c t)) ec), fun z => z.elim mc (ne_of_none ec hl)⟩
        have st3 : ∀ {acc : List D} {r' : Env} {σ' : L2.St} {H' : Hp}, BI ⟨X.K, X.prog, X.w, T0, M0, H0⟩ (fun b => M b ∨ b = l) i a l ob' H3 acc r' σ' H' → Stp (fun b => M b ∨ b = l) H3 (fun b => M b ∨ b = l) H' := fun B c o ec mc =>
          ⟨B.kp c o (fun z => mc (by rw [z]; exact .inl am)) (fun z => mc (.inr z)) (fun t => mc (.inl (tm1 c t))) ec, mc⟩
        refine ⟨fun n m σ' H' => m = ds.length - n ∧ n ≤ ds.length ∧ ∃ acc r', BI ⟨X.K, X.prog, X.w, T0, M0, H0⟩ (fun b => M b ∨ b = l) i a l ob' H3 acc r' σ' H' ∧ bldW y0 y1 y2 j t1 t2 t3 (.tuple (keysD ks)) (fun acc r' => e.nx (r'.set i (.own (.tdict (kvs ++ [(.tup ks, .list acc)]))))) (ds.drop n) acc r', ⟨ds.length, by simp, Nat.zero_le _, [], _, B3, z⟩, ?_⟩
        rintro n m σ' H' ⟨rfl, hle, acc, r', B, z'⟩
        by_cases hlt : n < ds.length
        · refine .inr ⟨Y.go n _ H' (st3 B) hlt, fun σ2 H2 => ∃ acc r', BI ⟨X.K, X.prog, X.w, T0, M0, H0⟩ (fun b => M b ∨ b = l) i a l ob' H3 acc r' σ2 H2 ∧ bldW y0 y1 y2 j t1 t2 t3 (.tuple (keysD ks)) (fun acc r' => e.nx (r'.set i (.own (.tdict (kvs ++ [(.tup ks, .list acc)]))))) (ds.drop (n + 1)) acc r', fun σ2 H2 ⟨acc, r2, t2, z2⟩ => ⟨ds.length - (n + 1), by omega, rfl, hlt, acc, r2, t2, z2⟩, fun x Hx y => ?_⟩
          obtain ⟨d, hd, sm, p⟩ := Y.yld n _ H' x Hx (st3 B) B.S.dom hlt y
          rw [loop_drop hd] at z'
          have Bx := B.ex na nl (Same.ex sm) (B.S.same sm)
          refine (Bx.set i0 p).eval G na nl m1 z' fun d1 v1 H4 z1 B4 p1 => ?_
          refine (B4.set i1 p1).eval G na nl m2 z1 fun d2 v2 H5 ⟨zj, z2⟩ B5 p2 => ?_
          have B6 := B5.set i2 p2
          obtain ⟨vj, ejv, rk⟩ := B6.S.val j _ (slot_get zj (by simp))
          obtain ⟨bj, _, rfl, _, _⟩ := Ct.Rq.tup (C := ⟨X.K, X.prog, X.w, T0, M0, H0⟩) (M := fun b => M b ∨ b = l) (H := H5) (.inl rk)
          obtain ⟨vs0, el0, _⟩ := B6.el
          refine ⟨.ref a, B6.si, .ref bj, ejv, _, a, bj, ob', _, ks, (b, u), .ref l, rfl, rfl, B6.ea, de', fun q hq => HC.Rp.step (stH B6) (keysH q hq), rk, dp, atKey_self hat b u, ru, .inl ⟨rfl, _, SqL.of el0⟩, ?_⟩
          refine B6.eval G na nl m3 z2 fun d3 v3 H7 ⟨hlen, z3⟩ B7 p3 => ?_
          obtain ⟨vs, hl7, len, B8⟩ := B7.app al (.inr rfl) nl p3
          exact ⟨l, vs, v3, rfl, rfl, hl7, by rw [len]; exact hlen, _, _, B8, z3⟩
        · have ei : n = ds.length := by omega
          subst ei
          rw [List.drop_length] at z'
          obtain ⟨vs0, el0, pa0⟩ := B.el
          obtain ⟨sf, Sf⟩ := B.done (d := .tdict (kvs ++ [(.tup ks, .list acc)])) S a0 am a1 (fun _ => Iff.rfl) hl k0 fun st => .dctN B.ea de' (rpn_app (RpN.step st rn) (.cons (HC.Rp.step st pk) ru (.lst nM el0 (HC.RpA.step (fun c o e m => ⟨e, fun z => m (.inl z)⟩) pa0)) .nil))
          exact .inl ⟨Y.stop _ _ H' (st3 B) (Nat.le_refl _), f.nx M _ σ' H' sf Sf z'⟩
    · exact q.elim
  · unfold sBuild at q ⊢
    split at q
    · obtain ⟨one, ks, ej, dp, hz, hn, q⟩ := q
      exact ⟨one, ks, ej, dp, hz, hn, mi.imp (fun ds z => mono_bld m1 m2 m3 (fun a r z => h.nx _ z) ds [] _ z) (fun _ z => z) q⟩
    · exact q
end
end HC
namespace HC
open PySem PySem.Spec PyProof.Rows L2
def wDisp3 (k1 k2 k3 : Str) (t1 t2 t3 : TP) : TP := fun r Q E => t1 r (fun d1 => t2 r (fun d2 => t3 r (fun d3 => Q (.dict [(.text k1, d1), (.text k2, d2), (.text k3, d3)])) E) E) E
def fIxDict : B2 := fun x y Q => match x, y with
  | .dict kvs, .str z => ∃ d, kvGet kvs (.text z) = some d ∧ Q d
  | _, _ => False
theorem mo_ixDict : Mo2 fIxDict := by
  refine ⟨fun {x y Q Q'} hq h => ?_⟩
  unfold fIxDict at h ⊢
  split at h
  · exact let ⟨d, a, q⟩ := h; ⟨d, a, hq _ q⟩
  · exact h
section
variable {X : Cx} {C : Ct} {W : XW} {k : Nat}
theorem rpk_get {K : PySem.W.Frag} {P : Program} {w : World} {M : Addr → Prop} {H : Hp} {z : Str} {d : D} : ∀ {kvs : List (Key × V)} {ds : List (NestedKey × D)}, RpK K P w M H kvs ds → kvGet ds (.text z) = some d → ∃ v, valV kvs (.inr z) = some v ∧ HC.Rp K P w M H v d
  | _, _, .nil, e => by cases e
  | _, _, .cons (k := k') (v := v') h r, e => by
    unfold kvGet at e
    by_cases hk : k' = .inr z
    · subst hk
      rw [if_pos (show kN (.inr z) = .text z from rfl)] at e
      cases e
      exact ⟨v', valV_pos rfl, h⟩
    · have hn : ¬ kN k' = .text z := by
        cases k' with
        | inl i => intro q; cases q
        | inr y => intro q; cases q; exact hk rfl
      rw [if_neg hn] at e
      obtain ⟨v, h1, h2⟩ := rpk_get r e
      exact ⟨v, by rw [← h1]; simp [valV, List.find?_cons, hk], h2⟩
theorem lP_imp {t : TP} (mo : Mono t) {σ : L2.St} {H : Hp} {Q Q' : VK} (h : lP C W t σ H Q) (hi : ∀ v H', Q v H' → Q' v H') : lP C W t σ H Q' :=
  let ⟨M, r, E, S, hW, q⟩ := h
  ⟨M, r, E, S, hW, mo.imp (fun _ z v H' k' S' p => hi v H' (z v H' k' S' p)) (fun _ z => z) q⟩
theorem dv_ixDict {a b : Expr} {ta tb : TP} {pos : Pos} (G : Good X C W k) (ha : DE X C W a ta) (hb : DE X C W b tb) (hs : NoSl b := by exact fun _ _ => rfl) : DV X C W (.Subscript a b pos) (wOp2 fIxDict ta tb) := by
  refine ⟨(pe_dget G.hu1 ha.pe hb.pe hs).imp fun σ H Q h => lP_imp ha.mo (run_op2 ha hb h mo_ixDict) fun x H1 h1 => lP_imp hb.mo h1 fun y H2 ⟨M, d1, d2, r1, r2, dm, hf⟩ => ?_, mono_op2 mo_ixDict ha.mo hb.mo⟩
  unfold fIxDict at hf
  split at hf
  · rename_i kvs z
    obtain ⟨d, eg, q⟩ := hf
    have hy : y = .str z := by
      rcases r2 with r2 | ⟨_, _, _, r2⟩
      · cases r2; rfl
      · cases r2
    subst hy
    rcases r1 with r1 | ⟨c, rfl, _, r1⟩
    · cases r1 with
      | dctK m rd rk =>
        obtain ⟨v, h1, h2⟩ := rpk_get rk eg
        exact ⟨_, v, rfl, .inl ⟨_, .inr z, rd, rfl, h1.symm⟩, q v H2 Same.refl' h2⟩
    · cases r1 with
      | dctK e rk =>
        obtain ⟨v, h1, h2⟩ := rpk_get rk eg
        exact ⟨_, v, rfl, .inl ⟨_, .inr z, .inl e, rfl, h1.symm⟩, q v H2 Same.refl' h2⟩
  · exact hf.elim
theorem merge3 {k1 k2 k3 : Str} (n12 : k1 ≠ k2) (n13 : k1 ≠ k3) (n23 : k2 ≠ k3) (v1 v2 v3 : V) : mergeK [] [((.inr k1 : Key), v1), (.inr k2, v2), (.inr k3, v3)] = [(.inr k1, v1), (.inr k2, v2), (.inr k3, v3)] := by
  simp [mergeK, putK, n12, n13, n23]
theorem dv_disp3 {x1 x2 x3 : Str} {c1 c2 c3 : Nat} {p1 p2 p3 pos : Pos} {e1 e2 e3 : Expr} {t1 t2 t3 : TP} (G : Good X C W k) (h1 : DV X C W e1 t1) (h2 : DV X C W e2 t2) (h3 : DV X C W e3 t3) (n12 : x1 ≠ x2 := by decide) (n13 : x1 ≠ x3 := by decide) (n23 : x2 ≠ x3 := by decide) :
    DV X C W (.Dict [some (.Constant (.str x1) c1 p1), some (.Constant (.str x2) c2 p2), some (.Constant (.str x3) c3 p3)] [e1, e2, e3] pos) (wDisp3 x1 x2 x3 t1 t2 t3) := by
  refine ⟨(pe_disp (pps_cons pe_str h1.pe (pps_cons pe_str h2.pe (pps_cons pe_str h3.pe pps_nil))) rfl rfl (by intro z; cases z) (by show 3 ≤ 15; decide)).imp fun σ H Q ⟨M, r, E, S, hW, q⟩ p hp => ?_, ⟨fun hq he q => h1.mo.imp (fun x z => h2.mo.imp (fun y z => h3.mo.imp (fun y z => hq _ z) he z) he z) he q⟩⟩
  have S2 := S.take (p := p) (H' := upd H p (.dK [])) hp (same_upd hp) (by rw [upd_same]; simp)
  have nt : ¬ C.inT p := fun t => absurd (S.dom p (S.tm t)) (by rw [hp]; simp)
  have k0 : C.Ex H (upd H p (.dK [])) := Same.ex (same_upd hp)
  have wsh : ∀ {H1 : Hp}, C.Ex H H1 → Wish C W (fun a => M a ∨ a = p) r σ H1 E := fun k1 c H' k' S' q => hW c H' (k1.trans k') (S.drop hp S') q
  refine ⟨fun a => M a ∨ a = p, r, E, S2, wsh k0, h1.mo.imp (fun d1 z v1 H1 k1 S1 p1 => ⟨_, r, E, S1, wsh (k0.trans k1), h2.mo.imp (fun d2 z v2 H2 k2 S2' p2 => ⟨_, r, E, S2', wsh ((k0.trans k1).trans k2), h3.mo.imp (fun d3 z v3 H3 k3 S3 p3 => ?_) (fun _ z => z) z⟩) (fun _ z => z) z⟩) (fun _ z => z) q⟩
  have ep : H3 p = some (.dK []) := k3 p _ nt (k2 p _ nt (k1 p _ nt upd_same))
  refine ⟨ep, [(.inr _, v1), (.inr _, v2), (.inr _, v3)], rfl, by show 3 ≤ 15; decide, ?_⟩
  rw [merge3 n12 n13 n23]
  have kk : C.Ex H (upd H3 p (.dK [(.inr x1, v1), (.inr x2, v2), (.inr x3, v3)])) := fun a x n e => by
    have na : a ≠ p := fun z => by rw [z, hp] at e; cases e
    rw [upd_ne na]
    exact k3 a _ n (k2 a _ n (k1 a _ n (by rw [upd_ne na]; exact e)))
  have S4 := S.takeEx hp kk (tok_upd S3.base.tok (.inr rfl) nt) (by rw [upd_same]; simp)
  have st : Stp (fun a => M a ∨ a = p) H3 M (upd H3 p (.dK [(.inr x1, v1), (.inr x2, v2), (.inr x3, v3)])) := fun a x e m => ⟨by rw [upd_ne (fun z => m (.inr z))]; exact e, fun z => m (.inl z)⟩
  exact z _ _ kk (S.drop hp S4) (.dctK (fun m => S.dom p m hp) (.inl upd_same) (.cons (HC.Rp.step st (HC.Rp.step (S2'.stp k3) (HC.Rp.step (S1.stp k2) p1))) (.cons (HC.Rp.step st (HC.Rp.step (S2'.stp k3) p2)) (.cons (HC.Rp.step st p3) .nil))))
end
end HC
namespace HC
open PySem PySem.Spec PyProof.Rows L2
def frD (x : Int × Int) : D := .tuple [.int x.1, .int x.2]
def roadD (r : Rm) (g : Rg) (k : Rk) (s : Sta) (w : Int) : D := .tuple [.int (rcnt k s (tick r g s w)), encSt (tick r g s w), .int w]
def roadsD (r : Rm) (g : Rg) (k : Rk) (s : Sta) : D := .list [roadD r g k s 1, roadD r g k s 2, roadD r g k s 3]
def tblD (r : Rm) (g : Rg) (k : Rk) (l : List Sta) : D := encSd (roadsD r g k) (l.map fun s => (s, s))
def htD (l : List (Sta × Int)) : D := encSd D.int l
def sp_lowest : SpD := spOf (fun a : Int × Nat => [.int a.1, .int (a.2 : Int)]) (fun a => 1 ≤ a.2 ∧ a.2 ≤ 1000000) (fun a => frD (lowI a.1 a.2))
theorem mo_lowest : MonoSp 2 sp_lowest := mo_spOf fun _ => rfl
def sp_is_less : SpD := spOf (fun a : (Int × Int) × (Int × Int) => [frD a.1, frD a.2]) (fun a => (0 ≤ a.1.2 ∧ a.1.2 ≤ 1000000) ∧ 0 ≤ a.2.2 ∧ a.2.2 ≤ 1000000) (fun a => .bool (decide (fless a.1 a.2)))
theorem mo_is_less : MonoSp 2 sp_is_less := mo_spOf fun _ => rfl
def sp_roads_of : SpD := spOf (fun a : Rm × Rg × Rk => [a.1.enc, a.2.1.enc, .str a.2.2.txt]) (fun a => a.1.Ok ∧ a.2.1.Ok a.1.top) (fun a => tblD a.1 a.2.1 a.2.2 (keysL a.1 a.2.1))
theorem mo_roads_of : MonoSp 3 sp_roads_of := mo_spOf fun _ => rfl
def sp_heights_of : SpD := spOf (fun a : Rm × Rg × Rk => [tblD a.1 a.2.1 a.2.2 (keysL a.1 a.2.1), encSt (first a.1)]) (fun a => a.1.Ok ∧ a.2.1.Ok a.1.top) (fun a => .list ((List.range ((keysL a.1 a.2.1).length + 1)).map fun t => htD (htL a.1 a.2.1 a.2.2 t)))
theorem mo_heights_of : MonoSp 2 sp_heights_of := mo_spOf fun _ => rfl
def sp_greatest_of : SpD := spOf (fun a : Rm × Rg × Rk => [tblD a.1 a.2.1 a.2.2 (keysL a.1 a.2.1), encSt (first a.1)]) (fun a => a.1.Ok ∧ a.2.1.Ok a.1.top) (fun a => frD (bestL a.1 a.2.1 a.2.2))
theorem mo_greatest_of : MonoSp 2 sp_greatest_of := mo_spOf fun _ => rfl
def sp_click_share (x : Xc) : SpD := spEx (fun a : D × D => [a.1, a.2]) (fun a => a.1.plain = true ∧ a.2.plain = true) (fun a => onRg x a.1 a.2 fun r g => .ok (frD (bestL r g .clicks)))
theorem mo_click_share (x : Xc) : MonoSp 2 (sp_click_share x) := mo_spEx fun _ => rfl
theorem hget_lkp (l : List (Sta × Int)) (s : Sta) : hget l s = lkp l s := by
  induction l with
  | nil => rfl
  | cons p l ih =>
    obtain ⟨k, v⟩ := p
    rw [hget, lkp, ih]
theorem hput_putL (l : List (Sta × Int)) (s : Sta) (b : Int) : hput l s b = match hget l s with
    | none => putL l s b
    | some v => if v < b then putL l s b else l := by
  unfold hput putL
  rw [hget_lkp]
  cases lkp l s <;> rfl
end HC
namespace HC
open PySem PySem.Spec PyProof.Rows L2
def t_lowest : TSD :=
  sSeq (sPar2 2 3 (xCons (xVal (wB gAbs (wCons (wPeek 0) wNil))) (xCons (xVal (wVar 1)) xNil)))
    (sSeq (sWhile (bTest (wOp2 fNe (wPeek 3) (wC (.int 0)))) (sPar2 2 3 (xCons (xVal (wVar 3)) (xCons (xVal (wOp2 fMod (wPeek 2) (wPeek 3))) xNil))))
    (sRet (wTup (wCons (wOp2 fDiv (wPeek 0) (wPeek 2)) (wCons (wOp2 fDiv (wPeek 1) (wPeek 2)) wNil)))))
def t_is_less : TSD :=
  sRet (wOp2 fLt (wOp2 fMul (wOp2 fIx (wPeek 0) (wC (.int 0))) (wOp2 fIx (wPeek 1) (wC (.int 1)))) (wOp2 fMul (wOp2 fIx (wPeek 1) (wC (.int 0))) (wOp2 fIx (wPeek 0) (wC (.int 1)))))
def t_roads_of : TSD :=
  sSeq (sAsg 3 (xOwn wNewT))
    (sSeq (sFor (iSeq (wCall sp_rows_of (wCons (wVar 0) (wCons (wVar 1) wNil)))) (gN 4) (sBuild 3 4 (iSeq (wC d_WEATHERS)) 5 6 7 (wCall sp_step (wCons (wVar 0) (wCons (wVar 1) (wCons (wVar 4) (wCons (wVar 5) wNil))))) (wDisp3 "on" "off" "clicks" (wOp2 fIx (wPeek 6) (wC (.int 1))) (wOp2 fSub (wC (.int 1)) (wOp2 fIx (wPeek 6) (wC (.int 1)))) (wIf (bTest (wOp2 fNe (wOp2 fIx (wPeek 6) (wC (.int 1))) (wOp2 fIx (wPeek 4) (wC (.int 1))))) (wC (.int 1)) (wC (.int 0)))) (wTup (wCons (wOp2 fIxDict (wPeek 7) (wPeek 2)) (wCons (wVar 6) (wCons (wVar 5) wNil))))))
    (sFrz 3 (sRet (wVar 3))))
def t_heights_of : TSD :=
  sSeq (sAsg 2 (xOwn (wLst (wCons (wDisp1 (wVar 1) (wC (.int 0))) wNil))))
    (sSeq (sFor (iRange (wCons (wB gLen (wCons (wPeek 0) wNil)) wNil)) (gN 3) (sSeq (sAsg 4 (xOwn wNewT))
    (sSeq (sFor (iSeq (wOp2 fIx (wPeek 2) (wNeg (wC (.int 1))))) (gN 5) (sFor (iSeq (wOp2 fIx (wPeek 0) (wPeek 5))) (gT (gCons' (gN 6) (gCons' (gN 7) (gCons' (gN 8) gNil')))) (sSeq (sAsg 9 (xVal (wOp2 fAdd (wOp2 fIx (wOp2 fIx (wPeek 2) (wNeg (wC (.int 1)))) (wPeek 5)) (wPeek 6))))
    (sIf (bTest (wOp2 fLt (wGet (wPeek 4) (wPeek 7) (wNeg (wC (.int 1)))) (wPeek 9))) (sSet 4 (wVar 9) (wPeek 7)) sNil))))
    (sFrz 4 (sApp 2 (wVar 4))))))
    (sFrz 2 (sRet (wVar 2))))
def t_greatest_of : TSD :=
  sSeq (sPar3 2 3 4 (xCons (xVal (wB gLen (wCons (wPeek 0) wNil))) (xCons (xVal (wCall sp_heights_of (wCons (wVar 0) (wCons (wVar 1) wNil)))) (xCons (xVal (wTup (wCons (wC (.int 0)) (wCons (wC (.int 1)) wNil)))) xNil))))
    (sSeq (sFor (iSeq (wOp2 fIx (wPeek 3) (wPeek 2))) (gN 5) (sSeq (sAsg 6 (xVal (wC .none)))
    (sSeq (sFor (iRange (wCons (wPeek 2) wNil)) (gN 7) (sIf (bTest (wOp2 fIn (wPeek 5) (wOp2 fIx (wPeek 3) (wPeek 7)))) (sSeq (sAsg 8 (xVal (wCall sp_lowest (wCons (wOp2 fSub (wOp2 fIx (wOp2 fIx (wPeek 3) (wPeek 2)) (wPeek 5)) (wOp2 fIx (wOp2 fIx (wPeek 3) (wPeek 7)) (wPeek 5))) (wCons (wOp2 fSub (wPeek 2) (wPeek 7)) wNil)))))
    (sIf (bOr (bTest (wOp2 fIs (wPeek 6) (wC .none))) (bTest (wCall sp_is_less (wCons (wVar 8) (wCons (wVar 6) wNil))))) (sAsg 6 (xVal (wVar 8))) sNil)) sNil))
    (sIf (bAnd (bTest (wOp2 fIsN (wPeek 6) (wC .none))) (bTest (wCall sp_is_less (wCons (wVar 4) (wCons (wVar 6) wNil))))) (sAsg 4 (xVal (wVar 6))) sNil))))
    (sRet (wVar 4)))
def t_click_share (x : Xc) : TSD :=
  sSeq (sExpr (wCall (sp_check_regulator x) (wCons (wVar 0) (wCons (wVar 1) wNil))))
    (sRet (wCall sp_greatest_of (wCons (wCall sp_roads_of (wCons (wVar 0) (wCons (wVar 1) (wCons (wC (.str "clicks")) wNil)))) (wCons (wCall sp_first_state (wCons (wVar 0) wNil)) wNil))))
end HC
namespace HC
open PySem PySem.Spec PyProof.Rows L2
local macro_rules | `(tactic| walk_at "ds") => `(tactic| try simp only [endD, startD, startT, endLaw, startLaw, List.map_cons, List.map_nil, List.length_cons, List.length_nil, List.replicate, List.cons_append, List.nil_append, Nat.reduceSub, Nat.reduceAdd, sSeq, sRet, sIf, sNil, sAsg, sUnp, sExpr, sPar2, sPar3, xCons, xNil, xVal, xOwn, bTest, bNot, bAnd, bOr, wVar, wPeek, slot, wC, wOp2, wB, wM, wCons, wNil, wTup, wLst, wIf, wAnd, wOr, wNot, wNeg, wCall, wCallT, wSl, wPart, wNoPart, List.set, ex1, gT_t, gT_st, gT_pr, gC_c, gN_c, gNil_c, sRaise, wChain, sFrz, frz, wIsi, wTabIn, wTabAt, sAug, wipeD, En.lp, loopW_nil, d_WEATHERS, ds_WEATHERS, wDisp1, wNewT, wComp, iSeq, iRange, gList_l, sFor, Bool.false_eq_true, if_false, if_true,
  fAdd_i, fAdd_s, fAdd_l, fAdd_t, fAddL_l, fSub_i, fLt_i, fLe_i, fGt_i, fGe_i, fEq_i, fNe_i, fIs_b, fIsN_b, fIs_nn, fIs_in, fIs_ln, fIs_tn, fIsN_nn, fIsN_in, fIsN_ln, fIsN_tn, gMin_2, gMax_2, gLen_l, gLen_t, fIx_rm0, fIx_rm1, fIx_rm2, fIx_st0, fIx_st1, fIx_st2, fIx_rg0, fIx_rg1, fIx_rg2, fSl_rg, fEq_gap, fEq_stay, fEq_late, fEq_look, fEq_lean])
theorem sem_lowest : ∀ ds Q E, sp_lowest ds Q E → t_lowest (endD Q E) (startD 4 ds) := by
  rintro _ Q E ⟨⟨a, b⟩, rfl, ⟨b1, b2⟩, q⟩
  replace b1 : 1 ≤ b := b1
  replace b2 : b ≤ 1000000 := b2
  replace q : Q (frD (lowI a b)) := q
  unfold t_lowest
  refine seq_g fun n1 h1 => ?_
  walk_at "ds"
  have ab : (if a < 0 then -a else a) = ((a.natAbs : Nat) : Int) := by split <;> omega
  refine h1 [.val (.int a), .val (.int (b : Int)), .val (.int (if a < 0 then -a else a)), .val (.int (b : Int))] ?_
  rw [ab]
  refine seq_g fun n2 h2 => ?_
  unfold sWhile
  refine ⟨fun m env => ∃ x y : Nat, m = y ∧ Nat.gcd x y = Int.gcd a b ∧ env = [.val (.int a), .val (.int (b : Int)), .val (.int (x : Int)), .val (.int (y : Int))], ⟨b, a.natAbs, b, rfl, rfl, rfl⟩, ?_⟩
  rintro m env ⟨x, y, rfl, hg, rfl⟩
  walk_at "ds"
  by_cases hy : m = 0
  · subst hy
    refine ite_f (by simp) (h2 _ ?_)
    walk_at "ds"
    have gx : x = Int.gcd a b := by rw [← hg]; exact (Nat.gcd_zero_right x).symm
    have g1 : 0 < Int.gcd a b := Nat.pos_of_ne_zero fun z => by
      have := Int.gcd_eq_zero_iff.mp z
      omega
    have gb : Int.gcd a b ≤ b := Nat.le_of_dvd (by omega) (Int.ofNat_dvd.mp (Int.gcd_dvd_right ..))
    have cd : ∀ i : Int, CDiv i (x : Int) := fun i => ⟨by omega, by omega⟩
    refine ⟨cd _, cd _, ?_⟩
    rw [gx]
    exact q
  · refine ite_t (by simp [hy]) ?_
    walk_at "ds"
    refine ⟨by omega, ?_⟩
    exact ⟨x % m, Nat.mod_lt _ (Nat.pos_of_ne_zero hy), m, x % m, rfl, by rw [← hg, Nat.gcd_comm x m]; exact (Nat.gcd_rec m x).symm ▸ (Nat.gcd_comm m (x % m)), by rw [Int.natCast_emod]⟩
theorem fIx_fr0 {x : Int × Int} {Q : D → Prop} : fIx (frD x) (.int 0) Q = Q (.int x.1) := ex1
theorem fIx_fr1 {x : Int × Int} {Q : D → Prop} : fIx (frD x) (.int 1) Q = Q (.int x.2) := ex1
theorem sem_is_less : ∀ ds Q E, sp_is_less ds Q E → t_is_less (endD Q E) (startD 2 ds) := by
  rintro _ Q E ⟨⟨a, b⟩, rfl, ⟨⟨a1, a2⟩, b1, b2⟩, q⟩
  replace q : Q (.bool (decide (a.1 * b.2 < b.1 * a.2))) := q
  replace a1 : 0 ≤ a.2 := a1
  replace a2 : a.2 ≤ 1000000 := a2
  replace b1 : 0 ≤ b.2 := b1
  replace b2 : b.2 ≤ 1000000 := b2
  unfold t_is_less
  walk_at "ds"
  simp only [fIx_fr0, fIx_fr1, fMul_i, fLt_i]
  exact ⟨.inr ⟨by omega, by omega⟩, .inr ⟨by omega, by omega⟩, q⟩
def cntD (s t : Sta) : D := .dict [(.text "on", .int t.2.1), (.text "off", .int (1 - t.2.1)), (.text "clicks", .int (clk s t))]
theorem ix_cnt {k : Rk} {s t : Sta} {Q : D → Prop} (q : Q (.int (rcnt k s t))) : fIxDict (cntD s t) (.str k.txt) Q := by
  cases k with
  | on => exact ⟨_, rfl, q⟩
  | off => exact ⟨_, rfl, q⟩
  | clicks => exact ⟨_, rfl, q⟩
abbrev rT1 : TP := wCall sp_step (wCons (wVar 0) (wCons (wVar 1) (wCons (wVar 4) (wCons (wVar 5) wNil))))
abbrev rT2 : TP := wDisp3 "on" "off" "clicks" (wOp2 fIx (wPeek 6) (wC (.int 1))) (wOp2 fSub (wC (.int 1)) (wOp2 fIx (wPeek 6) (wC (.int 1)))) (wIf (bTest (wOp2 fNe (wOp2 fIx (wPeek 6) (wC (.int 1))) (wOp2 fIx (wPeek 4) (wC (.int 1))))) (wC (.int 1)) (wC (.int 0)))
abbrev rT3 : TP := wTup (wCons (wOp2 fIxDict (wPeek 7) (wPeek 2)) (wCons (wVar 6) (wCons (wVar 5) wNil)))
theorem bld_body {r : Rm} {g : Rg} {k : Rk} {s : Sta} {w : Int} {acc : List D} {R : List D → Env → Prop} (ha : acc.length ≤ 10) {a6 a7 : Sl}
    (q : R (acc ++ [roadD r g k s w]) [.val r.enc, .val g.enc, .val (.str k.txt), .un, .val (encSt s), .val (.int w), .val (encSt (tick r g s w)), .val (cntD s (tick r g s w))]) :
    rT1 [.val r.enc, .val g.enc, .val (.str k.txt), .un, .val (encSt s), .val (.int w), a6, a7] (fun d1 => rT2 [.val r.enc, .val g.enc, .val (.str k.txt), .un, .val (encSt s), .val (.int w), .val d1, a7] (fun d2 => slot [.val r.enc, .val g.enc, .val (.str k.txt), .un, .val (encSt s), .val (.int w), .val d1, .val d2] 4 = .val (encSt s) ∧
      rT3 [.val r.enc, .val g.enc, .val (.str k.txt), .un, .val (encSt s), .val (.int w), .val d1, .val d2] (fun d3 => acc.length < sizeLine ∧ R (acc ++ [d3]) [.val r.enc, .val g.enc, .val (.str k.txt), .un, .val (encSt s), .val (.int w), .val d1, .val d2]) E0') E0') E0' := by
  unfold rT1 rT2 rT3
  simp only [wDisp3]
  walk_at "ds"
  refine in_step ?_
  walk_at "ds"
  have fin' : ∀ c : Int, clk s (tick r g s w) = c → True ∧ fIxDict (D.dict [(.text "on", D.int (tick r g s w).2.1), (.text "off", D.int (1 - (tick r g s w).2.1)), (.text "clicks", D.int c)]) (D.str k.txt) fun x => acc.length < sizeLine ∧ R (acc ++ [.tuple [x, encSt (tick r g s w), .int w]]) [.val r.enc, .val g.enc, .val (.str k.txt), .un, .val (encSt s), .val (.int w), .val (encSt (tick r g s w)), .val (D.dict [(.text "on", D.int (tick r g s w).2.1), (.text "off", D.int (1 - (tick r g s w).2.1)), (.text "clicks", D.int c)])] := fun c hc => by
    subst hc
    exact ⟨trivial, ix_cnt (k := k) (s := s) (t := tick r g s w) ⟨Nat.lt_of_le_of_lt ha (by decide), q⟩⟩
  by_cases h : (tick r g s w).2.1 = s.2.1
  · exact ite_f (by simp [h]) (fin' 0 (if_pos h))
  · exact ite_t (by simp [h]) (fin' 1 (if_neg h))
theorem bld_one {r : Rm} {g : Rg} {k : Rk} {s : Sta} {w : Int} {ds acc : List D} {a5 a6 a7 : Sl} {fin : List D → Env → Prop} (ha : acc.length ≤ 10)
    (q : bldW 5 6 7 4 rT1 rT2 rT3 (encSt s) fin ds (acc ++ [roadD r g k s w]) [.val r.enc, .val g.enc, .val (.str k.txt), .un, .val (encSt s), .val (.int w), .val (encSt (tick r g s w)), .val (cntD s (tick r g s w))]) :
    bldW 5 6 7 4 rT1 rT2 rT3 (encSt s) fin (.int w :: ds) acc [.val r.enc, .val g.enc, .val (.str k.txt), .un, .val (encSt s), a5, a6, a7] := by
  rw [bldW]
  exact bld_body (R := bldW 5 6 7 4 rT1 rT2 rT3 (encSt s) fin ds) ha q
theorem sem_roads_of : ∀ ds Q E, sp_roads_of ds Q E → t_roads_of (endD Q E) (startD 8 ds) := by
  rintro _ Q E ⟨⟨r, g, k⟩, rfl, ⟨ok, gk⟩, q⟩
  replace ok : r.Ok := ok
  replace gk : g.Ok r.top := gk
  replace q : Q (tblD r g k (keysL r g)) := q
  have k61 : (keysL r g).length ≤ 61 := keys_len ok gk
  have knd := keys_nd ok gk
  unfold t_roads_of
  refine seq_g fun n1 h1 => ?_
  walk_at "ds"
  refine h1 _ ?_
  refine seq_g fun n2 h2 => ?_
  refine for_seqT encSt (keysL r g) (fun Q E q => by
      walk_at "ds"
      refine in_rows ok gk ?_
      rw [rows_td]
      walk_at "ds"
      rw [keys_sd]
      exact q) (fun rest env => ∃ pre s4 s5 s6 s7, keysL r g = pre ++ rest ∧ ((∀ d, s5 ≠ Sl.own d) ∧ (∀ d, s6 ≠ Sl.own d) ∧ ∀ d, s7 ≠ Sl.own d) ∧ env = [.val r.enc, .val g.enc, .val (.str k.txt), .own (tblD r g k pre), s4, s5, s6, s7]) ⟨[], .un, .un, .un, .un, rfl, ⟨fun _ z => (by cases z), fun _ z => (by cases z), fun _ z => (by cases z)⟩, rfl⟩ ?_ ?_
  · rintro _ ⟨pre, s4, s5, s6, s7, e, _, rfl⟩
    rw [List.append_nil] at e
    subst e
    refine h2 _ ?_
    walk_at "ds"
    exact q
  · rintro s rest _ nx ⟨pre, s4, s5, s6, s7, e, ⟨o5, o6, o7⟩, rfl⟩ go
    refine ⟨_, rfl, ?_⟩
    have hnp : s ∉ pre := nd_app (e ▸ knd)
    have hpl : pre.length < 61 := by
      have := congrArg List.length e
      rw [List.length_append, List.length_cons] at this
      omega
    have one : ∀ (m : Nat) (d : D), ([.val r.enc, .val g.enc, .val (.str k.txt), .own (tblD r g k pre), .val (encSt s), s5, s6, s7] : Env)[m]? = some (Sl.own d) → m = 3 := fun m d h => by
      match m, h with
      | 0, h => cases h
      | 1, h => cases h
      | 2, h => cases h
      | 3, _ => rfl
      | 4, h => cases h
      | 5, h => exact absurd (Option.some.inj h) (o5 d)
      | 6, h => exact absurd (Option.some.inj h) (o6 d)
      | 7, h => exact absurd (Option.some.inj h) (o7 d)
      | n + 8, h => cases h
    have kn : kvGet (encL stK (roadsD r g k) (pre.map fun s => (s, s))) (stK s) = none := by
      rw [get_encL stK_inj, lkp_none.mpr (by rw [List.map_map]; intro z; obtain ⟨y, hy, ey⟩ := List.mem_map.mp z; exact hnp (ey ▸ hy))]
      rfl
    refine ⟨one, [.num s.1, .num s.2.1, .num s.2.2], rfl, stK_depth s, le1000 (by unfold encL; rw [List.length_map, List.length_map]; omega), kn, ?_⟩
    show bldW 5 6 7 4 rT1 rT2 rT3 (encSt s) _ [.int 1, .int 2, .int 3] [] [.val r.enc, .val g.enc, .val (.str k.txt), .un, .val (encSt s), s5, s6, s7]
    refine bld_one (by simp) (bld_one (by simp) (bld_one (by simp) ?_))
    refine go _ ⟨pre ++ [s], .val (encSt s), .val (.int 3), .val (encSt (tick r g s 3)), .val (cntD s (tick r g s 3)), by rw [e]; simp, ⟨fun _ z => (by cases z), fun _ z => (by cases z), fun _ z => (by cases z)⟩, ?_⟩
    show ([.val r.enc, .val g.enc, .val (.str k.txt), .own (.tdict (encL stK (roadsD r g k) (pre.map fun s => (s, s)) ++ [(stK s, roadsD r g k s)])), .val (encSt s), .val (.int 3), .val (encSt (tick r g s 3)), .val (cntD s (tick r g s 3))] : Env) = _
    have et : D.tdict (encL stK (roadsD r g k) (pre.map fun s => (s, s)) ++ [(stK s, roadsD r g k s)]) = tblD r g k (pre ++ [s]) := by
      unfold tblD encSd encL
      simp
    rw [et]
end HC
namespace HC
open PySem PySem.Spec PyProof.Rows L2
local macro_rules | `(tactic| walk_at "ds") => `(tactic| try simp only [endD, startD, startT, endLaw, startLaw, List.map_cons, List.map_nil, List.length_cons, List.length_nil, List.replicate, List.cons_append, List.nil_append, Nat.reduceSub, Nat.reduceAdd, sSeq, sRet, sIf, sNil, sAsg, sUnp, sExpr, sPar2, sPar3, xCons, xNil, xVal, xOwn, bTest, bNot, bAnd, bOr, wVar, wPeek, slot, wC, wOp2, wB, wM, wCons, wNil, wTup, wLst, wIf, wAnd, wOr, wNot, wNeg, wCall, wCallT, wSl, wPart, wNoPart, List.set, ex1, gT_t, gT_st, gT_pr, gC_c, gN_c, gNil_c, sRaise, wChain, sFrz, frz, wIsi, wTabIn, wTabAt, sAug, wipeD, En.lp, loopW_nil, d_WEATHERS, ds_WEATHERS, wDisp1, wNewT, wComp, iSeq, iRange, gList_l, sFor, Bool.false_eq_true, if_false, if_true,
  fAdd_i, fAdd_s, fAdd_l, fAdd_t, fAddL_l, fSub_i, fLt_i, fLe_i, fGt_i, fGe_i, fEq_i, fNe_i, fIs_b, fIsN_b, fIs_nn, fIs_in, fIs_ln, fIs_tn, fIsN_nn, fIsN_in, fIsN_ln, fIsN_tn, gMin_2, gMax_2, gLen_l, gLen_t, fIx_rm0, fIx_rm1, fIx_rm2, fIx_st0, fIx_st1, fIx_st2, fIx_rg0, fIx_rg1, fIx_rg2, fSl_rg, fEq_gap, fEq_stay, fEq_late, fEq_look, fEq_lean])
theorem gLen_tbl {r : Rm} {g : Rg} {k : Rk} {l : List Sta} {Q : D → Prop} : gLen [tblD r g k l] Q = Q (.int (l.length : Int)) := by
  unfold tblD
  rw [gLen_sd, List.length_map]
theorem fIx_end {f : Nat → D} {t : Nat} {Q : D → Prop} (q : Q (f t)) : fIx (.list ((List.range (t + 1)).map f)) (.int (-1)) Q := by
  refine ⟨f t, atI_last? ?_, q⟩
  rw [List.getLast?_map, List.range_succ, List.getLast?_append]
  rfl
theorem ht_few {r : Rm} {g : Rg} {k : Rk} (ok : r.Ok) (gk : g.Ok r.top) {l : List (Sta × Int)} (nd : (l.map (·.1)).Nodup) (hk : ∀ p ∈ l, p.1 ∈ keysL r g) : l.length ≤ 61 := by
  have := sub_len (l.map (·.1)) (keysL r g) nd fun s hs => by
    obtain ⟨p, hp, rfl⟩ := List.mem_map.mp hs
    exact hk p hp
  rw [List.length_map] at this
  have k61 : (keysL r g).length ≤ 61 := keys_len ok gk
  omega
theorem lkp_self {l : List Sta} {s : Sta} (h : s ∈ l) : lkp (l.map fun s => (s, s)) s = some s := by
  induction l with
  | nil => cases h
  | cons b l ih =>
    rw [List.map_cons, lkp]
    by_cases e : b = s
    · rw [if_pos e, e]
    · rw [if_neg e]
      exact ih ((List.mem_cons.mp h).resolve_left fun z => e z.symm)
theorem sem_heights_of : ∀ ds Q E, sp_heights_of ds Q E → t_heights_of (endD Q E) (startD 10 ds) := by
  rintro _ Q E ⟨⟨r, g, k⟩, rfl, ⟨ok, gk⟩, q⟩
  replace ok : r.Ok := ok
  replace gk : g.Ok r.top := gk
  replace q : Q (.list ((List.range ((keysL r g).length + 1)).map fun t => htD (htL r g k t))) := q
  have k61 : (keysL r g).length ≤ 61 := keys_len ok gk
  have knd := keys_nd ok gk
  unfold t_heights_of
  refine seq_g fun n1 h1 => ?_
  walk_at "ds"
  refine ⟨[.num (first r).1, .num (first r).2.1, .num (first r).2.2], rfl, stK_depth _, ?_⟩
  refine h1 _ ?_
  refine seq_g fun n2 h2 => ?_
  refine for_rngT (n := (keysL r g).length) (fun Q E q => by
      walk_at "ds"
      rw [gLen_tbl]
      exact q) (fun t env => ∃ s3 s4 s5 s6 s7 s8 s9, env = [.val (tblD r g k (keysL r g)), .val (encSt (first r)), .own (.list ((List.range (t + 1)).map fun t => htD (htL r g k t))), s3, s4, s5, s6, s7, s8, s9]) (by omega) ⟨.un, .un, .un, .un, .un, .un, .un, rfl⟩ ?_ ?_
  · rintro _ ⟨s3, s4, s5, s6, s7, s8, s9, rfl⟩
    refine h2 _ ?_
    walk_at "ds"
    exact q
  · rintro t _ nx ht ⟨s3, s4, s5, s6, s7, s8, s9, rfl⟩ go
    refine ⟨_, rfl, ?_⟩
    refine seq_g fun n3 h3 => ?_
    walk_at "ds"
    refine h3 _ ?_
    refine seq_g fun n4 h4 => ?_
    have H := ht_is (k := k) ok gk t
    refine for_seqT (α := Sta × Int) (fun p => encSt p.1) (htL r g k t) (fun Q E q => by
        walk_at "ds"
        refine fIx_end ?_
        show Q ((encL stK D.int (htL r g k t)).map fun p => keyD p.1)
        rw [keys_sd, List.map_map]
        exact q) (fun rest env => ∃ pre s5 s6 s7 s8 s9, htL r g k t = pre ++ rest ∧ env = [.val (tblD r g k (keysL r g)), .val (encSt (first r)), .own (.list ((List.range (t + 1)).map fun t => htD (htL r g k t))), .val (.int (t : Int)), .own (htD (hfold (turnL r g k pre))), s5, s6, s7, s8, s9]) ⟨[], s5, s6, s7, s8, s9, rfl, rfl⟩ ?_ ?_
    · rintro _ ⟨pre, s5, s6, s7, s8, s9, e, rfl⟩
      rw [List.append_nil] at e
      refine h4 _ ?_
      unfold sApp
      walk_at "ds"
      refine ⟨small1000 (by rw [List.length_map, List.length_range]; omega), ?_⟩
      have gg := go [.val (tblD r g k (keysL r g)), .val (encSt (first r)), .own (.list ((List.range (t + 1 + 1)).map fun t => htD (htL r g k t))), .val (.int (t : Int)), .val (htD (hfold (turnL r g k pre))), s5, s6, s7, s8, s9] ⟨_, _, _, _, _, _, _, rfl⟩
      rw [List.range_succ, List.map_append] at gg
      have em : htL r g k (t + 1) = hfold (turnL r g k pre) := by rw [← e]; rfl
      rw [← em] at gg ⊢
      exact gg
    · rintro p rest _ nx ⟨pre, s5, s6, s7, s8, s9, e, rfl⟩ go
      refine ⟨_, rfl, ?_⟩
      have hp : p ∈ htL r g k t := by rw [e]; simp
      have hF := hget_of H.1 (s := p.1) (v := p.2) hp
      have N := road_net (k := k) ok gk
      have wp := (H.2.1 _ _ hF).1
      have hs : p.1 ∈ keysL r g := wp.stay N.cl N.fm
      refine for_seqT (α := Int) (roadD r g k p.1) [1, 2, 3] (fun Q E q => by
          walk_at "ds"
          refine fIx_sd (b := p.1) (lkp_self hs) ?_
          exact q) (fun ws env => ∃ done s6 s7 s8 s9, [1, 2, 3] = done ++ ws ∧ env = [.val (tblD r g k (keysL r g)), .val (encSt (first r)), .own (.list ((List.range (t + 1)).map fun t => htD (htL r g k t))), .val (.int (t : Int)), .own (htD (hfold (turnL r g k pre ++ done.map fun w => (tick r g p.1 w, p.2 + rcnt k p.1 (tick r g p.1 w))))), .val (encSt p.1), s6, s7, s8, s9]) ⟨[], s6, s7, s8, s9, rfl, by simp⟩ ?_ ?_
      · rintro _ ⟨done, s6, s7, s8, s9, ed, rfl⟩
        rw [List.append_nil] at ed
        refine go _ ⟨pre ++ [p], .val (encSt p.1), s6, s7, s8, s9, by rw [e]; simp, ?_⟩
        subst ed
        have et : turnL r g k (pre ++ [p]) = turnL r g k pre ++ [1, 2, 3].map fun w => (tick r g p.1 w, p.2 + rcnt k p.1 (tick r g p.1 w)) := by
          unfold turnL
          rw [List.flatMap_append]
          simp
        rw [et]
      · rintro w ws _ nx2 ⟨done, s6, s7, s8, s9, ed, rfl⟩ go2
        refine ⟨_, rfl, ?_⟩
        refine seq_g fun n5 h5 => ?_
        walk_at "ds"
        refine fIx_end ?_
        refine fIx_sd (s := p.1) (b := p.2) (by rw [← hget_lkp]; exact hF) ?_
        walk_at "ds"
        refine h5 _ ?_
        walk_at "ds"
        simp only [wGet]
        walk_at "ds"
        have hw : 1 ≤ w ∧ w ≤ 3 := by
          have : w ∈ [1, 2, 3] := by rw [ed]; simp
          simp at this
          omega
        have hc := rcnt_01 (k := k) (s := p.1) ok gk (rows_closed ok gk hs hw.1 hw.2)
        have hp0 := (wp.cnt N.cnt).1
        have L0 := hfold_is (turnL r g k pre ++ done.map fun w => (tick r g p.1 w, p.2 + rcnt k p.1 (tick r g p.1 w)))
        have few : (hfold (turnL r g k pre ++ done.map fun w => (tick r g p.1 w, p.2 + rcnt k p.1 (tick r g p.1 w)))).length ≤ 61 := ht_few (k := k) ok gk L0.1 fun y hy => by
          have m := (L0.2.1 y.1 y.2 (hget_of L0.1 hy)).1
          rcases List.mem_append.mp m with m | m
          · obtain ⟨p', hp', w', w1, w3, ea, _⟩ := mem_turn.mp m
            have hF' := hget_of H.1 (s := p'.1) (v := p'.2) (by rw [e]; exact List.mem_append_left _ hp')
            rw [ea]
            exact rows_closed ok gk ((H.2.1 _ _ hF').1.stay N.cl N.fm) w1 w3
          · obtain ⟨w', hw', ey⟩ := List.mem_map.mp m
            have hw2 : 1 ≤ w' ∧ w' ≤ 3 := by
              have : w' ∈ [1, 2, 3] := by rw [ed]; exact List.mem_append_left _ hw'
              simp at this
              omega
            have ey1 := congrArg Prod.fst ey
            rw [← ey1]
            exact rows_closed ok gk hs hw2.1 hw2.2
        have fin : ∀ l, l = hput (hfold (turnL r g k pre ++ done.map fun w => (tick r g p.1 w, p.2 + rcnt k p.1 (tick r g p.1 w)))) (tick r g p.1 w) (p.2 + rcnt k p.1 (tick r g p.1 w)) → nx2 [.val (tblD r g k (keysL r g)), .val (encSt (first r)), .own (.list ((List.range (t + 1)).map fun t => htD (htL r g k t))), .val (.int (t : Int)), .own (htD l), .val (encSt p.1), .val (.int (rcnt k p.1 (tick r g p.1 w))), .val (encSt (tick r g p.1 w)), .val (.int w), .val (.int (p.2 + rcnt k p.1 (tick r g p.1 w)))] := fun l hl => by
          refine go2 _ ⟨done ++ [w], .val (.int (rcnt k p.1 (tick r g p.1 w))), .val (encSt (tick r g p.1 w)), .val (.int w), .val (.int (p.2 + rcnt k p.1 (tick r g p.1 w))), by rw [ed]; simp, ?_⟩
          rw [hl, List.map_append, ← List.append_assoc]
          unfold hfold
          rw [List.foldl_append (l' := List.map _ [w])]
          rfl
        generalize hfold (turnL r g k pre ++ done.map fun w => (tick r g p.1 w, p.2 + rcnt k p.1 (tick r g p.1 w))) = l at fin few
        refine ⟨[.num (tick r g p.1 w).1, .num (tick r g p.1 w).2.1, .num (tick r g p.1 w).2.2], rfl, stK_depth _, ?_⟩
        have eg : (kvGet (encL stK D.int l) (stK (tick r g p.1 w))).getD (.int (-1)) = .int ((hget l (tick r g p.1 w)).getD (-1)) := by
          rw [get_encL stK_inj, hget_lkp]
          cases lkp l (tick r g p.1 w) <;> rfl
        rw [show NestedKey.tup [.num (tick r g p.1 w).1, .num (tick r g p.1 w).2.1, .num (tick r g p.1 w).2.2] = stK (tick r g p.1 w) from rfl, eg, fLt_i]
        have hpp := hput_putL l (tick r g p.1 w) (p.2 + rcnt k p.1 (tick r g p.1 w))
        by_cases lt : (hget l (tick r g p.1 w)).getD (-1) < p.2 + rcnt k p.1 (tick r g p.1 w)
        · refine ite_t (decide_eq_true lt) ?_
          refine sSet_tdG (kvs := encL stK D.int l) rfl ?_
          walk_at "ds"
          refine ⟨[.num (tick r g p.1 w).1, .num (tick r g p.1 w).2.1, .num (tick r g p.1 w).2.2], rfl, stK_depth _, small1000 (by unfold encL; rw [List.length_map]; omega), ?_⟩
          rw [put_sd rfl]
          refine fin _ ?_
          rw [hpp]
          cases hg : hget l (tick r g p.1 w) with
          | none => rfl
          | some v =>
            rw [hg] at lt
            exact (if_pos lt).symm
        · refine ite_f (decide_eq_false lt) ?_
          refine fin l ?_
          rw [hpp]
          cases hg : hget l (tick r g p.1 w) with
          | none =>
            rw [hg] at lt
            have lt' : ¬ (-1 : Int) < p.2 + rcnt k p.1 (tick r g p.1 w) := lt
            omega
          | some v =>
            rw [hg] at lt
            exact (if_neg lt).symm
end HC
namespace HC
open PySem PySem.Spec PyProof.Rows L2
local macro_rules | `(tactic| walk_at "ds") => `(tactic| try simp only [endD, startD, startT, endLaw, startLaw, List.map_cons, List.map_nil, List.length_cons, List.length_nil, List.replicate, List.cons_append, List.nil_append, Nat.reduceSub, Nat.reduceAdd, sSeq, sRet, sIf, sNil, sAsg, sUnp, sExpr, sPar2, sPar3, xCons, xNil, xVal, xOwn, bTest, bNot, bAnd, bOr, wVar, wPeek, slot, wC, wOp2, wB, wM, wCons, wNil, wTup, wLst, wIf, wAnd, wOr, wNot, wNeg, wCall, wCallT, wSl, wPart, wNoPart, List.set, ex1, gT_t, gT_st, gT_pr, gC_c, gN_c, gNil_c, sRaise, wChain, sFrz, frz, wIsi, wTabIn, wTabAt, sAug, wipeD, En.lp, loopW_nil, d_WEATHERS, ds_WEATHERS, wDisp1, wNewT, wComp, iSeq, iRange, gList_l, sFor, Bool.false_eq_true, if_false, if_true,
  fAdd_i, fAdd_s, fAdd_l, fAdd_t, fAddL_l, fSub_i, fLt_i, fLe_i, fGt_i, fGe_i, fEq_i, fNe_i, fIs_b, fIsN_b, fIs_nn, fIs_in, fIs_ln, fIs_tn, fIsN_nn, fIsN_in, fIsN_ln, fIsN_tn, gMin_2, gMax_2, gLen_l, gLen_t, fIx_rm0, fIx_rm1, fIx_rm2, fIx_st0, fIx_st1, fIx_st2, fIx_rg0, fIx_rg1, fIx_rg2, fSl_rg, fEq_gap, fEq_stay, fEq_late, fEq_look, fEq_lean])
def optF : Option (Int × Int) → D
  | none => .none
  | some x => frD x
theorem low_den (a : Int) (b : Nat) : 0 ≤ (lowI a b).2 ∧ (lowI a b).2 ≤ b := by
  show 0 ≤ (b : Int) / _ ∧ (b : Int) / _ ≤ b
  exact ⟨Int.ediv_nonneg (by omega) (by omega), Int.ediv_le_self _ (by omega)⟩
theorem least_den {h : Nat → Option Int} {N : Nat} {FN : Int} : ∀ {T : Nat} {x : Int × Int}, leastF h N FN T = some x → 0 ≤ x.2 ∧ x.2 ≤ N
  | 0, x, e => by cases e
  | T + 1, x, e => by
    rw [leastF_succ] at e
    unfold leastStep at e
    cases eh : h T with
    | none => rw [eh] at e; exact least_den e
    | some F =>
      rw [eh] at e
      have ld := low_den (FN - F) (N - T)
      have ok : 0 ≤ (lowI (FN - F) (N - T)).2 ∧ (lowI (FN - F) (N - T)).2 ≤ N := ⟨ld.1, by have := ld.2; omega⟩
      cases el : leastF h N FN T with
      | none => rw [el] at e; cases e; exact ok
      | some y =>
        rw [el] at e
        have e' : (if fless (lowI (FN - F) (N - T)) y then some (lowI (FN - F) (N - T)) else some y) = some x := e
        split at e'
        · cases e'; exact ok
        · cases e'; exact least_den el
theorem in_lowest {a : Int} {b : Nat} {Q : D → Prop} {E : Addr → Prop} (h1 : 1 ≤ b) (h2 : b ≤ 1000000) (q : Q (frD (lowI a b))) : sp_lowest [.int a, .int (b : Int)] Q E := ⟨(a, b), rfl, ⟨h1, h2⟩, q⟩
theorem in_less {x y : Int × Int} {Q : D → Prop} {E : Addr → Prop} (h1 : 0 ≤ x.2 ∧ x.2 ≤ 1000000) (h2 : 0 ≤ y.2 ∧ y.2 ≤ 1000000) (q : Q (.bool (decide (fless x y)))) : sp_is_less [frD x, frD y] Q E := ⟨(x, y), rfl, ⟨h1, h2⟩, q⟩
theorem in_heights {r : Rm} {g : Rg} {k : Rk} {Q : D → Prop} {E : Addr → Prop} (ok : r.Ok) (gk : g.Ok r.top) (q : Q (.list ((List.range ((keysL r g).length + 1)).map fun t => htD (htL r g k t)))) : sp_heights_of [tblD r g k (keysL r g), encSt (first r)] Q E := ⟨(r, g, k), rfl, ⟨ok, gk⟩, q⟩
theorem in_roads {r : Rm} {g : Rg} {k : Rk} {Q : D → Prop} {E : Addr → Prop} (ok : r.Ok) (gk : g.Ok r.top) (q : Q (tblD r g k (keysL r g))) : sp_roads_of [r.enc, g.enc, .str k.txt] Q E := ⟨(r, g, k), rfl, ⟨ok, gk⟩, q⟩
theorem in_greatest {r : Rm} {g : Rg} {k : Rk} {Q : D → Prop} {E : Addr → Prop} (ok : r.Ok) (gk : g.Ok r.top) (q : Q (frD (bestL r g k))) : sp_greatest_of [tblD r g k (keysL r g), encSt (first r)] Q E := ⟨(r, g, k), rfl, ⟨ok, gk⟩, q⟩
theorem fIx_hts {r : Rm} {g : Rg} {k : Rk} {n t : Nat} (h : t ≤ n) {Q : D → Prop} (q : Q (htD (htL r g k t))) : fIx (.list ((List.range (n + 1)).map fun t => htD (htL r g k t))) (.int (t : Int)) Q := fIx_map (a := t) (by rw [List.getElem?_range (by omega)]) q
theorem fIsN_fr {x : Int × Int} {Q : D → Prop} : fIsN (frD x) .none Q = Q (.bool true) := fIsN_tn
theorem fIs_fr {x : Int × Int} {Q : D → Prop} : fIs (frD x) .none Q = Q (.bool false) := fIs_tn
theorem sem_greatest_of : ∀ ds Q E, sp_greatest_of ds Q E → t_greatest_of (endD Q E) (startD 9 ds) := by
  rintro _ Q E ⟨⟨r, g, k⟩, rfl, ⟨ok, gk⟩, q⟩
  replace ok : r.Ok := ok
  replace gk : g.Ok r.top := gk
  replace q : Q (frD (bestL r g k)) := q
  have k61 : (keysL r g).length ≤ 61 := keys_len ok gk
  unfold t_greatest_of
  refine seq_g fun n1 h1 => ?_
  walk_at "ds"
  rw [gLen_tbl]
  refine in_heights ok gk ?_
  refine h1 _ ?_
  refine seq_g fun n2 h2 => ?_
  refine for_seqT (α := Sta × Int) (fun p => encSt p.1) (htL r g k (keysL r g).length) (fun Q E q => by
      walk_at "ds"
      refine fIx_hts (Nat.le_refl _) ?_
      show Q ((encL stK D.int (htL r g k (keysL r g).length)).map fun p => keyD p.1)
      rw [keys_sd, List.map_map]
      exact q) (fun rest env => ∃ pre b s5 s6 s7 s8, htL r g k (keysL r g).length = pre ++ rest ∧ b = pre.foldl (bestStep (fun t s => hget (htL r g k t) s) (keysL r g).length) (0, 1) ∧ (0 ≤ b.2 ∧ b.2 ≤ 61) ∧ env = [.val (tblD r g k (keysL r g)), .val (encSt (first r)), .val (.int ((keysL r g).length : Int)), .val (.list ((List.range ((keysL r g).length + 1)).map fun t => htD (htL r g k t))), .val (frD b), s5, s6, s7, s8]) ⟨[], (0, 1), .un, .un, .un, .un, rfl, rfl, ⟨by decide, by decide⟩, rfl⟩ ?_ ?_
  · rintro _ ⟨pre, b, s5, s6, s7, s8, e, eb, _, rfl⟩
    rw [List.append_nil] at e
    refine h2 _ ?_
    walk_at "ds"
    rw [eb, ← e]
    exact q
  · rintro p rest _ nx ⟨pre, b, s5, s6, s7, s8, e, eb, hb, rfl⟩ go
    refine ⟨_, rfl, ?_⟩
    refine seq_g fun n3 h3 => ?_
    walk_at "ds"
    refine h3 _ ?_
    refine seq_g fun n4 h4 => ?_
    have hp : p ∈ htL r g k (keysL r g).length := by rw [e]; simp
    have hFN := hget_of (ht_is (k := k) ok gk (keysL r g).length).1 (s := p.1) (v := p.2) hp
    refine for_rngT (n := (keysL r g).length) (fun Q E q => q) (fun T env => ∃ s7 s8, env = [.val (tblD r g k (keysL r g)), .val (encSt (first r)), .val (.int ((keysL r g).length : Int)), .val (.list ((List.range ((keysL r g).length + 1)).map fun t => htD (htL r g k t))), .val (frD b), .val (encSt p.1), .val (optF (leastF (fun t => hget (htL r g k t) p.1) (keysL r g).length p.2 T)), s7, s8]) (by omega) ⟨s7, s8, rfl⟩ ?_ ?_
    · rintro _ ⟨s7, s8, rfl⟩
      refine h4 _ ?_
      have hden := fun x => least_den (h := fun t => hget (htL r g k t) p.1) (N := (keysL r g).length) (FN := p.2) (T := (keysL r g).length) (x := x)
      have hst : bestStep (fun t s => hget (htL r g k t) s) (keysL r g).length b p = match leastF (fun t => hget (htL r g k t) p.1) (keysL r g).length p.2 (keysL r g).length with
        | none => b
        | some x => if fless b x then x else b := rfl
      have hfo : (pre ++ [p]).foldl (bestStep (fun t s => hget (htL r g k t) s) (keysL r g).length) (0, 1) = bestStep (fun t s => hget (htL r g k t) s) (keysL r g).length b p := by rw [List.foldl_append, ← eb]; rfl
      have fin : ∀ (b' : Int × Int) (s6 : Sl), b' = bestStep (fun t s => hget (htL r g k t) s) (keysL r g).length b p → (0 ≤ b'.2 ∧ b'.2 ≤ 61) → nx [.val (tblD r g k (keysL r g)), .val (encSt (first r)), .val (.int ((keysL r g).length : Int)), .val (.list ((List.range ((keysL r g).length + 1)).map fun t => htD (htL r g k t))), .val (frD b'), .val (encSt p.1), s6, s7, s8] := fun b' s6 h1 h2 => go _ ⟨pre ++ [p], b', .val (encSt p.1), s6, s7, s8, by rw [e]; simp, h1.trans hfo.symm, h2, rfl⟩
      generalize leastF (fun t => hget (htL r g k t) p.1) (keysL r g).length p.2 (keysL r g).length = L at hden hst
      cases L with
      | none =>
        unfold optF
        walk_at "ds"
        exact fin b _ hst.symm hb
      | some x =>
        have hx := hden x rfl
        have hx' : 0 ≤ x.2 ∧ x.2 ≤ 61 := ⟨hx.1, by have := hx.2; omega⟩
        unfold optF
        walk_at "ds"
        simp only [fIsN_fr]
        walk_at "ds"
        refine in_less ⟨hb.1, by have := hb.2; omega⟩ ⟨hx'.1, by have := hx'.2; omega⟩ ?_
        by_cases c : fless b x
        · exact ite_t (decide_eq_true c) (fin x _ (by rw [hst]; exact (if_pos c).symm) hx')
        · exact ite_f (decide_eq_false c) (fin b _ (by rw [hst]; exact (if_neg c).symm) hb)
    · rintro T _ nx2 hT ⟨s7, s8, rfl⟩ go2
      refine ⟨_, rfl, ?_⟩
      have hsu := leastF_succ (fun t => hget (htL r g k t) p.1) (keysL r g).length p.2 T
      unfold leastStep at hsu
      dsimp only at hsu
      have hden := fun x => least_den (h := fun t => hget (htL r g k t) p.1) (N := (keysL r g).length) (FN := p.2) (T := T) (x := x)
      walk_at "ds"
      refine fIx_hts (by omega) ?_
      refine fIn_sd ?_
      rw [← hget_lkp]
      cases hF : hget (htL r g k T) p.1 with
      | none =>
        rw [hF] at hsu
        refine ite_f rfl ?_
        refine go2 _ ⟨.val (.int (T : Int)), s8, ?_⟩
        rw [hsu]
      | some F =>
        rw [hF] at hsu
        refine ite_t rfl ?_
        refine fIx_hts (Nat.le_refl _) ?_
        refine fIx_sd (s := p.1) (b := p.2) (by rw [← hget_lkp]; exact hFN) ?_
        refine fIx_hts (by omega) ?_
        refine fIx_sd (s := p.1) (b := F) (by rw [← hget_lkp]; exact hF) ?_
        rw [fSub_i, show ((keysL r g).length : Int) - (T : Int) = (((keysL r g).length - T : Nat) : Int) by omega]
        refine in_lowest (by omega) (by omega) ?_
        have ld := low_den (p.2 - F) ((keysL r g).length - T)
        have fin : ∀ L s7 s8, L = leastF (fun t => hget (htL r g k t) p.1) (keysL r g).length p.2 (T + 1) → nx2 [.val (tblD r g k (keysL r g)), .val (encSt (first r)), .val (.int ((keysL r g).length : Int)), .val (.list ((List.range ((keysL r g).length + 1)).map fun t => htD (htL r g k t))), .val (frD b), .val (encSt p.1), .val (optF L), s7, s8] := fun L s7 s8 hL => go2 _ ⟨s7, s8, by rw [hL]⟩
        generalize leastF (fun t => hget (htL r g k t) p.1) (keysL r g).length p.2 T = L at hden hsu
        cases L with
        | none =>
          unfold optF
          walk_at "ds"
          exact fin _ _ _ hsu.symm
        | some x =>
          have hx := hden x rfl
          unfold optF
          walk_at "ds"
          simp only [fIs_fr]
          walk_at "ds"
          refine in_less ⟨ld.1, by have := ld.2; omega⟩ ⟨hx.1, by have := hx.2; omega⟩ ?_
          by_cases c : fless (lowI (p.2 - F) ((keysL r g).length - T)) x
          · exact ite_t (decide_eq_true c) (fin (some (lowI (p.2 - F) ((keysL r g).length - T))) _ _ (by rw [hsu]; exact (if_pos c).symm))
          · exact ite_f (decide_eq_false c) (fin (some x) _ _ (by rw [hsu]; exact (if_neg c).symm))
end HC
namespace HC
open PySem PySem.Spec PyProof.Rows L2
local macro_rules | `(tactic| walk_at "ds") => `(tactic| try simp only [endD, startD, startT, endLaw, startLaw, List.map_cons, List.map_nil, List.length_cons, List.length_nil, List.replicate, List.cons_append, List.nil_append, Nat.reduceSub, Nat.reduceAdd, sSeq, sRet, sIf, sNil, sAsg, sUnp, sExpr, sPar2, sPar3, xCons, xNil, xVal, xOwn, bTest, bNot, bAnd, bOr, wVar, wPeek, slot, wC, wOp2, wB, wM, wCons, wNil, wTup, wLst, wIf, wAnd, wOr, wNot, wNeg, wCall, wCallT, wSl, wPart, wNoPart, List.set, ex1, gT_t, gT_st, gT_pr, gC_c, gN_c, gNil_c, sRaise, wChain, sFrz, frz, wIsi, wTabIn, wTabAt, sAug, wipeD, En.lp, loopW_nil, d_WEATHERS, ds_WEATHERS, wDisp1, wNewT, wComp, iSeq, iRange, gList_l, sFor, Bool.false_eq_true, if_false, if_true,
  fAdd_i, fAdd_s, fAdd_l, fAdd_t, fAddL_l, fSub_i, fLt_i, fLe_i, fGt_i, fGe_i, fEq_i, fNe_i, fIs_b, fIsN_b, fIs_nn, fIs_in, fIs_ln, fIs_tn, fIsN_nn, fIsN_in, fIsN_ln, fIsN_tn, gMin_2, gMax_2, gLen_l, gLen_t, fIx_rm0, fIx_rm1, fIx_rm2, fIx_st0, fIx_st1, fIx_st2, fIx_rg0, fIx_rg1, fIx_rg2, fSl_rg, fEq_gap, fEq_stay, fEq_late, fEq_look, fEq_lean])
theorem sem_click_share (x : Xc) : ∀ ds Q E, sp_click_share x ds Q E → t_click_share x (endD Q E) (startD 2 ds) := by
  rintro _ Q E ⟨⟨a, b⟩, rfl, ⟨h1, h2⟩, q⟩
  replace q : outE Q E (onRg x a b fun r g => .ok (frD (bestL r g .clicks))) := q
  unfold t_click_share
  refine seq_g fun n1 g1 => ?_
  walk_at "ds"
  refine on_rg h1 h2 q fun r g ok gk ea eb q1 => g1 _ ?_
  clear q
  subst ea eb
  walk_at "ds"
  refine in_roads (k := .clicks) ok gk ?_
  refine in_first ?_
  exact in_greatest ok gk q1
end HC
namespace HC
open PySem PySem.Spec PyProof.Rows L2
section
variable {K : PySem.W.Frag} {P : Program} {w : World} {M : Addr → Prop} {H : Hp}
theorem kN_num {k : Key} {n : Int} : kN k = .num n ↔ k = .inl n := by
  cases k with
  | inl i =>
    constructor
    · intro h; cases h; rfl
    · intro h; cases h; rfl
  | inr x =>
    constructor
    · intro h; cases h
    · intro h; cases h
theorem rpk_len : ∀ {kvs : List (Key × V)} {ds : List (NestedKey × D)}, RpK K P w M H kvs ds → kvs.length = ds.length
  | _, _, .nil => rfl
  | _, _, .cons _ r => by rw [List.length_cons, List.length_cons, rpk_len r]
theorem rpk_num (n : Int) : ∀ {kvs : List (Key × V)} {ds : List (NestedKey × D)}, RpK K P w M H kvs ds → (valV kvs (.inl n) = none ∧ kvGet ds (.num n) = none) ∨ ∃ v d, valV kvs (.inl n) = some v ∧ kvGet ds (.num n) = some d ∧ HC.Rp K P w M H v d
  | _, _, .nil => .inl ⟨rfl, rfl⟩
  | _, _, .cons (k := k') (v := v') (d := d') h r => by
    by_cases hk : k' = .inl n
    · subst hk
      refine .inr ⟨v', d', valV_pos rfl, ?_, h⟩
      unfold kvGet
      rw [if_pos (show kN (.inl n) = .num n from rfl)]
    · have hn : ¬ kN k' = .num n := fun z => hk (kN_num.mp z)
      rcases rpk_num n r with ⟨a, b⟩ | ⟨v, d, a, b, c⟩
      · refine .inl ⟨by rw [valV_neg hk]; exact a, ?_⟩
        unfold kvGet
        rw [if_neg hn]
        exact b
      · refine .inr ⟨v, d, by rw [valV_neg hk]; exact a, ?_, c⟩
        unfold kvGet
        rw [if_neg hn]
        exact b
theorem rpk_any (n : Int) : ∀ {kvs : List (Key × V)} {ds : List (NestedKey × D)}, RpK K P w M H kvs ds → (kvs.any fun kv => decide (kv.1 = (.inl n : Key))) = (kvGet ds (.num n)).isSome
  | _, _, .nil => rfl
  | _, _, .cons (k := k') h r => by
    rw [List.any_cons]
    unfold kvGet
    by_cases hk : k' = .inl n
    · subst hk
      rw [if_pos (show kN (.inl n) = .num n from rfl)]
      simp
    · rw [if_neg (fun z => hk (kN_num.mp z)), decide_eq_false hk, Bool.false_or]
      exact rpk_any n r
theorem rpk_map {n : Int} {v : V} {d : D} (hv : HC.Rp K P w M H v d) : ∀ {kvs : List (Key × V)} {ds : List (NestedKey × D)}, RpK K P w M H kvs ds → RpK K P w M H (kvs.map fun kv => if kv.1 = (.inl n : Key) then (kv.1, v) else kv) (ds.map fun p => if p.1 = .num n then (p.1, d) else p)
  | _, _, .nil => .nil
  | _, _, .cons (k := k') h r => by
    rw [List.map_cons, List.map_cons]
    by_cases hk : k' = .inl n
    · rw [if_pos hk, if_pos (kN_num.mpr hk)]
      exact .cons hv (rpk_map hv r)
    · rw [if_neg hk, if_neg (fun z => hk (kN_num.mp z))]
      exact .cons h (rpk_map hv r)
theorem rpk_app {k : Key} {v : V} {d : D} (hv : HC.Rp K P w M H v d) : ∀ {kvs : List (Key × V)} {ds : List (NestedKey × D)}, RpK K P w M H kvs ds → RpK K P w M H (kvs ++ [(k, v)]) (ds ++ [(kN k, d)])
  | _, _, .nil => .cons hv .nil
  | _, _, .cons h r => .cons h (rpk_app hv r)
theorem rpk_put {n : Int} {v : V} {d : D} (hv : HC.Rp K P w M H v d) {kvs : List (Key × V)} {ds : List (NestedKey × D)} (r : RpK K P w M H kvs ds) : RpK K P w M H (putK kvs (.inl n) v) (kvPut ds (.num n) d) := by
  unfold putK kvPut
  rw [rpk_any n r]
  by_cases c : (kvGet ds (.num n)).isSome = true
  · rw [if_pos c, if_pos c]
    exact rpk_map hv r
  · rw [if_neg c, if_neg c]
    exact rpk_app (k := .inl n) hv r
end
def wNewK : TP := fun _ Q _ => Q (.dict [])
def wGetK (to te tf : TP) : TP := fun r Q E => to r (fun x => match x with
  | .dict kvs => te r (fun y => tf r (fun z => ∃ n, y = .int n ∧ Q ((kvGet kvs (.num n)).getD z)) E) E
  | _ => False) E
def sSetK (i : Nat) (t tj : TP) : TSD := fun e r => match slot r i with
  | .own (.dict kvs) => t r (fun d => tj r (fun j => ∃ n, j = .int n ∧ kvs.length < sizeLine ∧ e.nx (r.set i (.own (.dict (kvPut kvs (.num n) d))))) (e.ex r)) (e.ex r)
  | _ => False
section
variable {X : Cx} {C : Ct} {W : XW} {k : Nat} {o e f : Expr} {to te tf : TP} {apos cpos pos : Pos}
theorem dn_dictK (G : Good X C W k) : DN X C W (.Dict [] [] pos) wNewK := by
  refine ⟨pe_dnewK.imp fun σ H Q ⟨M, r, E, S, hW, q⟩ p hp => ?_, ⟨fun hq _ h => hq _ h⟩⟩
  have S2 := S.take (p := p) (H' := upd H p (.dK [])) hp (same_upd hp) (by rw [upd_same]; simp)
  exact q p _ (Same.ex (same_upd hp)) hp S2 (.dctK upd_same .nil)
theorem rq_dK {M : Addr → Prop} {H : Hp} {v : V} {kvs : List (NestedKey × D)} (h : C.Rq M H v (.dict kvs)) : ∃ a ks, v = .ref a ∧ Rd H a (.dK ks) ∧ RpK C.K C.P C.w M H ks kvs := by
  rcases h with h | ⟨a, rfl, _, h⟩
  · cases h with
    | dctK m rd rk => exact ⟨_, _, rfl, rd, rk⟩
  · cases h with
    | dctK e rk => exact ⟨_, _, rfl, .inl e, rk⟩
theorem rq_int {M : Addr → Prop} {H : Hp} {v : V} {n : Int} (h : C.Rq M H v (.int n)) : v = .int n := by
  rcases h with h | ⟨_, _, _, h⟩
  · cases h; rfl
  · cases h
theorem dv_getK (G : Good X C W k) (ho : DE X C W o to) (he : DE X C W e te) (hf : DV X C W f tf) (m : M2 X o "get" apos e f cpos := by exact ⟨rfl, rfl, rfl, rfl⟩) : DV X C W (.Call (.Attribute o "get" apos) [e, f] [] cpos) (wGetK to te tf) := by
  refine ⟨(pe_dget2 G.hu1 ho.pe he.pe hf.pe m).imp fun σ H Q ⟨M, r, E, S, hW, q⟩ => ⟨M, r, E, S, hW, ho.mo.imp (fun x z v H1 k1 S1 p1 => ?_) (fun _ z => z) q⟩, ⟨fun hq hE q => ho.mo.imp (fun x z => ?_) hE q⟩⟩
  · cases x with
    | dict kvs =>
      obtain ⟨a, ks, rfl, rd, rk⟩ := rq_dK p1
      refine ⟨a, rfl, .inl ⟨ks, rd⟩, M, r, E, S1, hW.mono k1, he.mo.imp (fun y z v2 H2 k2 S2 p2 => ⟨M, r, E, S2, hW.mono (k1.trans k2), hf.mo.imp (fun y2 z v3 H3 k3 S3 p3 => ?_) (fun _ z => z) z⟩) (fun _ z => z) z⟩
      obtain ⟨n, ey, q⟩ := z
      subst ey
      have ev := rq_int p2
      subst ev
      obtain ⟨a', ks', e', rd', rk'⟩ := rq_dK (S1.rq (k2.trans k3) p1)
      cases e'
      refine ⟨valV ks' (.inl n), .inl ⟨ks', .inl n, rd', rfl, rfl⟩, ?_⟩
      rcases rpk_num n rk' with ⟨a1, a2⟩ | ⟨v, d, a1, a2, a3⟩
      · rw [a1]
        rw [a2] at q
        exact q _ H3 (k1.trans (k2.trans k3)) S3 p3
      · rw [a1]
        rw [a2] at q
        exact q _ H3 (k1.trans (k2.trans k3)) S3 a3
    | _ => exact z.elim
  · cases x with
    | dict kvs => exact he.mo.imp (fun y z => hf.mo.imp (fun w ⟨n, a, c⟩ => ⟨n, a, hq _ c⟩) hE z) hE z
    | _ => exact z
theorem ds_setK (i : Nat) {x : Str} {ej : Expr} {t tj : TP} {p1 p2 : Pos} (G : Good X C W k) (he : DV X C W e t) (hj : DE X C W ej tj) (hN : X.N[i]? = some x := by rfl) (hv : Vis X.env.scope x := by first | exact Or.inl rfl | exact Or.inr (Or.inl rfl) | exact Or.inr (Or.inr rfl))
    (hd : (x == ("__debug__" : Str)) = false := by decide) (hcd : (x == ("__classdict__" : Str)) = false := by decide)
    (hs : swapsWith e (some (.Subscript (.Name x p1) ej p2)) pos.line X.env = pure false := by rfl) :
    DS X C W (.Assign [.Subscript (.Name x p1) ej p2] e pos) (sSetK i t tj) := by
  refine ⟨(ps_dput G.hu1 (pe_var (i := i) hN hv hd hcd) hj.pe he.pe hs).imp fun De σ H ⟨M, r, e, S, f, q⟩ => ?_, ⟨fun {e e' r} h q => ?_⟩⟩
  · unfold sSetK at q
    split at q
    · rename_i kvs hsl
      have hr := slot_get hsl (by simp)
      refine ⟨M, r, e.ex r, S, f.wish S, he.mo.imp (fun d z v H1 k1 S1 p1 => ?_) (fun _ z => z) q⟩
      obtain ⟨a, e1, m, h0, m0, tp⟩ := S1.own i _ hr
      refine ⟨.ref a, e1, M, r, e.ex r, S1, (f.wish S).mono k1, hj.mo.imp (fun j z vj H2 k2 S2 p2 => ?_) (fun _ z => z) z⟩
      cases tp with
      | @dctK ks _ ea rk =>
        obtain ⟨n, ej, hz, z⟩ := z
        subst ej
        have ev := rq_int p2
        subst ev
        have nt : ¬ C.inT a := fun t => m0 (S.inm a t)
        have ea2 : H2 a = some (.dK ks) := k2 a _ nt ea
        have rk2 := RpK.step (S1.stp k2) rk
        have rv2 := HC.Rp.step (S1.stp k2) p1
        refine ⟨a, _, rfl, DPut.k (k := .inl n) ea2 (by rw [rpk_len rk]; exact hz), ?_⟩
        obtain ⟨s3, S3⟩ := S2.mut (o := .dK (putK ks (.inl n) v)) (d' := .dict (kvPut kvs (.num n) d)) hr e1 fun s3 => .dctK upd_same (RpK.step s3 (rpk_put rv2 rk2))
        exact f.nx M _ σ _ (((S.stp k1).trans (S1.stp k2)).trans s3) S3 z
    · exact q.elim
  · unfold sSetK at q ⊢
    split at q
    · refine he.mo.imp (fun d z => hj.mo.imp (fun j z => ?_) (fun c z => h.ex _ c z) z) (fun c z => h.ex _ c z) q
      exact let ⟨n, a, b, z⟩ := z; ⟨n, a, b, h.nx _ z⟩
    · exact q
end
end HC
namespace HC
open PySem PySem.Spec PyProof.Rows L2
def bolW (tt : TB) (gi : Nat) (r : Env) : List D → (List Bool → Prop) → Prop
  | [], Q => Q []
  | d :: ds, Q => tt (r.set gi (.val d)) (fun b => bolW tt gi r ds fun bs => Q (b :: bs)) E0'
def joinG : List (List D) → List Bool → D → List (List D)
  | g :: gs, b :: bs, x => if b = true then (g ++ [x]) :: gs else g :: joinG gs bs x
  | gs, _, x => gs ++ [[x]]
def noOwn (r : Env) : Prop := ∀ (m : Nat) (d : D), r[m]? ≠ some (Sl.own d)
def grpL (i j gi xi : Nat) (g : GD) (tt : TB) (fin : Env → Prop) : List D → List (List D) → Env → Prop
  | [], acc, r => fin (r.set i (.own (.list (acc.map D.list))))
  | d :: ds, acc, r => ∃ r1, g d r = some r1 ∧ (slot r1 j = .un ∧ j < r1.length ∧ gi < r1.length) ∧ noOwn r1 ∧ ∃ xd, slot r1 xi = .val xd ∧ acc.length < 1000 ∧ (∀ q ∈ acc, q.length < 1000 ∧ (D.list q).sh 60) ∧
      bolW tt gi (wipeD r1 [gi]) (acc.map D.list) fun bs => grpL i j gi xi g tt fin ds (joinG acc bs xd) r1
def sGroup (i j gi xi : Nat) (u : TPA) (g : GD) (tt : TB) : TSD := fun e r => slot r i = .own (.list []) ∧ noOwn ((r.set i .un).set j .un) ∧ u ((r.set i .un).set j .un) (fun ds => grpL i j gi xi g tt e.nx ds [] ((r.set i .un).set j .un)) E0'
theorem mono_bol {tt : TB} (ht : MonoB tt) {gi : Nat} {r : Env} : ∀ (ds : List D) {Q Q' : List Bool → Prop}, (∀ bs, Q bs → Q' bs) → bolW tt gi r ds Q → bolW tt gi r ds Q'
  | [], _, _, h, q => h _ q
  | d :: ds, Q, Q', h, q => ht.imp (fun b z => mono_bol ht ds (fun bs w => h _ w) z) (fun _ z => z) q
theorem mono_grp {tt : TB} (ht : MonoB tt) {i j gi xi : Nat} {g : GD} {fin fin' : Env → Prop} (h : ∀ r, fin r → fin' r) : ∀ (ds : List D) (acc : List (List D)) (r : Env), grpL i j gi xi g tt fin ds acc r → grpL i j gi xi g tt fin' ds acc r
  | [], acc, r, q => h _ q
  | d :: ds, acc, r, ⟨r1, e1, e2, e3, xd, e4, e5, e6, q⟩ => ⟨r1, e1, e2, e3, xd, e4, e5, e6, mono_bol ht _ (fun bs z => mono_grp ht h ds _ _ z) q⟩
section
variable {X : Cx} {C : Ct} {W : XW} {k : Nat}
theorem nd_inj {l : List Addr} (h : l.Nodup) {i j : Nat} {x : Addr} (a : l[i]? = some x) (b : l[j]? = some x) : i = j := by
  obtain ⟨l1, m1⟩ := List.getElem?_eq_some_iff.mp a
  obtain ⟨l2, m2⟩ := List.getElem?_eq_some_iff.mp b
  have pw := List.pairwise_iff_getElem.mp (List.nodup_iff_pairwise_ne.mp h)
  rcases Nat.lt_trichotomy i j with c | c | c
  · exact absurd (m1.trans m2.symm) (pw i j l1 l2 c)
  · exact c
  · exact absurd (m2.trans m1.symm) (pw j i l2 l1 c)
structure GI (C : Ct) (M : Addr → Prop) (i : Nat) (a : Addr) (gs : List Addr) (Ha : Hp) (acc : List (List D)) (r : Env) (σ : L2.St) (H : Hp) : Prop where
  S : Sim (C.here (fun b => M b ∨ b ∈ gs) H) (fun b => M b ∨ b ∈ gs) r σ H
  no : noOwn r
  si : σ[i]? = some (some (.ref a))
  ea : H a = some (.lst (gs.map V.ref))
  ln : gs.length = acc.length
  el : ∀ (j : Nat) (q : List D), acc[j]? = some q → ∃ g vs, gs[j]? = some g ∧ H g = some (.lst vs) ∧ C.RpA (fun b => M b ∨ b ∈ gs) H vs q
  nd : gs.Nodup
  fr : ∀ b ∈ gs, Ha b = none ∧ ¬ M b ∧ ¬ C.inT b
  am : M a ∧ ¬ C.inT a ∧ a ∉ gs
  kp : ∀ b o, b ≠ a → b ∉ gs → ¬ C.inT b → Ha b = some o → H b = some o
section
variable {M : Addr → Prop} {i : Nat} {a : Addr} {gs : List Addr} {Ha : Hp} {acc : List (List D)} {r : Env} {σ : L2.St} {H : Hp}
theorem GI.grow (B : GI C M i a gs Ha acc r σ H) {H' : Hp} (kx : C.Ex H H') (t : C.tok (fun b => M b ∨ b ∈ gs) H') : GI C M i a gs Ha acc r σ H' := by
  have S' : Sim (C.here (fun b => M b ∨ b ∈ gs) H) (fun b => M b ∨ b ∈ gs) r σ H' := B.S.grow kx t
  refine ⟨Sim.here (C := C.here _ H) S' B.no Stp.refl t S'.dom (fun b z => S'.tm z), B.no, B.si, kx a _ B.am.2.1 B.ea, B.ln, fun j q e => ?_, B.nd, B.fr, B.am, fun b o h1 h2 h3 h4 => kx b o h3 (B.kp b o h1 h2 h3 h4)⟩
  obtain ⟨g, vs, h1, h2, h3⟩ := B.el j q e
  exact ⟨g, vs, h1, kx g _ (B.fr g (List.mem_of_getElem? h1)).2.2 h2, HC.RpA.step (B.S.stp kx) h3⟩
theorem tok_ne {M M' : Addr → Prop} {b : Addr} {o : HO} (st : Stp M H M' (upd H b o)) (t : C.tok M H) (nb : ¬ C.inT b) : C.tok M' (upd H b o) := tok_step st (fun c hc => upd_ne (fun z : c = b => nb (z ▸ hc))) t
theorem GI.put (B : GI C M i a gs Ha acc r σ H) {D : Addr} {o : HO} (md : M D) (nd : D ≠ a) (nt : ¬ C.inT D) (nh : Ha D = none) : GI C M i a gs Ha acc r σ (upd H D o) := by
  have st : Stp (fun b => M b ∨ b ∈ gs) H (fun b => M b ∨ b ∈ gs) (upd H D o) := fun b x e m => ⟨by rw [upd_ne (show b ≠ D from fun z => m (.inl (by rw [z]; exact md)))]; exact e, m⟩
  have ng : ∀ g ∈ gs, g ≠ D := fun g hg z => (B.fr g hg).2.1 (z ▸ md)
  have t := tok_ne (C := C) st B.S.base.tok nt
  refine ⟨Sim.here (C := C.here _ H) B.S B.no st t (fun b m z => ?_) (fun b z => B.S.tm z), B.no, B.si, by rw [upd_ne (Ne.symm nd)]; exact B.ea, B.ln, fun j q e => ?_, B.nd, B.fr, B.am, fun b x h1 h2 h3 h4 => ?_⟩
  · by_cases hb : b = D
    · subst hb; rw [upd_same] at z; cases z
    · rw [upd_ne hb] at z; exact B.S.dom b m z
  · obtain ⟨g, vs, h1, h2, h3⟩ := B.el j q e
    exact ⟨g, vs, h1, by rw [upd_ne (ng g (List.mem_of_getElem? h1))]; exact h2, HC.RpA.step st h3⟩
  · rw [upd_ne (fun z => by rw [z, nh] at h4; cases h4)]
    exact B.kp b x h1 h2 h3 h4
theorem GI.new (B : GI C M i a gs Ha acc r σ H) {D : Addr} {o : HO} (hD : H D = none) (nh : Ha D = none) : GI C (fun b => M b ∨ b = D) i a gs Ha acc r σ (upd H D o) ∧ ¬ C.inT D ∧ D ≠ a ∧ D ∉ gs := by
  have nt : ¬ C.inT D := fun t => B.S.dom D (B.S.tm t) hD
  have na : D ≠ a := fun z => by rw [z, B.ea] at hD; cases hD
  have ng : D ∉ gs := fun hg => B.S.dom D (.inr hg) hD
  have st : Stp (fun b => M b ∨ b ∈ gs) H (fun b => (M b ∨ b = D) ∨ b ∈ gs) (upd H D o) := fun b x e m => ⟨by rw [upd_ne (ne_of_none e hD)]; exact e, fun z => by
    rcases z with (z | z) | z
    · exact m (.inl z)
    · exact ne_of_none e hD z
    · exact m (.inr z)⟩
  have t := tok_ne (C := C) st B.S.base.tok nt
  refine ⟨⟨Sim.here (C := C.here _ H) B.S B.no st t (fun b m z => ?_) (fun b z => ?_), B.no, B.si, by rw [upd_ne (Ne.symm na)]; exact B.ea, B.ln, fun j q e => ?_, B.nd, fun b hb => ?_, ⟨.inl B.am.1, B.am.2⟩, fun b x h1 h2 h3 h4 => ?_⟩, nt, na, ng⟩
  · by_cases hb : b = D
    · subst hb; rw [upd_same] at z; cases z
    · rw [upd_ne hb] at z
      rcases m with (m | m) | m
      · exact B.S.dom b (.inl m) z
      · exact hb m
      · exact B.S.dom b (.inr m) z
  · rcases B.S.tm z with m | m
    · exact .inl (.inl m)
    · exact .inr m
  · obtain ⟨g, vs, h1, h2, h3⟩ := B.el j q e
    exact ⟨g, vs, h1, by rw [upd_ne (show g ≠ D from fun z => ng (z ▸ List.mem_of_getElem? h1))]; exact h2, HC.RpA.step st h3⟩
  · obtain ⟨f1, f2, f3⟩ := B.fr b hb
    exact ⟨f1, fun z => z.elim f2 fun z => ng (z ▸ hb), f3⟩
  · rw [upd_ne (fun z => by rw [z, nh] at h4; cases h4)]
    exact B.kp b x h1 h2 h3 h4
theorem GI.less {D : Addr} (B : GI C (fun b => M b ∨ b = D) i a gs Ha acc r σ H) (ma : M a) (it : ∀ b, C.inT b → M b) : GI C M i a gs Ha acc r σ H := by
  have sub : ∀ b, (M b ∨ b ∈ gs) → ((M b ∨ b = D) ∨ b ∈ gs) := fun b z => z.elim (fun z => .inl (.inl z)) .inr
  have st : Stp (fun b => (M b ∨ b = D) ∨ b ∈ gs) H (fun b => M b ∨ b ∈ gs) H := Stp.less sub
  refine ⟨Sim.here (C := C.here _ H) B.S B.no st (tok_step (C := C) st (fun _ _ => rfl) B.S.base.tok) (fun b m => B.S.dom b (sub b m)) (fun b z => .inl (it b z)), B.no, B.si, B.ea, B.ln, fun j q e => ?_, B.nd, fun b hb => ?_, ⟨ma, B.am.2⟩, B.kp⟩
  · obtain ⟨g, vs, h1, h2, h3⟩ := B.el j q e
    exact ⟨g, vs, h1, h2, HC.RpA.step st h3⟩
  · obtain ⟨f1, f2, f3⟩ := B.fr b hb
    exact ⟨f1, fun z => f2 (.inl z), f3⟩
theorem GI.join (B : GI C M i a gs Ha acc r σ H) {j : Nat} {q : List D} (e : acc[j]? = some q) {v : V} {d : D} (p : C.Rp (fun b => M b ∨ b ∈ gs) H v d) : ∃ g vs, gs[j]? = some g ∧ H g = some (.lst vs) ∧ vs.length = q.length ∧ GI C M i a gs Ha (acc.set j (q ++ [d])) r σ (upd H g (.lst (vs ++ [v]))) := by
  obtain ⟨g, vs, h1, h2, h3⟩ := B.el j q e
  have hg := List.mem_of_getElem? h1
  obtain ⟨f1, f2, f3⟩ := B.fr g hg
  have st : Stp (fun b => M b ∨ b ∈ gs) H (fun b => M b ∨ b ∈ gs) (upd H g (.lst (vs ++ [v]))) := fun b x e m => ⟨by rw [upd_ne (show b ≠ g from fun z => m (.inr (by rw [z]; exact hg)))]; exact e, m⟩
  have jl := (List.getElem?_eq_some_iff.mp e).1
  refine ⟨g, vs, h1, h2, HC.RpA.length h3, ⟨Sim.here (C := C.here _ H) B.S B.no st (tok_ne (C := C) st B.S.base.tok f3) (fun b m z => ?_) (fun b z => B.S.tm z), B.no, B.si, by rw [upd_ne (show a ≠ g from fun z => B.am.2.2 (z ▸ hg))]; exact B.ea, by rw [List.length_set]; exact B.ln, fun j' q' e' => ?_, B.nd, B.fr, B.am, fun b x z1 z2 z3 z4 => ?_⟩⟩
  · by_cases hb : b = g
    · subst hb; rw [upd_same] at z; cases z
    · rw [upd_ne hb] at z; exact B.S.dom b m z
  · by_cases hj : j = j'
    · subst hj
      rw [List.getElem?_set_self jl] at e'
      cases e'
      exact ⟨g, _, h1, upd_same, HC.RpA.append (HC.RpA.step st h3) (.cons (HC.Rp.step st p) .nil)⟩
    · rw [List.getElem?_set_ne hj] at e'
      obtain ⟨g', vs', k1, k2, k3⟩ := B.el j' q' e'
      refine ⟨g', vs', k1, ?_, HC.RpA.step st k3⟩
      rw [upd_ne]
      · exact k2
      · intro z
        subst z
        exact hj (nd_inj B.nd h1 k1)
  · rw [upd_ne (show b ≠ g from fun z => z2 (z ▸ hg))]
    exact B.kp b x z1 z2 z3 z4
theorem GI.add (B : GI C M i a gs Ha acc r σ H) {p : Addr} (hp : H p = none) (nh : Ha p = none) {v : V} {d : D} (pv : C.Rp (fun b => M b ∨ b ∈ gs) H v d) : GI C M i a (gs ++ [p]) Ha (acc ++ [[d]]) r σ (upd (upd H p (.lst [v])) a (.lst (gs.map V.ref ++ [.ref p]))) := by
  have nt : ¬ C.inT p := fun t => B.S.dom p (B.S.tm t) hp
  have na : p ≠ a := fun z => by rw [z, B.ea] at hp; cases hp
  have ng : p ∉ gs := fun hg => B.S.dom p (.inr hg) hp
  have nM : ¬ M p := fun m => B.S.dom p (.inl m) hp
  have keep : ∀ b x, b ≠ a → H b = some x → upd (upd H p (.lst [v])) a (.lst (gs.map V.ref ++ [.ref p])) b = some x := fun b x h e => by rw [upd_ne h, upd_ne (ne_of_none e hp)]; exact e
  have st : Stp (fun b => M b ∨ b ∈ gs) H (fun b => M b ∨ b ∈ gs ++ [p]) (upd (upd H p (.lst [v])) a (.lst (gs.map V.ref ++ [.ref p]))) := fun b x e m => ⟨keep b x (fun z => m (.inl (by rw [z]; exact B.am.1))) e, fun z => by
    rcases z with z | z
    · exact m (.inl z)
    · rcases List.mem_append.mp z with z | z
      · exact m (.inr z)
      · exact ne_of_none e hp (List.mem_singleton.mp z)⟩
  have t := tok_step (C := C) st (fun c hc => by rw [upd_ne (fun z : c = a => B.am.2.1 (z ▸ hc)), upd_ne (fun z : c = p => nt (z ▸ hc))]) B.S.base.tok
  refine ⟨Sim.here (C := C.here _ H) B.S B.no st t (fun b m z => ?_) (fun b z => ?_), B.no, B.si, by rw [upd_same, List.map_append]; rfl, by rw [List.length_append, List.length_append, B.ln]; rfl, fun j q e => ?_, ?_, fun b hb => ?_, ⟨B.am.1, B.am.2.1, fun z => ?_⟩, fun b x h1 h2 h3 h4 => ?_⟩
  · by_cases hb : b = a
    · subst hb; rw [upd_same] at z; cases z
    · rw [upd_ne hb] at z
      by_cases hb2 : b = p
      · subst hb2; rw [upd_same] at z; cases z
      · rw [upd_ne hb2] at z
        rcases m with m | m
        · exact B.S.dom b (.inl m) z
        · rcases List.mem_append.mp m with m | m
          · exact B.S.dom b (.inr m) z
          · exact hb2 (List.mem_singleton.mp m)
  · rcases B.S.tm z with m | m
    · exact .inl m
    · exact .inr (List.mem_append_left _ m)
  · by_cases hj : j < acc.length
    · rw [List.getElem?_append_left hj] at e
      obtain ⟨g, vs, h1, h2, h3⟩ := B.el j q e
      refine ⟨g, vs, by rw [List.getElem?_append_left (by rw [B.ln]; exact hj)]; exact h1, keep g _ (fun z => B.am.2.2 (z ▸ List.mem_of_getElem? h1)) h2, HC.RpA.step st h3⟩
    · rw [List.getElem?_append_right (by omega)] at e
      have z0 : j - acc.length = 0 := by
        cases hz : j - acc.length with
        | zero => rfl
        | succ n => rw [hz] at e; simp at e
      rw [z0] at e
      cases e
      refine ⟨p, [v], by rw [List.getElem?_append_right (by rw [B.ln]; omega), B.ln, z0]; rfl, by rw [upd_ne na, upd_same], .cons (HC.Rp.step st pv) .nil⟩
  · rw [List.nodup_append]
    refine ⟨B.nd, by simp, fun x hx y hy => ?_⟩
    cases List.mem_singleton.mp hy
    intro z
    exact ng (z ▸ hx)
  · rcases List.mem_append.mp hb with hb | hb
    · exact B.fr b hb
    · cases List.mem_singleton.mp hb
      exact ⟨nh, nM, nt⟩
  · rcases List.mem_append.mp z with z | z
    · exact B.am.2.2 z
    · exact na (List.mem_singleton.mp z).symm
  · exact keep b x h1 (B.kp b x h1 (fun z => h2 (List.mem_append_left _ z)) h3 h4)
theorem GI.frozen (B : GI C M i a gs Ha acc r σ H) (it : ∀ b, C.inT b → M b) : Sim (C.here (fun b => M b ∧ b ≠ a) H) (fun b => M b ∧ b ≠ a) r σ H ∧ ∀ (j : Nat) (q : List D), acc[j]? = some q → ∃ g, gs[j]? = some g ∧ C.Rp (fun b => M b ∧ b ≠ a) H (.ref g) (.list q) := by
  have st : Stp (fun b => M b ∨ b ∈ gs) H (fun b => M b ∧ b ≠ a) H := Stp.less fun b z => .inl z.1
  refine ⟨Sim.here (C := C.here _ H) B.S B.no st (tok_step (C := C) st (fun _ _ => rfl) B.S.base.tok) (fun b m => B.S.dom b (.inl m.1)) (fun b z => ⟨it b z, fun e => B.am.2.1 (e ▸ z)⟩), fun j q e => ?_⟩
  obtain ⟨g, vs, h1, h2, h3⟩ := B.el j q e
  exact ⟨g, h1, .lst (fun z => (B.fr g (List.mem_of_getElem? h1)).2.1 z.1) h2 (HC.RpA.step st h3)⟩
end
end
end HC
namespace HC
open PySem PySem.Spec PyProof.Rows L2
section
variable {X : Cx} {C : Ct} {W : XW} {k : Nat}
theorem Sim.skip {M : Addr → Prop} {r : Env} {σ : L2.St} {H : Hp} (S : Sim C M r σ H) {j : Nat} (hj : slot r j = .un) (x : Option V) : Sim C M r (σ.set j x) H := by
  have ne : ∀ {m : Nat} {y : Sl}, y ≠ .un → r[m]? = some y → j ≠ m := fun {m y} hy e z => by
    subst z
    have key : ∀ (r : Env) (j : Nat), slot r j = .un → r[j]? = some y → y = .un := by
      intro r
      induction r with
      | nil => intro j _ e; simp at e
      | cons a r ih =>
        intro j h e
        cases j with
        | zero => simp at e; rw [← e]; exact h
        | succ j => exact ih j h (by simpa using e)
    exact hy (key r j hj e)
  refine ⟨by rw [List.length_set]; exact S.len, fun m d e => ?_, fun m d e => ?_, fun m n d d' b e1 e2 e3 e4 => ?_, fun m e => ?_, S.base, S.m0, S.dom, S.inm⟩
  · rw [List.getElem?_set_ne (ne (by simp) e)]
    exact S.val m d e
  · rw [List.getElem?_set_ne (ne (by simp) e)]
    exact S.own m d e
  · rw [List.getElem?_set_ne (ne (by simp) e1)] at e3
    rw [List.getElem?_set_ne (ne (by simp) e2)] at e4
    exact S.sep m n d d' b e1 e2 e3 e4
  · rename_i x'
    by_cases hx : x' = .un
    · subst hx; exact trivial
    · rw [List.getElem?_set_ne (ne hx e)]
      exact S.tk m e
def selR : List Addr → List Bool → List V
  | g :: gs, b :: bs => if b = true then .ref g :: selR gs bs else selR gs bs
  | _, _ => []
def selD : List (List D) → List Bool → List (List D)
  | g :: gs, b :: bs => if b = true then g :: selD gs bs else selD gs bs
  | _, _ => []
theorem selR_snoc {g : Addr} {b : Bool} : ∀ {gs : List Addr} {bs : List Bool}, gs.length = bs.length → selR (gs ++ [g]) (bs ++ [b]) = selR gs bs ++ if b = true then [.ref g] else []
  | [], [], _ => by cases b <;> rfl
  | x :: gs, c :: bs, h => by
    have ih := selR_snoc (g := g) (b := b) (gs := gs) (bs := bs) (by simpa using h)
    show (if c = true then V.ref x :: selR (gs ++ [g]) (bs ++ [b]) else selR (gs ++ [g]) (bs ++ [b])) = (if c = true then V.ref x :: selR gs bs else selR gs bs) ++ _
    rw [ih]
    cases c <;> rfl
  | [], _ :: _, h => by simp at h
  | _ :: _, [], h => by simp at h
theorem selR_rp {P : Program} {w : World} {K : PySem.W.Frag} {M : Addr → Prop} {H : Hp} : ∀ {gs : List Addr} {acc : List (List D)} {bs : List Bool}, gs.length = acc.length → (∀ (j : Nat) (q : List D), acc[j]? = some q → ∃ g, gs[j]? = some g ∧ Rp K P w M H (.ref g) (.list q)) → RpA K P w M H (selR gs bs) ((selD acc bs).map D.list)
  | [], [], bs, _, _ => by cases bs <;> exact .nil
  | g :: gs, q :: acc, [], _, _ => .nil
  | g :: gs, q :: acc, b :: bs, hl, h => by
    have ih := selR_rp (bs := bs) (show gs.length = acc.length by simpa using hl) fun j q' e => by
      obtain ⟨g', e1, e2⟩ := h (j + 1) q' (by simpa using e)
      exact ⟨g', by simpa using e1, e2⟩
    obtain ⟨g', e1, e2⟩ := h 0 q rfl
    cases e1
    show RpA K P w M H (if b = true then V.ref g :: selR gs bs else selR gs bs) ((if b = true then q :: selD acc bs else selD acc bs).map D.list)
    cases b with
    | true => exact .cons e2 ih
    | false => exact ih
  | [], _ :: _, _, h, _ => by simp at h
  | _ :: _, [], _, h, _ => by simp at h
theorem sel_none {x : D} : ∀ {acc : List (List D)} {bs : List Bool}, acc.length = bs.length → selD acc bs = [] → joinG acc bs x = acc ++ [[x]]
  | [], [], _, _ => rfl
  | q :: acc, b :: bs, hl, h => by
    cases b with
    | true => cases h
    | false =>
      have := sel_none (x := x) (acc := acc) (bs := bs) (by simpa using hl) h
      show q :: joinG acc bs x = _
      rw [this]
      rfl
  | [], _ :: _, h, _ => by simp at h
  | _ :: _, [], h, _ => by simp at h
theorem sel_some {x : D} : ∀ {gs : List Addr} {acc : List (List D)} {bs : List Bool}, gs.length = acc.length → acc.length = bs.length → selD acc bs ≠ [] → ∃ j g q, acc[j]? = some q ∧ gs[j]? = some g ∧ (selR gs bs)[0]? = some (.ref g) ∧ joinG acc bs x = acc.set j (q ++ [x])
  | [], [], [], _, _, h => absurd rfl h
  | g :: gs, q :: acc, b :: bs, h1, h2, h => by
    cases b with
    | true => exact ⟨0, g, q, rfl, rfl, rfl, rfl⟩
    | false =>
      obtain ⟨j, g', q', e1, e2, e3, e4⟩ := sel_some (x := x) (gs := gs) (acc := acc) (bs := bs) (by simpa using h1) (by simpa using h2) h
      refine ⟨j + 1, g', q', by simpa using e1, by simpa using e2, e3, ?_⟩
      show q :: joinG acc bs x = _
      rw [e4]
      rfl
  | [], [], _ :: _, _, h, _ => by simp at h
  | [], _ :: _, _, h, _, _ => by simp at h
  | _ :: _, [], _, h, _, _ => by simp at h
  | _ :: _, _ :: _, [], _, h, _ => by simp at h
theorem pt_any {e : Expr} {t : TB} (h : ∀ C', Good X C' W k → DT X C' W e t) : PT X e (fun σ H Q => ∃ C', Good X C' W k ∧ lB C' W t σ H Q) := ⟨fun pins s σ H Q I ⟨C', g, q⟩ => (h C' g).pt.run pins s σ H Q I q⟩
theorem pg_any {e : Expr} {is : List Nat} {g : GD} (h : ∀ C', Good X C' W k → DG X C' e is g) : PG X e (fun v σ H Q => ∃ C', Good X C' W k ∧ lG C' is g v σ H Q) := ⟨fun pins s σ H v u Q I r ⟨C', gd, q⟩ => (h C' gd).pg.run pins s σ H v u Q I r q⟩
theorem eq_empty {j : Nat} {r : Env} {l : List (List D)} (hs : slot r j = .val (.list (l.map D.list))) (sh : ∀ q ∈ l, (D.list q).sh 60) {Q : Bool → Prop} (q : Q l.isEmpty) : bTest (wOp2 fEq (wPeek j) (wLst wNil)) r Q E0' := by
  unfold bTest wOp2 wPeek wLst wNil
  rw [hs]
  refine ⟨⟨(sh_list (n := 60) fun d hd => ?_).mono (by decide), (sh_is []).mono (by decide)⟩, ?_⟩
  · obtain ⟨q, hq, rfl⟩ := List.mem_map.mp hd
    exact sh q hq
  · cases l with
    | nil => exact q
    | cons a l => exact q
theorem selD_mem {q : List D} : ∀ {acc : List (List D)} {bs : List Bool}, q ∈ selD acc bs → q ∈ acc
  | [], _, h => by cases h
  | a :: acc, [], h => by cases h
  | a :: acc, b :: bs, h => by
    have h' : q ∈ (if b = true then a :: selD acc bs else selD acc bs) := h
    cases b with
    | true =>
      rcases List.mem_cons.mp h' with h' | h'
      · exact h' ▸ List.mem_cons_self
      · exact List.mem_cons_of_mem _ (selD_mem h')
    | false => exact List.mem_cons_of_mem _ (selD_mem h')
theorem selR_len : ∀ (gs : List Addr) (bs : List Bool), (selR gs bs).length ≤ bs.length
  | [], _ => Nat.zero_le _
  | _ :: _, [] => Nat.zero_le _
  | g :: gs, b :: bs => by
    have := selR_len gs bs
    show (if b = true then V.ref g :: selR gs bs else selR gs bs).length ≤ _
    cases b with
    | true => rw [if_pos rfl, List.length_cons, List.length_cons]; omega
    | false => rw [if_neg (by simp), List.length_cons]; omega
end
end HC
namespace HC
open PySem PySem.Spec PyProof.Rows L2
section
variable {X : Cx} {C : Ct} {W : XW} {k : Nat}
theorem get_un {r : Env} {i m : Nat} {x : Sl} (hx : x ≠ .un) (q : (r.set i Sl.un)[m]? = some x) : m ≠ i ∧ r[m]? = some x := by
  by_cases hm : i = m
  · subst hm
    rw [List.getElem?_set_self'] at q
    cases z : r[i]? with
    | none => rw [z] at q; cases q
    | some w => rw [z] at q; cases q; exact absurd rfl hx
  · rw [List.getElem?_set_ne hm] at q
    exact ⟨Ne.symm hm, q⟩
theorem Sim.forget {M : Addr → Prop} {r : Env} {σ : L2.St} {H : Hp} (S : Sim C M r σ H) (i : Nat) : Sim C M (r.set i .un) σ H := by
  refine ⟨by rw [List.length_set]; exact S.len, fun m d e => S.val m d (get_un (by simp) e).2, fun m d e => S.own m d (get_un (by simp) e).2, fun m n d d' b e1 e2 e3 e4 => S.sep m n d d' b (get_un (by simp) e1).2 (get_un (by simp) e2).2 e3 e4, fun {x'} m e => (by
    by_cases hx : x' = .un
    · subst hx; exact trivial
    · exact S.tk m (get_un hx e).2), S.base, S.m0, S.dom, S.inm⟩
theorem slot_set_self : ∀ {r : Env} {j : Nat} {x : Sl}, j < r.length → slot (r.set j x) j = x
  | [], _, _, h => by simp at h
  | _ :: _, 0, _, _ => rfl
  | _ :: r, j + 1, x, h => slot_set_self (r := r) (by simpa using h)
theorem GI.done {M : Addr → Prop} {i : Nat} {a : Addr} {gs : List Addr} {Ha H3 : Hp} {acc : List (List D)} {r0 r : Env} {σ0 σ : L2.St} {H : Hp} (B : GI C M i a gs H3 acc r σ H) (S : Sim C M r0 σ0 Ha) (a0 : C.H0 a = none) (a1 : ¬ C.M0 a) (k0 : ∀ b o, ¬ C.inT b → Ha b = some o → H3 b = some o) :
    Stp M Ha M H ∧ Sim C M (r.set i (.own (.list (acc.map D.list)))) σ H := by
  have kp : ∀ b o, b ≠ a → ¬ C.inT b → Ha b = some o → H b = some o := fun b o h1 h2 h3 => B.kp b o h1 (fun hg => by have := (B.fr b hg).1; rw [k0 b o h2 h3] at this; cases this) h2 (k0 b o h2 h3)
  have st : Stp M Ha M H := fun b o e m => ⟨kp b o (fun z => m (z ▸ B.am.1)) (fun t => m (S.tm t)) e, m⟩
  have s2 : Stp (fun b => M b ∨ b ∈ gs) H M H := Stp.less fun b z => .inl z
  have ra : ∀ {gs' : List Addr} {acc' : List (List D)}, gs'.length = acc'.length → (∀ (j : Nat) (q : List D), acc'[j]? = some q → ∃ g, gs'[j]? = some g ∧ C.Rp M H (.ref g) (.list q)) → C.RpA M H (gs'.map V.ref) (acc'.map D.list) := by
    intro gs'
    induction gs' with
    | nil =>
      intro acc' hl _
      cases acc' with
      | nil => exact .nil
      | cons _ _ => simp at hl
    | cons g gs' ih =>
      intro acc' hl h
      cases acc' with
      | nil => simp at hl
      | cons q acc' =>
        obtain ⟨g', e1, e2⟩ := h 0 q rfl
        cases e1
        refine .cons e2 (ih (by simpa using hl) fun j q' e => ?_)
        obtain ⟨g', e1, e2⟩ := h (j + 1) q' (by simpa using e)
        exact ⟨g', by simpa using e1, e2⟩
  have tp : C.Top M H a (.list (acc.map D.list)) := .lst B.ea (ra B.ln fun j q e => by
    obtain ⟨g, vs, h1, h2, h3⟩ := B.el j q e
    exact ⟨g, h1, .lst (B.fr g (List.mem_of_getElem? h1)).2.1 h2 (HC.RpA.step s2 h3)⟩)
  have out : ∀ (m : Nat) (x : Sl), (r.set i (.own (.list (acc.map D.list))))[m]? = some x → (m = i ∧ x = .own (.list (acc.map D.list))) ∨ (m ≠ i ∧ r[m]? = some x) := fun m x q => by
    by_cases hm : i = m
    · subst hm
      rw [List.getElem?_set_self'] at q
      cases z : r[i]? with
      | none => rw [z] at q; cases q
      | some w => rw [z] at q; cases q; exact .inl ⟨rfl, rfl⟩
    · rw [List.getElem?_set_ne hm] at q
      exact .inr ⟨Ne.symm hm, q⟩
  refine ⟨st, ⟨by rw [List.length_set]; exact B.S.len, fun m e q => ?_, fun m e q => ?_, fun m n e1 e2 b q1 q2 _ _ => ?_, fun m q => ?_, ⟨fun b o h1 h2 => ?_, tok_step (C := C) s2 (fun _ _ => rfl) B.S.base.tok⟩, S.m0, fun b m => B.S.dom b (.inl m), S.inm⟩⟩
  · rcases out m _ q with ⟨_, z⟩ | ⟨_, z⟩
    · cases z
    · obtain ⟨v, h1, h2⟩ := B.S.val m e z
      exact ⟨v, h1, HC.Rp.step s2 h2⟩
  · rcases out m _ q with ⟨hm, z⟩ | ⟨_, z⟩
    · cases z
      subst hm
      exact ⟨a, B.si, B.am.1, a0, a1, tp⟩
    · exact absurd z (B.no m e)
  · rcases out m _ q1 with ⟨hm, _⟩ | ⟨_, z⟩
    · rcases out n _ q2 with ⟨hn, _⟩ | ⟨_, z⟩
      · rw [hm, hn]
      · exact absurd z (B.no n e2)
    · exact absurd z (B.no m e1)
  · rcases out m _ q with ⟨_, z⟩ | ⟨_, z⟩
    · cases z; exact trivial
    · exact B.S.tk m z
  · exact kp b o (fun z => by rw [z, a0] at h2; cases h2) h1 (S.base.keep b o h1 h2)
variable {f al gn xn : Str} {tg iter cond test : Expr} {is : List Nat} {u : TPA} {g : GD} {tt : TB} {scope : Scope} {p1 p2 p3 p4 p5 p6 q1 q2 q3 q4 q5 q6 q7 q8 q9 q10 q11 q12 q13 q14 pos : Pos} {cc : Nat}
theorem ds_group (i j gi xi : Nat) (G : Good X C W k) (nob : C.NoOb) (hi : ∀ C', Good X C' W k → DI X C' W tg iter u) (hg : ∀ C', Good X C' W k → DG X C' tg is g)
    (ok : BlkOk X.N X.env.scope scope [(gn, gi)])
    (hgn : ∀ (s : Shared) (H : Hp) (Ca : Addr) (cl : List (Str × Addr)) (fp : List Addr), PG (X.blk s H scope (compEnvC scope cl Ca X.env) fp) (.Name gn p3) (gName gi))
    (hel : ∀ (s : Shared) (H : Hp) (Ca : Addr) (cl : List (Str × Addr)) (fp : List Addr), PE (X.blk s H scope (compEnvC scope cl Ca X.env) fp) (.Name gn p2) (tVar gi))
    (ht : ∀ (C' : Ct) (s : Shared) (H : Hp) (Ca : Addr) (cl : List (Str × Addr)) (fp : List Addr), Good (X.blk s H scope (compEnvC scope cl Ca X.env) fp) C' W0 k → DTs (X.blk s H scope (compEnvC scope cl Ca X.env) fp) C' W0 [cond] tt)
    (hq : ∀ C', Good X C' W k → DT X C' W test (bTest (wOp2 fEq (wPeek j) (wLst wNil))))
    (hsw : swapsWith (.ListComp (.Name gn p2) [⟨.Name gn p3, .Name f p4, [cond], 0⟩] scope p5) (some (.Name al p1)) p6.line X.env = pure true)
    (nis : i ∉ is) (ij : i ≠ j) (xj : xi ≠ j)
    (Ni : X.N[i]? = some f) (Nj : X.N[j]? = some al) (Nx : X.N[xi]? = some xn) (hyl : X.env.scope.names.lookup al = some .local)
    (Vi : Vis X.env.scope f) (Vj : Vis X.env.scope al) (Vx : Vis X.env.scope xn)
    (hdi : (f == ("__debug__" : Str)) = false := by decide) (hci : (f == ("__classdict__" : Str)) = false := by decide) (hdj : (al == ("__debug__" : Str)) = false := by decide) (hcj : (al == ("__classdict__" : Str)) = false := by decide) (hdx : (xn == ("__debug__" : Str)) = false := by decide) (hcx : (xn == ("__classdict__" : Str)) = false := by decide)
    (b1 : attributeBase (.Name f q1) "append" X.env (eval (.Name f q1) X.env) = eval (.Name f q1) X.env := by rfl)
    (f1 : ((backTo q5 (starEach [.List [.Name xn q3] q4] X.env)).all (fun x => !x.1) && (backToKw q5 (keywordEach [] X.env)).all (fun x => x.1.isSome) && decide (([.List [.Name xn q3] q4] : List Expr).length + ([] : List Keyword).length + (if ([] : List Keyword).isEmpty then 0 else 1) < 30)) = true := by rfl)
    (l1 : (q2.endLine == q5.line) = true := by rfl) (s1 : starEach [.List [.Name xn q3] q4] X.env = (false, eval (.List [.Name xn q3] q4) X.env) :: starEach [] X.env := by rfl) (s1' : starEach [.Name xn q3] X.env = (false, eval (.Name xn q3) X.env) :: starEach [] X.env := by rfl)
    (w1 : swapsWith (.Call (.Attribute (.Name f q1) "append" q2) [.List [.Name xn q3] q4] [] q5) none q6.line X.env = pure false := by rfl)
    (b2 : attributeBase (.Subscript (.Name al q7) (.Constant (.int 0) cc q8) q9) "append" X.env (eval (.Subscript (.Name al q7) (.Constant (.int 0) cc q8) q9) X.env) = eval (.Subscript (.Name al q7) (.Constant (.int 0) cc q8) q9) X.env := by rfl)
    (f2 : ((backTo q12 (starEach [.Name xn q11] X.env)).all (fun x => !x.1) && (backToKw q12 (keywordEach [] X.env)).all (fun x => x.1.isSome) && decide (([.Name xn q11] : List Expr).length + ([] : List Keyword).length + (if ([] : List Keyword).isEmpty then 0 else 1) < 30)) = true := by rfl)
    (l2 : (q10.endLine == q12.line) = true := by rfl) (s2 : starEach [.Name xn q11] X.env = (false, eval (.Name xn q11) X.env) :: starEach [] X.env := by rfl)
    (w2 : swapsWith (.Call (.Attribute (.Subscript (.Name al q7) (.Constant (.int 0) cc q8) q9) "append" q10) [.Name xn q11] [] q12) none q13.line X.env = pure false := by rfl)
    (hpx : PlainIx (.Constant (.int 0) cc q8) := by intro _ _; rfl) (hfs : ∀ x, foldedSetIterable iter X.env x = pure x := by intro _; rfl) :
    DS X C W (.For tg iter [.Assign [.Name al p1] (.ListComp (.Name gn p2) [⟨.Name gn p3, .Name f p4, [cond], 0⟩] scope p5) p6,
      .If test [.Expr (.Call (.Attribute (.Name f q1) "append" q2) [.List [.Name xn q3] q4] [] q5) q6] [.Expr (.Call (.Attribute (.Subscript (.Name al q7) (.Constant (.int 0) cc q8) q9) "append" q10) [.Name xn q11] [] q12) q13] q14] [] pos) (sGroup i j gi xi u g tt) := by
  have mi := (hi C G).mo
  have mt : MonoB tt := (ht C X.s_0 (fun _ => none) 0 [] [] (G.blk _ _ _ _ _)).mo
  have mq : MonoB (bTest (wOp2 fEq (wPeek j) (wLst wNil))) := (hq C G).mo
  have ptF : ∀ (s : Shared) (H : Hp) (Ca : Addr) (cl : List (Str × Addr)) (fp : List Addr), PTs (X.blk s H scope (compEnvC scope cl Ca X.env) fp) [cond] (fun σ H Q => ∃ C', Fit X C' ∧ lB C' W0 tt σ H Q) := fun s H Ca cl fp => ⟨fun pins s' σ H' Q I ⟨C', g', q⟩ => (ht C' s H Ca cl fp ((G.blk s H Ca cl fp).at ⟨g'.k, g'.p, g'.w⟩)).pt.run pins s' σ H' Q I q⟩
  refine ⟨(ps_for G.own G.calm (pi_any hi) (pg_any hg) (pss_cons (ps_setLc G.calm G.nd Nj hyl hsw (pi_list (pe_var (i := i) Ni Vi hdi hci)) ok hgn ptF hel)
    (pss_one (ps_if (pt_any hq) (pss_one (ps_expr (pe_bm PySem.F.plainAttrs_list PySem.F.slot_list_append PySem.F.type_list_append mt_append (pe_var (i := i) Ni Vi hdi hci) (pa_cons (pe_lst (pa_cons (pe_var (i := xi) Nx Vx hdx hcx) pa_nil s1')) pa_nil s1) b1 f1 l1 s1 rfl) w1))
      (pss_one (ps_expr (pe_bm PySem.F.plainAttrs_list PySem.F.slot_list_append PySem.F.type_list_append mt_append (pe_ix ix_list (pe_var (i := j) Nj Vj hdj hcj) pe_int hpx) (pa_cons (pe_var (i := xi) Nx Vx hdx hcx) pa_nil s2) b2 f2 l2 s2 rfl) w2))))) hfs).imp fun De σ H ⟨M, r, e, S, fi, q⟩ => ?_, ⟨fun {e e' r} h ⟨a, b, q⟩ => ⟨a, b, mi.imp (fun ds z => mono_grp mt (fun r z => h.nx _ z) ds [] _ z) (fun _ z => z) q⟩⟩⟩
  obtain ⟨es, no0, q⟩ := q
  have hr := slot_get es (by simp)
  obtain ⟨a, ea0, am, a0, a1, tp⟩ := S.own i _ hr
  have na : ¬ C.inT a := fun t => a1 (S.inm a t)
  have it : ∀ b, C.inT b → M b := fun b t => S.tm t
  cases tp with
  | lst ea pa =>
  cases pa
  have S0 : Sim (C.here (fun b => M b ∨ b ∈ []) H) (fun b => M b ∨ b ∈ []) ((r.set i .un).set j .un) σ H := Sim.here ((S.forget i).forget j) no0 (Stp.less fun b z => z.elim id (by simp)) (tok_step (C := C) (Stp.less fun b z => z.elim id (by simp)) (fun _ _ => rfl) S.base.tok) (fun b m => S.dom b (m.elim id (by simp))) (fun b t => .inl (S.tm t))
  have B0 : GI C M i a [] H [] ((r.set i .un).set j .un) σ H := ⟨S0, no0, ea0, ea, rfl, fun j q e => (by simp at e), by simp, fun b hb => (by cases hb), ⟨am, na, by simp⟩, fun _ _ _ _ _ h => h⟩
  refine ⟨_, G.at (G.fit.here (fun b => M b ∨ b ∈ []) H), _, _, E0', S0, fun _ _ _ _ z => z.elim, mi.imp (fun ds z J H3 k3 S3 Y => ?_) (fun _ z => z) q⟩
  have B3' := B0.grow k3 S3.base.tok
  have B3 : GI C M i a [] H3 [] ((r.set i .un).set j .un) σ H3 := { B3' with fr := fun b hb => (by cases hb), kp := fun _ _ _ _ _ h => h }
  have st3 : ∀ {gs : List Addr} {acc : List (List D)} {r' : Env} {σ' : L2.St} {H' : Hp}, GI C M i a gs H3 acc r' σ' H' → Stp (fun b => M b ∨ b ∈ []) H3 (fun b => M b ∨ b ∈ gs) H' := fun {gs acc r' σ' H'} B b o eb mb => by
    have nM : ¬ M b := fun m => mb (.inl m)
    have ng : b ∉ gs := fun hgb => by have := (B.fr b hgb).1; rw [eb] at this; cases this
    exact ⟨B.kp b o (fun z => nM (z ▸ am)) ng (fun t => nM (it b t)) eb, fun z => z.elim nM ng⟩
  have nil3 : ∀ {gs : List Addr} {acc : List (List D)} {r' : Env} {σ' : L2.St} {H' : Hp}, GI C M i a gs H3 acc r' σ' H' → ∀ {b : Addr}, H' b = none → H3 b = none := fun {gs acc r' σ' H'} B {b} hb => by
    cases z : H3 b with
    | none => rfl
    | some o =>
      have nb : b ≠ a := fun z => by rw [z, B.ea] at hb; cases hb
      have ng : b ∉ gs := fun hgb => B.S.dom b (.inr hgb) hb
      have nt : ¬ C.inT b := fun t => B.S.dom b (.inl (it b t)) hb
      rw [B.kp b o nb ng nt z] at hb
      cases hb
  refine ⟨fun n m σ' H' => m = ds.length - n ∧ n ≤ ds.length ∧ ∃ gs acc r', GI C M i a gs H3 acc r' σ' H' ∧ grpL i j gi xi g tt e.nx (ds.drop n) acc r', ⟨ds.length, by simp, Nat.zero_le _, [], [], _, B3, z⟩, ?_⟩
  rintro n m σ' H' ⟨rfl, hle, gs, acc, r', B, z'⟩
  by_cases hlt : n < ds.length
  · refine .inr ⟨Y.go n _ H' (st3 B) hlt, fun σ2 H2 => ∃ gs acc r', GI C M i a gs H3 acc r' σ2 H2 ∧ grpL i j gi xi g tt e.nx (ds.drop (n + 1)) acc r', fun σ2 H2 ⟨gs, acc, r2, t2, z2⟩ => ⟨ds.length - (n + 1), by omega, rfl, hlt, gs, acc, r2, t2, z2⟩, fun x Hx y => ?_⟩
    obtain ⟨d, hd, sm, p⟩ := Y.yld n _ H' x Hx (st3 B) B.S.dom hlt y
    rw [loop_drop hd] at z'
    obtain ⟨r1, e1, ⟨ej, jl, gl⟩, no1, xd, ex, la, lq, zb⟩ := z'
    have Bx := B.grow (Same.ex sm) (B.S.same sm).base.tok
    refine ⟨_, G.at (G.fit.here (fun b => M b ∨ b ∈ gs) Hx), _, _, d, r1, Bx.S, p, e1, fun σ2 S2 hw => ?_⟩
    have si2 : σ2[i]? = some (some (.ref a)) := by
      have := hw is fun _ h => h
      rw [← wipe_out (σ := σ2) nis, this, wipe_out nis]
      exact Bx.si
    have Bs : GI C M i a gs H3 acc r1 σ2 Hx := { Bx with S := S2, no := no1, si := si2 }
    refine ⟨.ref a, Bs.si, a, rfl, ⟨_, SqL.of Bs.ea⟩, fun Dn hDn => ?_⟩
    have nh := nil3 Bs hDn
    have nMD : ¬ M Dn := fun m => Bs.S.dom Dn (.inl m) hDn
    obtain ⟨BD, ntD, naD, ngD⟩ := Bs.new (o := .lst []) hDn nh
    have itD : ∀ b, C.inT b → (M b ∨ b = Dn) := fun b t => .inl (it b t)
    refine ⟨fun n' m' Hc => m' = gs.length - n' ∧ n' ≤ gs.length ∧ ∃ bs, bs.length = n' ∧ GI C (fun b => M b ∨ b = Dn) i a gs H3 acc r1 σ2 Hc ∧ Hc Dn = some (.lst (selR (gs.take n') bs)) ∧ bolW tt gi (wipeD r1 [gi]) ((acc.map D.list).drop n') (fun rest => grpL i j gi xi g tt e.nx (ds.drop (n + 1)) (joinG acc (bs ++ rest) xd) r1), ⟨gs.length, by simp, Nat.zero_le _, [], rfl, BD, by rw [upd_same]; rfl, zb⟩, ?_⟩
    rintro n' m' Hc ⟨rfl, hle', bs, hbs, Bc, eD, zc⟩
    by_cases hl' : n' < gs.length
    · have eg : gs[n']? = some gs[n'] := List.getElem?_eq_getElem hl'
      generalize gs[n'] = gg at eg
      have la' : n' < acc.length := by rw [← Bc.ln]; exact hl'
      have eq' : acc[n']? = some acc[n'] := List.getElem?_eq_getElem la'
      generalize acc[n'] = qq at eq'
      refine .inr ⟨⟨_, .ref gg, SqL.of Bc.ea, by rw [List.getElem?_map, eg]; rfl⟩, fun Hn => n' + 1 ≤ gs.length ∧ ∃ bs, bs.length = n' + 1 ∧ GI C (fun b => M b ∨ b = Dn) i a gs H3 acc r1 σ2 Hn ∧ Hn Dn = some (.lst (selR (gs.take (n' + 1)) bs)) ∧ bolW tt gi (wipeD r1 [gi]) ((acc.map D.list).drop (n' + 1)) (fun rest => grpL i j gi xi g tt e.nx (ds.drop (n + 1)) (joinG acc (bs ++ rest) xd) r1), fun Hn hn => ⟨gs.length - (n' + 1), by omega, rfl, hn⟩, fun xx Hy ⟨eh, hx⟩ => ?_⟩
      subst eh
      have exx := hx _ (SqL.of Bc.ea)
      rw [List.getElem?_map, eg] at exx
      cases exx
      refine ⟨by simp [L2.wipe], ?_⟩
      have ed : (acc.map D.list).drop n' = D.list qq :: (acc.map D.list).drop (n' + 1) := loop_drop (by rw [List.getElem?_map, eq']; rfl)
      rw [ed] at zc
      obtain ⟨Sf, Rf⟩ := Bc.frozen itD
      obtain ⟨g', eg', rp⟩ := Rf n' qq eq'
      rw [eg] at eg'
      cases eg'
      refine ⟨_, G.fit.here _ _, _, _, E0', (Sf.wipe [gi]).set (i := gi) rp, fun _ _ _ _ z => z.elim, mt.imp (fun b z4 H4 k4 S4 => ?_) (fun _ z => z) zc⟩
      have B4 := Bc.grow k4 (tok_any (C := C) nob S4.base.tok)
      have eD4 : H4 Dn = some (.lst (selR (gs.take n') bs)) := k4 Dn _ ntD eD
      have tk : gs.take (n' + 1) = gs.take n' ++ [gg] := by rw [List.take_succ, eg]; rfl
      have ltk : (gs.take n').length = bs.length := by rw [List.length_take, hbs]; omega
      have zz : bolW tt gi (wipeD r1 [gi]) ((acc.map D.list).drop (n' + 1)) (fun rest => grpL i j gi xi g tt e.nx (ds.drop (n + 1)) (joinG acc ((bs ++ [b]) ++ rest) xd) r1) := mono_bol mt _ (fun rest z => by rw [List.append_assoc]; exact z) z4
      cases b with
      | true =>
        have sg : ((L2.wipe σ2 [gi]).set gi (some (V.ref gg)))[gi]? = some (some (.ref gg)) := by
          have ll : gi < (L2.wipe σ2 [gi]).length := by
            rw [wipe_length]
            have := S2.len
            omega
          rw [List.getElem?_set_self ll]
        refine ⟨.ref gg, sg, _, eD4, ?_, hl', bs ++ [true], by rw [List.length_append, hbs]; rfl, B4.put (.inr rfl) naD ntD nh, by rw [upd_same, tk, selR_snoc ltk]; rfl, zz⟩
        have := selR_len (gs.take n') bs
        exact small1000 (by have := Bc.ln; omega)
      | false => exact ⟨hl', bs ++ [false], by rw [List.length_append, hbs]; rfl, B4, by rw [eD4, tk, selR_snoc ltk]; simp, zz⟩
    · refine .inl ⟨⟨_, SqL.of Bc.ea, by rw [List.length_map]; omega⟩, ?_⟩
      have en : n' = gs.length := by omega
      subst en
      have ea' : (acc.map D.list).drop gs.length = [] := List.drop_eq_nil_of_le (by rw [List.length_map, Bc.ln]; exact Nat.le_refl _)
      rw [ea'] at zc
      have zf : grpL i j gi xi g tt e.nx (ds.drop (n + 1)) (joinG acc (bs ++ []) xd) r1 := zc
      rw [List.append_nil] at zf
      rw [List.take_length] at eD
      have lab : acc.length = bs.length := by rw [hbs, Bc.ln]
      have BL := Bc.less am it
      have Bj : GI C M i a gs H3 acc r1 (σ2.set j (some (.ref Dn))) Hc := { BL with S := BL.S.skip ej _, si := by rw [List.getElem?_set_ne (Ne.symm ij)]; exact BL.si }
      obtain ⟨Sf, Rf⟩ := BL.frozen it
      have rD : C.Rp (fun b => M b ∧ b ≠ a) Hc (.ref Dn) (.list ((selD acc bs).map D.list)) := .lst (fun z => nMD z.1) eD (selR_rp BL.ln Rf)
      refine ⟨_, G.at (G.fit.here _ Hc), _, r1.set j (.val (.list ((selD acc bs).map D.list))), E0', Sf.set (i := j) rD, fun _ _ _ _ z => z.elim, eq_empty (slot_set_self jl) (fun q hq => (lq q (selD_mem hq)).2) fun H5 k5 S5 => ?_⟩
      have B5 := Bj.grow k5 (tok_any (C := C) nob S5.base.tok)
      have eD5 : H5 Dn = some (.lst (selR gs bs)) := k5 Dn _ ntD eD
      obtain ⟨xv, hxv, rxv⟩ := B5.S.val xi xd (slot_get ex (by simp))
      cases hz : selD acc bs with
      | nil =>
        refine ite_t (b := ([] : List (List D)).isEmpty) rfl ?_
        rw [sel_none lab hz] at zf
        refine ⟨.ref a, B5.si, .inl ⟨rfl, _, SqL.of B5.ea⟩, xv, hxv, by simp [sizeLine_eq], fun p hp => ?_⟩
        have pa : a ≠ p := fun z => by rw [← z, B5.ea] at hp; cases hp
        refine ⟨a, gs.map V.ref, .ref p, rfl, rfl, by rw [upd_ne pa]; exact B5.ea, ?_, _, _, _, B5.add hp (nil3 B5 hp) rxv, zf⟩
        exact small1000 (by rw [List.length_map, B5.ln]; omega)
      | cons q0 ql =>
        refine ite_f (b := (q0 :: ql).isEmpty) rfl ?_
        obtain ⟨jj, g0, qq, e1', e2', e3', e4'⟩ := sel_some (x := xd) BL.ln lab (by rw [hz]; simp)
        rw [e4'] at zf
        obtain ⟨g1, vs, h1, h2, h3, h4⟩ := B5.join e1' rxv
        rw [e2'] at h1
        cases h1
        have lj : j < σ2.length := by
          have := S2.len
          omega
        refine ⟨.ref Dn, by rw [List.getElem?_set_self lj], Dn, selR gs bs, 0, .ref g0, rfl, rfl, SqL.of eD5, atI_of (k := 0) e3', .inl ⟨rfl, _, SqL.of h2⟩, xv, hxv, g0, vs, xv, rfl, rfl, h2, ?_, _, _, _, h4, zf⟩
        exact small1000 (by rw [h3]; have := (lq qq (List.mem_of_getElem? e1')).1; omega)
  · have ei : n = ds.length := by omega
    subst ei
    rw [List.drop_length] at z'
    obtain ⟨sf, Sf⟩ := B.done S a0 a1 fun b o h1 h2 => k3 b o h1 h2
    exact .inl ⟨Y.stop _ _ H' (st3 B) (Nat.le_refl _), fi.nx M _ σ' H' sf Sf z'⟩
end
end HC
namespace HC
open PySem PySem.Spec PyProof.Rows L2
structure EyC where
  C : Addr
  J1 : D → D → D → Prop
  J2 : D → D → D → Prop
def eyF (vr vg vs : V) (p q : Addr) : List (Str × V) := [("room", vr), ("regulator", vg), ("sight", vs), ("steps", .ref p), ("sets", .ref q)]
def eyL (rd gd sd : D) (d1 d2 : List D) : D := .tuple [rd, gd, sd, .list d1, .list d2]
structure EyK (K : PySem.W.Frag) (c : EyC) : Prop where
  cl : Cls K c.C
  n1 : NoAttr K c.C "room"
  n2 : NoAttr K c.C "regulator"
  n3 : NoAttr K c.C "sight"
  n4 : NoAttr K c.C "steps"
  n5 : NoAttr K c.C "sets"
structure EyP where
  e : Addr
  dx : Addr
  p : Addr
  q : Addr
  rd : D
  gd : D
  sd : D
  d1 : List D
  d2 : List D
def EyP.lb (y : EyP) : D := eyL y.rd y.gd y.sd y.d1 y.d2
structure EyeOk (K : PySem.W.Frag) (P : Program) (w : World) (c : EyC) (y : EyP) (M : Addr → Prop) (H : Hp) : Prop where
  ne : ¬ M y.e
  pq : y.p ≠ y.q
  ex : ∃ vr vg vs, H y.e = some (.ins c.C y.dx (eyF vr vg vs y.p y.q)) ∧ Rp K P w M H vr y.rd ∧ Rp K P w M H vg y.gd ∧ Rp K P w M H vs y.sd
  s1 : ∃ kvs, Top K P w M H y.p (.tdict kvs) ∧ ∀ k d, (k, d) ∈ kvs → keyD k ∈ y.d1 ∧ c.J1 y.lb (keyD k) d
  s2 : ∃ kvs, Top K P w M H y.q (.tdict kvs) ∧ ∀ k d, (k, d) ∈ kvs → keyD k ∈ y.d2 ∧ c.J2 y.lb (keyD k) d
theorem EyeOk.step {K : PySem.W.Frag} {P : Program} {w : World} {c : EyC} {y : EyP} {M M' : Addr → Prop} {H H' : Hp} (st : Stp M H M' H') (e : ∀ a, (a = y.p ∨ a = y.q) → H' a = H a) (h : EyeOk K P w c y M H) : EyeOk K P w c y M' H' := by
  obtain ⟨vr, vg, vs, e1, r1, r2, r3⟩ := h.ex
  obtain ⟨k1, t1, j1⟩ := h.s1
  obtain ⟨k2, t2, j2⟩ := h.s2
  exact ⟨(st _ _ e1 h.ne).2, h.pq, ⟨vr, vg, vs, (st _ _ e1 h.ne).1, r1.step st, r2.step st, r3.step st⟩, ⟨k1, t1.step st fun o z => by rw [e _ (.inl rfl)]; exact z, j1⟩, ⟨k2, t2.step st fun o z => by rw [e _ (.inr rfl)]; exact z, j2⟩⟩
theorem Top.some {K : PySem.W.Frag} {P : Program} {w : World} {M : Addr → Prop} {H : Hp} {a : Addr} {d : D} (h : Top K P w M H a d) : H a ≠ none := h.some'
def EyeO (K : PySem.W.Frag) (P : Program) (w : World) (c : EyC) (y : EyP) : Obj0 where
  is a d := a = y.e ∧ d = y.lb
  reg a := a = y.p ∨ a = y.q
  ok := EyeOk K P w c y
  st := fun st e h => h.step st e
  dm := fun h r => by
    obtain ⟨_, t1, _⟩ := h.s1
    obtain ⟨_, t2, _⟩ := h.s2
    rcases r with rfl | rfl
    · exact t1.some
    · exact t2.some
structure Prt (o1 o : Obj0) : Prop where
  rg : ∀ a, o1.reg a → o.reg a
  fw : ∀ {M : Addr → Prop} {H : Hp}, o.ok M H → o1.ok M H
  bk : ∀ {M : Addr → Prop} {H H' : Hp}, (∀ a, o.reg a → M a) → (∀ a x, ¬ o1.reg a → H a = some x → H' a = some x) → o.ok M H → o1.ok M H' → o.ok M H'
theorem Prt.refl {o : Obj0} : Prt o o := ⟨fun _ h => h, fun h => h, fun _ _ _ h => h⟩
def Eyes (K : PySem.W.Frag) (P : Program) (w : World) (c : EyC) (o : Obj0) : Prop := ∀ e d, o.is e d → ∃ y : EyP, y.e = e ∧ y.lb = d ∧ Prt (EyeO K P w c y) o
theorem eyes_one {K : PySem.W.Frag} {P : Program} {w : World} {c : EyC} {y : EyP} : Eyes K P w c (EyeO K P w c y) := fun e d ⟨h1, h2⟩ => ⟨y, h1.symm, h2.symm, Prt.refl⟩
def Ct.Eyes (C : Ct) (c : EyC) : Prop := ∀ o, C.T = some (.ob o) → HC.Eyes C.K C.P C.w c o
def lSpO (K : PySem.W.Frag) (P : Program) (w : World) (c : EyC) (sp : SpD) : Sp := fun vs H Q _ => ∃ M y us ds, vs = .ref y.e :: us ∧ Dom M H ∧ M y.p ∧ M y.q ∧ EyeOk K P w c y M H ∧ RpA K P w M H us ds ∧
  sp (y.lb :: ds) (fun d => ∀ v H', (∀ a o, ¬ (a = y.p ∨ a = y.q) → H a = some o → H' a = some o) → EyeOk K P w c y M H' → Rp K P w M H' v d → Q v H') fun _ => False
structure FnM (P : Program) (w : World) (K : PySem.W.Frag) (mg : Str → Option Value) (base : Heap) (k : Nat) (c : EyC) (m : Str) (n : Nat) (sp : SpD) : Prop where
  ex : ∃ (f : Addr) (fd : FuncData) (ps : List Str), FnOk P w K mg base (L2.CX P w) k f fd ps (lSpO K P w c sp) ∧ Meth K c.C m f ∧ Binds K fd ps []
  mo : MonoSp (n + 1) sp
  nm : ∀ vr vg vs p q, (eyF vr vg vs p q).lookup m = none
structure FnO (P : Program) (w : World) (K : PySem.W.Frag) (mg : Str → Option Value) (base : Heap) (k : Nat) (c : EyC) (x : Str) (n : Nat) (sp : SpD) : Prop where
  ex : ∃ (f : Addr) (fd : FuncData) (ps : List Str), FnOk P w K mg base (L2.CX P w) k f fd ps (lSpO K P w c sp) ∧ mg x = some (.ref f) ∧ PySem.W.keepIn K (.ref f) = true ∧ Binds K fd ps []
  mo : MonoSp (n + 1) sp
theorem passes_no {X : Cx} : Passes (L2.CX X.prog X.w) X E0 := fun _ _ _ _ _ _ _ c => by
  obtain ⟨_, _, _, _, _, _, _, _, _, _, _, _, z⟩ := c
  exact z.elim
def wMethO (i : Nat) (sp : SpD) (u : TPA) : TP := fun r Q E => match slot r i with
  | .obj d => u r (fun ds => sp (d :: ds) Q fun _ => False) E
  | _ => False
def wFldO (i j : Nat) : TP := fun r Q _ => match slot r i with
  | .obj (.tuple ds) => match ds[j]? with
    | some d => Q d
    | none => False
  | _ => False
section
variable {X : Cx} {C : Ct} {W : XW} {e : Expr} {es : List Expr} {t : TP} {u : TPA} {pos p apos py : Pos} {k j n : Nat} {m y : Str} {sp : SpD} {c : EyC}
theorem mono_methO {i l : Nat} (hu : MonoA l u) (hs : MonoSp n sp) : Mono (wMethO i sp u) := ⟨fun hq he q => by
  unfold wMethO at q ⊢
  split at q
  · exact hu.imp (fun ds _ z => hs.imp hq (fun _ z => z) z) he q
  · exact q.elim⟩
theorem Sim.obj {M : Addr → Prop} {r : Env} {σ : L2.St} {H : Hp} (S : Sim C M r σ H) (ey : C.Eyes c) {i : Nat} {d : D} (h : slot r i = .obj d) : ∃ o y, C.T = some (.ob o) ∧ σ[i]? = some (some (.ref y.e)) ∧ y.lb = d ∧ Prt (EyeO C.K C.P C.w c y) o ∧ EyeOk C.K C.P C.w c y M H ∧ M y.p ∧ M y.q ∧ (∀ a, o.reg a → M a) := by
  obtain ⟨o, e, hT, es, hi⟩ := S.tk i (slot_get h (by simp))
  obtain ⟨y, ye, yl, pt⟩ := ey o hT e d hi
  have tk := S.base.tok
  unfold Ct.tok at tk
  rw [hT] at tk
  have rm : ∀ a, o.reg a → M a := fun a ra => S.tm (by unfold Ct.inT; rw [hT]; exact ra)
  exact ⟨o, y, hT, by rw [ye]; exact es, yl, pt, pt.fw tk, rm _ (pt.rg _ (.inl rfl)), rm _ (pt.rg _ (.inr rfl)), rm⟩
theorem Sim.turned {M : Addr → Prop} {r : Env} {σ : L2.St} {H H' : Hp} (S : Sim C M r σ H) {o : Obj0} {y : EyP} (hT : C.T = some (.ob o)) (pt : Prt (EyeO C.K C.P C.w c y) o) (kp : ∀ a x, ¬ (a = y.p ∨ a = y.q) → H a = some x → H' a = some x) (ok : EyeOk C.K C.P C.w c y M H') : C.Ex H H' ∧ Sim C M r σ H' := by
  have inT : ∀ a, C.inT a ↔ o.reg a := fun a => by unfold Ct.inT; rw [hT]
  have ex : C.Ex H H' := fun a x na h => kp a x (fun z => na ((inT a).mpr (pt.rg a z))) h
  refine ⟨ex, S.grow ex ?_⟩
  have tk := S.base.tok
  unfold Ct.tok at tk ⊢
  rw [hT] at tk ⊢
  exact pt.bk (fun a ra => S.tm ((inT a).mpr ra)) kp tk ok
theorem dv_methO (i : Nat) (G : Good X C W k) (ey : C.Eyes c) (ek : EyK X.K c) (F : FnM X.prog X.w X.K X.mg X.base j c m n sp) (ha : DAv X C W (e :: es) u) (hj : j ≤ k := by decide) (hN : X.N[i]? = some y := by rfl)
    (hv : Vis X.env.scope y := by first | exact Or.inl rfl | exact Or.inr (Or.inl rfl) | exact Or.inr (Or.inr rfl))
    (hst : starEach (e :: es) X.env = (false, eval e X.env) :: starEach es X.env := by rfl) (hpl : (backTo pos (starEach es X.env)).any (·.1) = false := by rfl)
    {pl : Sem Bool} (ht : eval (.Call (.Attribute (.Name y py) m apos) (e :: es) [] pos) X.env = (do
      let ov ← eval (.Name y py) X.env
      standAt apos.atName
      let (f, first) ← holding [ov] (getMethod ov m pl)
      callWith pos f first (backTo pos (starEach (e :: es) X.env)) (backToKw pos (keywordEach [] X.env))) := by rfl)
    (hd : (y == ("__debug__" : Str)) = false := by decide) (hcd : (y == ("__classdict__" : Str)) = false := by decide) : DV X C W (.Call (.Attribute (.Name y py) m apos) (e :: es) [] pos) (wMethO i sp u) := by
  refine ⟨?_, mono_methO ha.mo F.mo⟩
  obtain ⟨f, fd, ps, hF, hM, hb⟩ := F.ex
  refine (pe_meth (E := E0) (pl := pl) (pe_var (i := i) hN hv hd hcd) ek.cl hM hF (G.room.mono hj) hb .nil passes_no ha.pa hst hpl ht).imp fun σ H Q ⟨M, r, E, S, hW, q⟩ => ?_
  unfold wMethO at q
  split at q
  · rename_i d et
    have FF := G.fit
    obtain ⟨K0, P0, w0, T0, M0, H0⟩ := C
    obtain ⟨z1, z2, z3⟩ := FF
    cases z1; cases z2; cases z3
    obtain ⟨o, yy, hT, eg, el, pt, ok, mp, mq, rm⟩ := S.obj ey et
    obtain ⟨vr, vg, vs, e1, _⟩ := ok.ex
    refine ⟨_, eg, yy.e, yy.dx, _, rfl, e1, F.nm _ _ _ _ _, M, r, E, S, hW, ha.mo.imp (fun ds _ z us H1 k1 S1 p1 => ?_) (fun _ z => z) q⟩
    obtain ⟨o', yy', hT', eg', el', pt', ok', mp', mq', rm'⟩ := S1.obj ey et
    have ee : yy'.e = yy.e := by
      have h := eg.symm.trans eg'
      injection h with h
      injection h with h
      injection h with h
      exact h.symm
    rw [List.append_nil, ← ee]
    subst el'
    refine ⟨M, yy', us, ds, rfl, S1.dom, mp', mq', ok', p1, F.mo.imp (fun d zz v H2 kp ok2 p2 => ?_) (fun _ z => z) z⟩
    obtain ⟨ex2, S2⟩ := S1.turned hT' pt' kp ok2
    exact zz v H2 (k1.trans ex2) S2 p2
  · exact q.elim
theorem dv_fldO (i l : Nat) {f : Str} (ey : C.Eyes c) (ek : EyK X.K c) (G : Good X C W k) (hl : (f = "room" ∧ l = 0) ∨ (f = "regulator" ∧ l = 1) ∨ (f = "sight" ∧ l = 2)) (hN : X.N[i]? = some y := by rfl)
    (hv : Vis X.env.scope y := by first | exact Or.inl rfl | exact Or.inr (Or.inl rfl) | exact Or.inr (Or.inr rfl)) (hb : attributeBase (.Name y py) f X.env (eval (.Name y py) X.env) = eval (.Name y py) X.env := by rfl)
    (hd : (y == ("__debug__" : Str)) = false := by decide) (hcd : (y == ("__classdict__" : Str)) = false := by decide) : DV X C W (.Attribute (.Name y py) f pos) (wFldO i l) := by
  refine ⟨(pe_fld (pe_var (i := i) hN hv hd hcd) hb).imp fun σ H Q ⟨M, r, E, S, hW, q⟩ => ?_, ⟨fun hq he q => ?_⟩⟩
  · unfold wFldO at q
    split at q
    · rename_i ds et
      have FF := G.fit
      obtain ⟨K0, P0, w0, T0, M0, H0⟩ := C
      obtain ⟨z1, z2, z3⟩ := FF
      cases z1; cases z2; cases z3
      obtain ⟨o, yy, hT, eg, el, pt, ok, mp, mq, rm⟩ := S.obj ey et
      obtain ⟨vr, vg, vs, e1, r1, r2, r3⟩ := ok.ex
      injection el with el
      subst el
      rcases hl with ⟨rfl, rfl⟩ | ⟨rfl, rfl⟩ | ⟨rfl, rfl⟩
      · exact ⟨_, eg, yy.e, c.C, yy.dx, _, vr, rfl, e1, ek.cl, ek.n1, rfl, q vr H Ct.Ex.refl S r1⟩
      · exact ⟨_, eg, yy.e, c.C, yy.dx, _, vg, rfl, e1, ek.cl, ek.n2, rfl, q vg H Ct.Ex.refl S r2⟩
      · exact ⟨_, eg, yy.e, c.C, yy.dx, _, vs, rfl, e1, ek.cl, ek.n3, rfl, q vs H Ct.Ex.refl S r3⟩
    · exact q.elim
  · unfold wFldO at q ⊢
    split at q
    · split at q
      · exact hq _ q
      · exact q
    · exact q
end
def startO (lb : D) (n : Nat) (ds : List D) : Env := Sl.obj lb :: startD (n - 1) ds
section
variable {P : Program} {w : World} {K : PySem.W.Frag} {mg : Str → Option Value} {base : Heap}
theorem startO_sim {C : Ct} {M : Addr → Prop} {H : Hp} {N : List Str} {o : Obj0} {g : Addr} {lb : D} {vs : List V} {ds : List D} (hT : C.T = some (.ob o)) (hi' : o.is g lb) (hN : N.length = N.length - 1 + 1) (p : C.RpA M H vs ds) (hb : Base C M H) (hm : ∀ a, C.M0 a → M a) (hd : Dom M H) (hi : ∀ a, C.inT a → C.M0 a) : Sim C M (startO lb N.length ds) (L2.start N (.ref g :: vs)) H := by
  have S0 : Sim C M (startD (N.tail).length ds) (L2.start N.tail vs) H := start_sim p hb hm hd hi
  have e1 : N.tail.length = N.length - 1 := List.length_tail
  have e2 : L2.start N (.ref g :: vs) = some (.ref g) :: L2.start N.tail vs := by
    unfold L2.start
    rw [e1, List.map_cons, List.cons_append, List.length_cons]
    have : N.length - (vs.length + 1) = N.length - 1 - vs.length := by omega
    rw [this]
  rw [e1] at S0
  unfold startO
  rw [e2]
  refine ⟨by rw [List.length_cons, List.length_cons, S0.len], fun i d h => ?_, fun i d h => ?_, fun i j x y c h1 h2 h3 h4 => ?_, fun i h => ?_, hb, hm, hd, hi⟩
  · cases i with
    | zero => simp at h
    | succ i => simpa using S0.val i d (by simpa using h)
  · cases i with
    | zero => simp at h
    | succ i => simpa using S0.own i d (by simpa using h)
  · cases i with
    | zero => simp at h1
    | succ i =>
      cases j with
      | zero => simp at h2
      | succ j => rw [S0.sep i j x y c (by simpa using h1) (by simpa using h2) (by simpa using h3) (by simpa using h4)]
  · cases i with
    | zero =>
      have h' : some (Sl.obj lb) = some _ := h
      cases h'
      exact ⟨o, g, hT, rfl, hi'⟩
    | succ i => simpa using S0.tk i (by simpa using h)
theorem ok_O {c : EyC} {x qual : Str} {st : Stmt} {f : Addr} {fd : FuncData} {N ps : List Str} {k n : Nat} {sp : SpD} {t : TSD} (F : Fun K x qual st f fd) (S : FnScope N ps (defScope st)) (mo : MonoSp (n + 1) sp) (hn : ps.length = n + 1) (hN : N.length = N.length - 1 + 1)
    (hb : ∀ (cdv : Value) (A : Around) (outer : List PySem.Env) (s : Shared) (H : Hp) (E : XK) (C : Ct) (W : XW), Good (cxOf (L2.CX P w) P w K mg base N qual (defScope st) f cdv A outer s H E) C W k →
      Takes (cxOf (L2.CX P w) P w K mg base N qual (defScope st) f cdv A outer s H E) (fun cls d σ H => W σ cls d H) → C.Eyes c → DSs (cxOf (L2.CX P w) P w K mg base N qual (defScope st) f cdv A outer s H E) C W (defBody st) t)
    (hs : ∀ lb ds Q, sp (lb :: ds) Q (fun _ => False) → t (endD Q fun _ => False) (startO lb N.length ds)) : FnOk P w K mg base (L2.CX P w) (k + 1) f fd ps (lSpO K P w c sp) := by
  refine F.okX S (fun vs H Q E h => ?_) (fun cdv A outer s H vs Q E hr h => ?_)
  · obtain ⟨M, y, us, ds, rfl, _, _, _, _, p, q⟩ := h
    have := mo.len q
    rw [List.length_cons] at this ⊢
    rw [HC.RpA.length p, this, hn]
  · obtain ⟨M, y, us, ds, rfl, dm, mp, mq, tok, p, q⟩ := h
    have tk : Takes (cxOf (L2.CX P w) P w K mg base N qual (defScope st) f cdv A outer s H E) (fun cls d _ H => E cls d H) := takes_of rfl rfl rfl rfl
    refine ⟨_, (hb cdv A outer s H E ⟨K, P, w, some (.ob (EyeO K P w c y)), M, H⟩ (fun _ cls d H => E cls d H) ⟨⟨rfl, rfl, rfl⟩, rfl, hr, fun σ => passAt tk σ, passes_of rfl, S.nd⟩ tk (fun o z => by cases z; exact eyes_one)).ps, M, startO y.lb N.length ds, endD _ _, ?_, ?_, hs y.lb ds _ q⟩
    · exact startO_sim (o := EyeO K P w c y) rfl ⟨rfl, rfl⟩ hN p ⟨Ct.Ex.refl, tok⟩ (fun _ h => h) dm (fun a h => h.elim (fun e => e ▸ mp) fun e => e ▸ mq)
    · have kp : ∀ {H' : Hp} {M' : Addr → Prop}, Base ⟨K, P, w, some (.ob (EyeO K P w c y)), M, H⟩ M' H' → (∀ a o, ¬ (a = y.p ∨ a = y.q) → H a = some o → H' a = some o) := fun {H' M'} b a o n1 e => b.keep a o n1 e
      have tl : ∀ {H' : Hp} {M' : Addr → Prop}, (∀ a, M a → M' a) → Base ⟨K, P, w, some (.ob (EyeO K P w c y)), M, H⟩ M' H' → EyeOk K P w c y M H' := fun {H' M'} l b => EyeOk.step (Stp.less l) (fun _ _ => rfl) b.tok
      exact ⟨fun M' r' σ' H' _ S' z => z .non H' (kp S'.base) (tl S'.m0 S'.base) .non, fun M' r' σ' H' v d S' p z => z v H' (kp S'.base) (tl S'.m0 S'.base) (HC.Rp.less S'.m0 p), fun _ _ _ _ _ _ z => z.elim, fun _ _ _ _ _ _ z => z.elim, fun M' r' σ' H' c _ S' z => z.elim⟩
end
end HC
namespace HC
open PySem PySem.Spec PyProof.Rows L2
def spEyI (P : Program) (w : World) (c : EyC) : Sp := fun vs H Q _ => ∃ e dx vr vg vs', vs = [.ref e, vr, vg, vs'] ∧ H e = some (.ins c.C dx []) ∧ ∀ H' p q o1 o2, H p = none → H q = none → p ≠ q → (∀ b, b ≠ e → b ≠ p → b ≠ q → H' b = H b) →
  H' e = some (.ins c.C dx (eyF vr vg vs' p q)) → H' p = some (dnO p o1) → H' q = some (dnO q o2) → DEnt P w p o1 [] → DEnt P w q o2 [] → Q .non H'
structure FnI (P : Program) (w : World) (K : PySem.W.Frag) (mg : Str → Option Value) (base : Heap) (k : Nat) (c : EyC) (x : Str) : Prop where
  ex : ∃ (f : Addr) (fd : FuncData) (ps : List Str), FnOk P w K mg base (L2.CX P w) k f fd ps (spEyI P w c) ∧ Mk K c.C f ∧ mg x = some (.ref c.C) ∧ Binds K fd ps []
def mEy (M : Addr → Prop) (y : EyP) : Addr → Prop := fun a => M a ∨ a = y.p ∨ a = y.q
section
variable {C : Ct} {c : EyC} {M : Addr → Prop} {r : Env} {σ : L2.St} {H H2 H3 H4 : Hp} {y : EyP}
structure NewE (C : Ct) (c : EyC) (M : Addr → Prop) (r : Env) (σ : L2.St) (H : Hp) (y : EyP) (H2 : Hp) : Prop where
  sm : Same H H2
  ok : EyeOk C.K C.P C.w c y (mEy M y) H2
  S : Sim C (mEy M y) r σ H2
  np : H y.p = none ∧ H y.q = none ∧ H y.e = none
  nt : ¬ C.inT y.p ∧ ¬ C.inT y.q
theorem new_eye (S : Sim C M r σ H) {vr vg vs : V} {rd gd sd : D} {d1 d2 : List D} (pa : C.RpA M H [vr, vg, vs] [rd, gd, sd]) {e dx p q : Addr} {o1 o2 : Obj} (he : H e = none) (hdx : H dx = none) (ne : dx ≠ e)
    (hp : upd (upd H dx (.own e)) e (.ins c.C dx []) p = none) (hq : upd (upd H dx (.own e)) e (.ins c.C dx []) q = none) (pq : p ≠ q) (kp : ∀ b, b ≠ e → b ≠ p → b ≠ q → H2 b = upd (upd H dx (.own e)) e (.ins c.C dx []) b)
    (h1 : H2 e = some (.ins c.C dx (eyF vr vg vs p q))) (h2 : H2 p = some (dnO p o1)) (h3 : H2 q = some (dnO q o2)) (g1 : DEnt C.P C.w p o1 []) (g2 : DEnt C.P C.w q o2 []) : NewE C c M r σ H ⟨e, dx, p, q, rd, gd, sd, d1, d2⟩ H2 := by
  have un : ∀ {a}, upd (upd H dx (.own e)) e (.ins c.C dx []) a = none → a ≠ e ∧ a ≠ dx ∧ H a = none := fun {a} h => by
    have n1 : a ≠ e := fun z => by rw [z, upd_same] at h; cases h
    rw [upd_ne n1] at h
    have n2 : a ≠ dx := fun z => by rw [z, upd_same] at h; cases h
    rw [upd_ne n2] at h
    exact ⟨n1, n2, h⟩
  obtain ⟨pe, pdx, hp'⟩ := un hp
  obtain ⟨qe, qdx, hq'⟩ := un hq
  have sm : Same H H2 := fun b x eb => by
    rw [kp b (ne_of_none eb he) (ne_of_none eb hp') (ne_of_none eb hq'), upd_ne (ne_of_none eb he), upd_ne (ne_of_none eb hdx)]
    exact eb
  have st : Stp M H (fun a => M a ∨ a = p ∨ a = q) H2 := fun a o ea m => ⟨sm a o ea, fun z => by
    rcases z with z | z | z
    · exact m z
    · exact ne_of_none ea hp' z
    · exact ne_of_none ea hq' z⟩
  have S1 := S.same sm
  refine ⟨sm, ⟨?_, pq, ?_, ⟨[], .dctN h2 g1 .nil, fun k d h => by cases h⟩, ⟨[], .dctN h3 g2 .nil, fun k d h => by cases h⟩⟩, ?_, ⟨hp', hq', he⟩, ⟨fun t => S.dom p (S.tm t) hp', fun t => S.dom q (S.tm t) hq'⟩⟩
  · intro z
    rcases z with z | z | z
    · exact S.dom e z he
    · exact pe z.symm
    · exact qe z.symm
  · cases pa with
    | cons a1 pa =>
      cases pa with
      | cons a2 pa =>
        cases pa with
        | cons a3 pa => exact ⟨vr, vg, vs, h1, HC.Rp.step st a1, HC.Rp.step st a2, HC.Rp.step st a3⟩
  · refine ⟨S.len, fun i d ee => ?_, fun i d ee => ?_, S.sep, S.tk, ⟨S1.base.keep, tok_step st (S.reg sm) S.base.tok⟩, fun a m => .inl (S.m0 a m), fun a m => ?_, S.inm⟩
    · obtain ⟨v, z1, z2⟩ := S.val i d ee
      exact ⟨v, z1, z2.step st⟩
    · obtain ⟨a, z1, z2, z3, z4, z5⟩ := S.own i d ee
      exact ⟨a, z1, .inl z2, z3, z4, z5.step st fun o q => sm a o q⟩
    · rcases m with m | m | m
      · exact S1.dom a m
      · rw [m]; show H2 p ≠ none; rw [h2]; simp
      · rw [m]; show H2 q ≠ none; rw [h3]; simp
theorem after_eye (S : Sim C M r σ H) (N : NewE C c M r σ H y H2) (k3 : C.Ex H2 H3) (S3 : Sim C (mEy M y) r σ H3) (kp : ∀ a o, ¬ (a = y.p ∨ a = y.q) → H3 a = some o → H4 a = some o) : C.Ex H H4 ∧ Sim C M r σ H4 := by
  have ex : C.Ex H H4 := fun a o na ea => kp a o (fun z => by
    rcases z with z | z
    · exact ne_of_none ea N.np.1 z
    · exact ne_of_none ea N.np.2.1 z) (k3 a o na (N.sm a o ea))
  refine ⟨ex, S.grow ex (tok_step (M := mEy M y) (H := H3) (fun a o ea m => ⟨kp a o (fun z => m (.inr z)) ea, fun z => m (.inl z)⟩) (fun a ha => ?_) S3.base.tok)⟩
  cases q : H3 a with
  | none => exact absurd q (tok_dom S3.base.tok ha)
  | some o => exact kp a o (fun z => by
      rcases z with rfl | rfl
      · exact N.nt.1 ha
      · exact N.nt.2 ha) q
theorem NewE.more (N : NewE C c M r σ H y H2) (k3 : C.Ex H2 H3) : EyeOk C.K C.P C.w c y (mEy M y) H3 := EyeOk.step (N.S.stp k3) (fun a ha => by
  have nt : ¬ C.inT a := fun t => by
    rcases ha with rfl | rfl
    · exact N.nt.1 t
    · exact N.nt.2 t
  cases q : H2 a with
  | none => exact absurd q (N.S.dom a (.inr ha))
  | some o => exact k3 a o nt q) N.ok
theorem NewE.wish {W : XW} {E : Addr → Prop} (N : NewE C c M r σ H y H2) (S : Sim C M r σ H) (hW : Wish C W M r σ H E) : Wish C W (mEy M y) r σ H2 E := fun d H' k' S' q => by
  obtain ⟨ex, S4⟩ := after_eye (H4 := H') S N k' S' (fun _ _ _ h => h)
  exact hW d H' ex S4 q
end
section
variable {X : Cx} {C : Ct} {W : XW} {e e1 : Expr} {es es1 : List Expr} {u1 u2 : TPA} {pos p apos p1 p2 : Pos} {k j j1 n : Nat} {m x x1 : Str} {sp : SpD} {c : EyC}
def noTok (r : Env) : Prop := ∀ m : Nat, r[m]? ≠ some Sl.tok
theorem no_un {r : Env} {i : Nat} {x : Sl} (h : (r.map fun _ => Sl.un)[i]? = some x) : x = .un := by
  rw [List.getElem?_map] at h
  cases z : r[i]? with
  | none => rw [z] at h; cases h
  | some y => rw [z] at h; cases h; rfl
end
end HC
namespace HC
open PySem PySem.Spec PyProof.Rows L2
def EyP.ad (y : EyP) : Bool → Addr
  | false => y.p
  | true => y.q
def EyP.dm (y : EyP) : Bool → List D
  | false => y.d1
  | true => y.d2
def EyC.J (c : EyC) : Bool → D → D → D → Prop
  | false => c.J1
  | true => c.J2
def eyN : Bool → Str
  | false => "steps"
  | true => "sets"
mutual
theorem keyD_inj : ∀ (k l : NestedKey), keyD k = keyD l → k = l
  | .none, l, h => by cases l <;> first | rfl | cases h
  | .num i, l, h => by
    cases l with
    | num j => cases h; rfl
    | _ => cases h
  | .text x, l, h => by
    cases l with
    | text j => cases h; rfl
    | _ => cases h
  | .tup ks, l, h => by
    cases l with
    | tup ls =>
      have h' : D.tuple (keysD ks) = D.tuple (keysD ls) := h
      injection h' with h'
      rw [keysD_inj ks ls h']
    | _ => cases h
theorem keysD_inj : ∀ (k l : List NestedKey), keysD k = keysD l → k = l
  | [], [], _ => rfl
  | [], _ :: _, h => by cases h
  | _ :: _, [], h => by cases h
  | k :: ks, l :: ls, h => by
    have h' : keyD k :: keysD ks = keyD l :: keysD ls := h
    injection h' with h1 h2
    rw [keyD_inj k l h1, keysD_inj ks ls h2]
end
theorem kvGet_mem : ∀ {kvs : List (NestedKey × D)} {k : NestedKey} {d : D}, kvGet kvs k = some d → (k, d) ∈ kvs
  | (x, e) :: r, k, d, h => by
    unfold kvGet at h
    by_cases c : x = k
    · rw [if_pos c] at h
      cases h
      rw [c]
      exact List.mem_cons_self
    · rw [if_neg c] at h
      exact List.mem_cons_of_mem _ (kvGet_mem h)
theorem kvPut_mem {kvs : List (NestedKey × D)} {k : NestedKey} {v : D} {p : NestedKey × D} (h : p ∈ kvPut kvs k v) : p ∈ kvs ∨ p = (k, v) := by
  unfold kvPut at h
  split at h
  · obtain ⟨q, hq, e⟩ := List.mem_map.mp h
    by_cases c : q.1 = k
    · rw [if_pos c] at e
      exact .inr (by rw [← e, c])
    · rw [if_neg c] at e
      exact .inl (e ▸ hq)
  · rcases List.mem_append.mp h with h | h
    · exact .inl h
    · exact .inr (List.mem_singleton.mp h)
theorem kvGet_put {kvs : List (NestedKey × D)} {k : NestedKey} {v : D} : kvGet (kvPut kvs k v) k = some v := by
  unfold kvPut
  have app : ∀ l : List (NestedKey × D), kvGet l k = none → kvGet (l ++ [(k, v)]) k = some v := fun l => by
    induction l with
    | nil => intro _; show (if k = k then some v else none) = _; rw [if_pos rfl]
    | cons a l ih =>
      intro h
      unfold kvGet at h
      show (if a.1 = k then some a.2 else kvGet (l ++ [(k, v)]) k) = _
      by_cases c : a.1 = k
      · rw [if_pos c] at h; cases h
      · rw [if_neg c] at h ⊢
        exact ih h
  have mp : ∀ l : List (NestedKey × D), (kvGet l k).isSome = true → kvGet (l.map fun p => if p.1 = k then (p.1, v) else p) k = some v := fun l => by
    induction l with
    | nil => intro h; cases h
    | cons a l ih =>
      intro h
      unfold kvGet at h
      rw [List.map_cons]
      by_cases c : a.1 = k
      · rw [if_pos c]
        show (if a.1 = k then some v else _) = _
        rw [if_pos c]
      · rw [if_neg c] at h ⊢
        show (if a.1 = k then some a.2 else _) = _
        rw [if_neg c]
        exact ih h
  by_cases c : (kvGet kvs k).isSome = true
  · rw [if_pos c]; exact mp kvs c
  · rw [if_neg c]
    exact app kvs (by simpa using c)
theorem sub_lenD : ∀ (l m : List D), l.Nodup → (∀ d ∈ l, d ∈ m) → l.length ≤ m.length
  | [], _, _, _ => Nat.zero_le _
  | d :: l, m, nd, h => by
    have hd := h d List.mem_cons_self
    obtain ⟨m1, m2, rfl⟩ := List.append_of_mem hd
    have nd' := List.nodup_cons.mp nd
    have := sub_lenD l (m1 ++ m2) nd'.2 fun e he => by
      have := h e (List.mem_cons_of_mem _ he)
      rcases List.mem_append.mp this with z | z
      · exact List.mem_append_left _ z
      · rcases List.mem_cons.mp z with z | z
        · exact absurd (z ▸ he) nd'.1
        · exact List.mem_append_right _ z
    rw [List.length_append] at this ⊢
    rw [List.length_cons, List.length_cons]
    omega
section
variable {K : PySem.W.Frag} {P : Program} {w : World} {c : EyC} {y : EyP} {M : Addr → Prop} {H H' : Hp}
theorem EyeOk.memo (h : EyeOk K P w c y M H) (b : Bool) : ∃ kvs, Top K P w M H (y.ad b) (.tdict kvs) ∧ ∀ k d, (k, d) ∈ kvs → keyD k ∈ y.dm b ∧ c.J b y.lb (keyD k) d := by
  cases b with
  | false => exact h.s1
  | true => exact h.s2
theorem EyeOk.fld (h : EyeOk K P w c y M H) (b : Bool) : ∃ fs, H y.e = some (.ins c.C y.dx fs) ∧ fs.lookup (eyN b) = some (.ref (y.ad b)) := by
  obtain ⟨vr, vg, vs, e, _⟩ := h.ex
  refine ⟨_, e, ?_⟩
  cases b <;> rfl
theorem EyeOk.put (h : EyeOk K P w c y M H) (b : Bool) (mp : M (y.ad b)) (e : ∀ a, a ≠ y.ad b → H' a = H a) {kvs : List (NestedKey × D)} (tp : Top K P w M H' (y.ad b) (.tdict kvs)) (j : ∀ k d, (k, d) ∈ kvs → keyD k ∈ y.dm b ∧ c.J b y.lb (keyD k) d) : EyeOk K P w c y M H' := by
  have st : Stp M H M H' := fun a o ea m => ⟨by rw [e a (fun z => m (by rw [z]; exact mp))]; exact ea, m⟩
  obtain ⟨vr, vg, vs, e1, r1, r2, r3⟩ := h.ex
  have ex : ∃ vr vg vs, H' y.e = some (.ins c.C y.dx (eyF vr vg vs y.p y.q)) ∧ Rp K P w M H' vr y.rd ∧ Rp K P w M H' vg y.gd ∧ Rp K P w M H' vs y.sd := ⟨vr, vg, vs, (st _ _ e1 h.ne).1, r1.step st, r2.step st, r3.step st⟩
  cases b with
  | false =>
    obtain ⟨k2, t2, j2⟩ := h.s2
    exact ⟨h.ne, h.pq, ex, ⟨kvs, tp, j⟩, ⟨k2, t2.step st fun o z => by rw [e y.q (Ne.symm h.pq)]; exact z, j2⟩⟩
  | true =>
    obtain ⟨k1, t1, j1⟩ := h.s1
    exact ⟨h.ne, h.pq, ex, ⟨k1, t1.step st fun o z => by rw [e y.p h.pq]; exact z, j1⟩, ⟨kvs, tp, j⟩⟩
end
end HC
namespace HC
open PySem PySem.Spec PyProof.Rows L2
def domL (b : Bool) (d1 d2 : List D) : List D := match b with
  | false => d1
  | true => d2
def sMemo (b : Bool) (J : D → D → D → Prop) (ix : Nat) (tp : TSD) (te : TP) : TSD := fun e r => ∃ rd gd sd d1 d2 ks, slot r 0 = .obj (eyL rd gd sd d1 d2) ∧ slot r ix = .val (.tuple (keysD ks)) ∧ (NestedKey.tup ks).depth ≤ 8 ∧
  D.tuple (keysD ks) ∈ domL b d1 d2 ∧ (domL b d1 d2).length < 1000000 ∧ (∀ d, J (eyL rd gd sd d1 d2) (.tuple (keysD ks)) d → e.rt d) ∧
  tp ⟨fun r' => slot r' 0 = .obj (eyL rd gd sd d1 d2) ∧ slot r' ix = .val (.tuple (keysD ks)) ∧ te r' (fun d => J (eyL rd gd sd d1 d2) (.tuple (keysD ks)) d) (fun _ => False), fun _ => False, fun _ => False, fun _ => False, fun _ _ => False⟩ r
section
variable {X : Cx} {C : Ct} {W : XW} {c : EyC} {k : Nat}
theorem eyl_dm {y : EyP} {b : Bool} {rd gd sd : D} {d1 d2 : List D} (h : y.lb = eyL rd gd sd d1 d2) : y.dm b = domL b d1 d2 := by
  obtain ⟨e, dx, p, q, a1, a2, a3, a4, a5⟩ := y
  injection h with h
  injection h with _ h
  injection h with _ h
  injection h with _ h
  injection h with h1 h
  injection h with h2 _
  injection h1 with h1
  injection h2 with h2
  cases b
  · exact h1
  · exact h2
def ct0 (X : Cx) : Ct := ⟨X.K, X.prog, X.w, Option.none, fun _ => False, fun _ => Option.none⟩
theorem memo_few {K : PySem.W.Frag} {P : Program} {w : World} {M : Addr → Prop} {H : Hp} {a : Addr} {kvs : List (NestedKey × D)} {dm : List D} (tp : Top K P w M H a (.tdict kvs)) (h : ∀ k d, (k, d) ∈ kvs → keyD k ∈ dm) : kvs.length ≤ dm.length := by
  cases tp with
  | @dctN ob xs _ ea de rn =>
    have nd : (kvs.map (·.1)).Nodup := by
      rw [← rpn_keys rn]
      obtain ⟨_, _, _, es, ep, _, _, nd, _⟩ := de
      exact nd
    have nd2 : ((kvs.map (·.1)).map keyD).Nodup := by
      rw [List.nodup_iff_pairwise_ne, List.pairwise_map]
      exact (List.nodup_iff_pairwise_ne.mp nd).imp fun {a b} n z => n (keyD_inj _ _ z)
    have := sub_lenD _ dm nd2 fun d hd => by
      obtain ⟨k, hk, rfl⟩ := List.mem_map.mp hd
      obtain ⟨p, hp, rfl⟩ := List.mem_map.mp hk
      exact h p.1 p.2 hp
    rw [List.length_map, List.length_map] at this
    exact this
variable {pre : List Stmt} {e : Expr} {se st : Str} {te : TP} {tp : TSD} {q1 q2 q3 q4 q5 q6 q7 q8 q9 q10 q11 q12 q13 : Pos} {b : Bool}
theorem memo_put (ix : Nat) (G : Good X C W k) (ey : C.Eyes c) (ek : EyK X.K c) (mt : Mono te) {rd gd sd : D} {d1 d2 : List D} {ks : List NestedKey} (dp : (NestedKey.tup ks).depth ≤ 8) (hm : D.tuple (keysD ks) ∈ domL b d1 d2) (few : (domL b d1 d2).length < 1000000)
    {M : Addr → Prop} {r : Env} {σ : L2.St} {H : Hp} (S : Sim C M r σ H) (h0 : slot r 0 = .obj (eyL rd gd sd d1 d2)) (hx : slot r ix = .val (.tuple (keysD ks))) (z : te r (fun d => c.J b (eyL rd gd sd d1 d2) (.tuple (keysD ks)) d) (fun _ => False)) {De : Ends}
    (go : ∀ H' y, Sim C M r σ H' → σ[0]? = some (some (.ref y.e)) → EyeOk C.K C.P C.w c y M H' → y.lb = eyL rd gd sd d1 d2 → (∃ kvs d, Top C.K C.P C.w M H' (y.ad b) (.tdict kvs) ∧ kvGet kvs (.tup ks) = some d ∧ c.J b (eyL rd gd sd d1 d2) (.tuple (keysD ks)) d) → De.nx σ H') :
    tAsg (lV C W te) (gSub (tFld X.K (tVar 0) (eyN b)) (tVar ix) (rSetT X)) De σ H := by
  refine ⟨M, r, fun _ => False, S, fun _ _ _ _ z => z.elim, mt.imp (fun d jd v H1 k1 S1 p1 => ?_) (fun _ z => z) z⟩
  have FF := G.fit
  obtain ⟨K0, P0, w0, T0, M0, H0⟩ := C
  obtain ⟨z1, z2, z3⟩ := FF
  cases z1; cases z2; cases z3
  obtain ⟨o, y, hT, eg, el, pt, ok, mp, mq, rm⟩ := S1.obj ey h0
  obtain ⟨fs, e1, lf⟩ := ok.fld b
  obtain ⟨kv, ek1, pk⟩ := S1.val ix _ (slot_get hx (by simp))
  obtain ⟨kvs, tpp, jj⟩ := ok.memo b
  have dm : y.dm b = domL b d1 d2 := eyl_dm el
  have na : NoAttr X.K c.C (eyN b) := by
    cases b
    · exact ek.n4
    · exact ek.n5
  have mad : M (y.ad b) := by
    cases b
    · exact mp
    · exact mq
  have reg : (EyeO X.K X.prog X.w c y).reg (y.ad b) := by
    cases b
    · exact .inl rfl
    · exact .inr rfl
  refine ⟨_, eg, y.e, c.C, y.dx, fs, _, rfl, e1, ek.cl, na, lf, kv, ek1, ?_⟩
  have len := memo_few tpp fun k d h => (jj k d h).1
  obtain ⟨kb, _, rfl, _, _⟩ := Ct.Rq.tup (C := ⟨X.K, X.prog, X.w, T0, M0, H0⟩) (M := M) (H := H1) (.inl pk)
  have tpp' := tpp
  cases tpp with
  | @dctN ob xs _ ea de rn =>
    refine ⟨M, y.ad b, kb, ob, xs, kvs, ks, rfl, rfl, ea, de, rn, pk, dp, by rw [rpn_len rn]; exact Nat.lt_of_le_of_lt len (by rw [dm]; exact Nat.lt_of_lt_of_le few (by decide)), fun ob' u de' ru => ?_⟩
    have su : Stp M H1 M (upd H1 (y.ad b) (dnO (y.ad b) ob')) := fun a o ea m => ⟨by rw [upd_ne (fun z : a = y.ad b => m (by rw [z]; exact mad))]; exact ea, m⟩
    have tp' : Top X.K X.prog X.w M (upd H1 (y.ad b) (dnO (y.ad b) ob')) (y.ad b) (.tdict (kvPut kvs (.tup ks) d)) := .dctN upd_same de' (RpN.step su (rpn_put rn pk ru p1))
    have ok' : EyeOk X.K X.prog X.w c y M (upd H1 (y.ad b) (dnO (y.ad b) ob')) := ok.put b mad (fun a n => upd_ne n) tp' fun k' d' h => by
      rcases kvPut_mem h with h | h
      · exact jj k' d' h
      · cases h
        exact ⟨by rw [dm]; exact hm, by rw [el]; exact jd⟩
    obtain ⟨ex2, S2⟩ := S1.turned hT pt (fun a x n h => by rw [upd_ne (fun z : a = y.ad b => n (by rw [z]; exact reg))]; exact h) ok'
    exact go _ y S2 eg ok' el ⟨_, d, tp', kvGet_put, jd⟩
theorem memo_ret (ix : Nat) (G : Good X C W k) (ek : EyK X.K c) {ks : List NestedKey} (dp : (NestedKey.tup ks).depth ≤ 8) {M : Addr → Prop} {r : Env} {σ : L2.St} {H : Hp} (S : Sim C M r σ H) (hx : slot r ix = .val (.tuple (keysD ks))) {y : EyP} (eg : σ[0]? = some (some (.ref y.e))) (ok : EyeOk C.K C.P C.w c y M H)
    {kvs : List (NestedKey × D)} {d : D} (tp : Top C.K C.P C.w M H (y.ad b) (.tdict kvs)) (hg : kvGet kvs (.tup ks) = some d) {Q : VK} (go : ∀ v H', Same H H' → C.Rp M H' v d → Q v H') : tOp (rD2 (ct0 X) fIx) (tFld X.K (tVar 0) (eyN b)) (tVar ix) σ H Q := by
  have FF := G.fit
  obtain ⟨K0, P0, w0, T0, M0, H0⟩ := C
  obtain ⟨z1, z2, z3⟩ := FF
  cases z1; cases z2; cases z3
  obtain ⟨fs, e1, lf⟩ := ok.fld b
  obtain ⟨kv, ek1, pk⟩ := S.val ix _ (slot_get hx (by simp))
  have na : NoAttr X.K c.C (eyN b) := by
    cases b
    · exact ek.n4
    · exact ek.n5
  refine ⟨_, eg, y.e, c.C, y.dx, fs, _, rfl, e1, ek.cl, na, lf, kv, ek1, M, .tdict kvs, .tuple (keysD ks), .inr ⟨_, rfl, fun z => z, tp⟩, .inl pk, S.dom, ?_⟩
  exact ⟨ks, d, rfl, dp, hg, fun v H' sm p => go v H' sm p⟩
end
end HC
namespace HC
open PySem PySem.Spec PyProof.Rows L2
section
variable {X : Cx} {C : Ct} {W : XW} {c : EyC} {k : Nat}
structure Pre (X : Cx) (C : Ct) (W : XW) (pre : List Stmt) (t : TSD) : Prop where
  run : ∀ (U : TS) (rest : List Stmt), PSs X rest U → PSs X (pre ++ rest) (fun De σ H => lS C W t { De with nx := U De } σ H)
  mo : MonoS t
theorem pre_one {s : Stmt} {t : TSD} (h : DS X C W s t) : Pre X C W [s] t := ⟨fun U rest h2 => pss_cons h.ps h2, h.mo⟩
theorem pre_cons {s : Stmt} {pre : List Stmt} {t u : TSD} (h : DS X C W s t) (hp : Pre X C W pre u) : Pre X C W (s :: pre) (sSeq t u) := ⟨fun U rest h2 =>
  (pss_cons h.ps (hp.run U rest h2)).imp fun De σ H ⟨M, r, e, S, f, q⟩ => ⟨M, r, { e with nx := u e }, S, ⟨fun M' r' σ' H' s S' z => ⟨M', r', e, S', f.step s, z⟩, f.rt, f.bk, f.ct, f.ex⟩, q⟩, mono_seq h.mo hp.mo⟩
def sThenF (i : Nat) (t : TSD) : TSD := fun e r => t { e with nx := fun r' => e.nx (frz r' i) } r
theorem pre_frz (i : Nat) {pre : List Stmt} {t : TSD} (hp : Pre X C W pre t) : Pre X C W pre (sThenF i t) := ⟨fun U rest h2 =>
  (hp.run U rest h2).imp fun De σ H ⟨M, r, e, S, f, q⟩ => ⟨M, r, { e with nx := fun r' => e.nx (frz r' i) }, S, ⟨fun M' r' σ' H' s S' z => let ⟨M'', s2, S''⟩ := S'.freeze i; f.nx M'' (frz r' i) σ' H' (s.trans s2) S'' z, f.rt, f.bk, f.ct, f.ex⟩, q⟩, ⟨fun {e e' r} h q => hp.mo.imp (e := { e with nx := fun r' => e.nx (frz r' i) }) (e' := { e' with nx := fun r' => e'.nx (frz r' i) }) ⟨fun r' z => h.nx _ z, h.rt, h.bk, h.ct, h.ex⟩ q⟩⟩
variable {pre : List Stmt} {e : Expr} {se st : Str} {te : TP} {tp : TSD} {q1 q2 q3 q4 q5 q6 q7 q8 q9 q10 q11 q12 q13 q14 q15 : Pos}
theorem dss_memo (b : Bool) (ix : Nat) (G : Good X C W k) (ey : C.Eyes c) (ek : EyK X.K c) (hp : Pre X C W pre tp) (he : DV X C W e te)
    (hN : X.N[0]? = some se := by rfl) (hv : Vis X.env.scope se := by first | exact Or.inl rfl | exact Or.inr (Or.inl rfl) | exact Or.inr (Or.inr rfl)) (hd : (se == ("__debug__" : Str)) = false := by decide) (hcd : (se == ("__classdict__" : Str)) = false := by decide)
    (hN' : X.N[ix]? = some st := by rfl) (hv' : Vis X.env.scope st := by first | exact Or.inl rfl | exact Or.inr (Or.inl rfl) | exact Or.inr (Or.inr rfl)) (hd' : (st == ("__debug__" : Str)) = false := by decide) (hcd' : (st == ("__classdict__" : Str)) = false := by decide)
    (b1 : attributeBase (.Name se q2) (eyN b) X.env (eval (.Name se q2) X.env) = eval (.Name se q2) X.env := by rfl) (b2 : attributeBase (.Name se q5) (eyN b) X.env (eval (.Name se q5) X.env) = eval (.Name se q5) X.env := by rfl) (b3 : attributeBase (.Name se q11) (eyN b) X.env (eval (.Name se q11) X.env) = eval (.Name se q11) X.env := by rfl)
    (hm : behindInMarks .NotIn (.Attribute (.Name se q2) (eyN b) q3) = false := by first | exact nomark _ (by decide) (by decide) | rfl)
    (ha : ∀ v, assign (.Subscript (.Attribute (.Name se q5) (eyN b) q6) (.Name st q7) q8) X.env v = (do
      let ov ← holding [v] (eval (.Attribute (.Name se q5) (eyN b) q6) X.env)
      let iv ← holding [v, ov] (eval (.Name st q7) X.env)
      standAt q8
      holding [v, ov, iv] (setItem ov iv v)
      release [v, ov, iv] []) := by intro _; rfl)
    (hs : swapsWithSole [.Subscript (.Attribute (.Name se q5) (eyN b) q6) (.Name st q7) q8] e q9.line X.env = pure false := by rfl) (hw : swappedStores [.Subscript (.Attribute (.Name se q5) (eyN b) q6) (.Name st q7) q8] e X.env = pure none := by rfl)
    (h1 : (assignEach [.Subscript (.Attribute (.Name se q5) (eyN b) q6) (.Name st q7) q8] X.env).map (·.2) = [assign (.Subscript (.Attribute (.Name se q5) (eyN b) q6) (.Name st q7) q8) X.env] := by rfl) (px : PlainIx (.Name st q13) := by exact fun _ _ => rfl) :
    DSs X C W [.If (.Compare (.Name st q1) [.NotIn] [.Attribute (.Name se q2) (eyN b) q3] q4) (pre ++ [.Assign [.Subscript (.Attribute (.Name se q5) (eyN b) q6) (.Name st q7) q8] e q9]) [] q10, .Return (some (.Subscript (.Attribute (.Name se q11) (eyN b) q12) (.Name st q13) q14)) q15] (sMemo b (c.J b) ix tp te) := by
  have F0 : Fit X (ct0 X) := ⟨rfl, rfl, rfl⟩
  have pv0 : ∀ q : Pos, PE X (.Name se q) (tVar 0) := fun q => pe_var (i := 0) hN hv hd hcd
  have pvx : ∀ q : Pos, PE X (.Name st q) (tVar ix) := fun q => pe_var (i := ix) hN' hv' hd' hcd'
  refine ⟨(pss_cons (ps_if (pt_cmpR (op_notInD' G.hu65 F0).ok (pvx q1) (pe_fld (pv0 q2) b1) hm) (hp.run _ _ (pss_one (ps_asg he.pe (pg_sub (pe_fld (pv0 q5) b2) (pvx q7) (set_td G.hu65) ha) hs hw h1))) pss_nil) (pss_one (ps_ret (pe_ix (ix_D G.hu65 F0) (pe_fld (pv0 q11) b3) (pvx q13) px)))).imp fun De σ H ⟨M, r, e, S, f, q⟩ => ?_, ⟨fun {e e' r} h ⟨rd, gd, sd, d1, d2, ks, z1, z2, z3, z4, z5, z6, z7⟩ => ⟨rd, gd, sd, d1, d2, ks, z1, z2, z3, z4, z5, fun d j => h.rt _ (z6 d j), z7⟩⟩⟩
  obtain ⟨rd, gd, sd, d1, d2, ks, h0, hx, dp, hmem, few, rt, q⟩ := q
  have fin : ∀ {M' : Addr → Prop} {r' : Env} {σ' : L2.St} {H' : Hp} {y : EyP}, Sim C M' r' σ' H' → slot r' ix = .val (.tuple (keysD ks)) → σ'[0]? = some (some (.ref y.e)) → EyeOk C.K C.P C.w c y M' H' → (∃ kvs d, Top C.K C.P C.w M' H' (y.ad b) (.tdict kvs) ∧ kvGet kvs (.tup ks) = some d ∧ c.J b (eyL rd gd sd d1 d2) (.tuple (keysD ks)) d) → tRet (tOp (rD2 (ct0 X) fIx) (tFld X.K (tVar 0) (eyN b)) (tVar ix)) De σ' H' := fun {M' r' σ' H' y} S' hx' eg ok ⟨kvs, d, tpp, hg, jd⟩ =>
    memo_ret ix G ek dp S' hx' eg ok tpp hg fun v H'' sm p => f.rt M' r' σ' H'' v d (S'.same sm) p (rt d jd)
  obtain ⟨o, y, hT, eg, el, pt, ok, mp', mq', rm⟩ := S.obj ey h0
  obtain ⟨fs, e1, lf⟩ := ok.fld b
  obtain ⟨kv, ek1, pk⟩ := S.val ix _ (slot_get hx (by simp))
  obtain ⟨kvs, tpp, jj⟩ := ok.memo b
  have na : NoAttr X.K c.C (eyN b) := by
    cases b
    · exact ek.n4
    · exact ek.n5
  have Gf := G.fit
  refine ⟨kv, ek1, _, eg, y.e, c.C, y.dx, fs, _, rfl, e1, ek.cl, na, lf, M, .tuple (keysD ks), .tdict kvs, .inl ?_, .inr ⟨_, rfl, fun z => z, ?_⟩, S.dom, ks, rfl, dp, fun v H' sm p => ?_⟩
  · obtain ⟨K0, P0, w0, T0, M0, H0⟩ := C
    obtain ⟨z1, z2, z3⟩ := Gf
    cases z1; cases z2; cases z3
    exact pk
  · obtain ⟨K0, P0, w0, T0, M0, H0⟩ := C
    obtain ⟨z1, z2, z3⟩ := Gf
    cases z1; cases z2; cases z3
    exact tpp
  have ev := (Rp.q p).bl
  refine ⟨_, ev, ?_⟩
  have S' := S.same sm
  have ok' : EyeOk C.K C.P C.w c y M H' := by
    obtain ⟨o2, y2, _, eg2, el2, _, ok2, _⟩ := S'.obj ey h0
    exact EyeOk.step (Stp.grow sm) (fun a ha => by
      obtain ⟨_, t1, _⟩ := ok.s1
      obtain ⟨_, t2, _⟩ := ok.s2
      cases q : H a with
      | none =>
        rcases ha with rfl | rfl
        · exact absurd q t1.some
        · exact absurd q t2.some
      | some o => exact sm a o q) ok
  cases hk : kvGet kvs (.tup ks) with
  | none =>
    refine ⟨M, r, _, S', ?_, q⟩
    refine ⟨fun M' r' σ' H'' st' S'' ⟨g0, gx, z⟩ => ?_, fun _ _ _ _ _ _ _ _ z => z.elim, fun _ _ _ _ _ _ z => z.elim, fun _ _ _ _ _ _ z => z.elim, fun _ _ _ _ _ _ _ z => z.elim⟩
    exact memo_put ix G ey ek he.mo dp hmem few S'' g0 gx z fun H3 y3 S3 eg3 ok3 el3 has => fin S3 gx eg3 ok3 has
  | some d =>
    exact fin S' hx eg ok' ⟨kvs, d, tpp.step (Stp.grow sm) (fun o z => sm _ o z), hk, by have := (jj _ _ (kvGet_mem hk)).2; rw [el] at this; exact this⟩
def sOr (t u : TSD) : TSD := fun e r => t e r ∨ u e r
theorem dss_or {sts : List Stmt} {t u : TSD} (h1 : DSs X C W sts t) (h2 : DSs X C W sts u) : DSs X C W sts (sOr t u) :=
  ⟨⟨fun pins s σ H De I ⟨M, r, e, S, f, q⟩ => q.elim (fun q => h1.ps.run pins s σ H De I ⟨M, r, e, S, f, q⟩) fun q => h2.ps.run pins s σ H De I ⟨M, r, e, S, f, q⟩⟩, ⟨fun h q => q.elim (fun q => .inl (h1.mo.imp h q)) fun q => .inr (h2.mo.imp h q)⟩⟩
end
end HC
namespace HC
open PySem PySem.Spec PyProof.Rows L2
section
variable {P : Program} {w : World} {K : PySem.W.Frag} {mg : Str → Option Value} {base : Heap}
def tNewN (P : Program) (w : World) : TE := fun _ H Q => ∀ p o, H p = none → DEnt P w p o [] → Q (.ref p) (upd H p (dnO p o))
def tEyI (P : Program) (w : World) (K : PySem.W.Frag) : TS := tSeq (sFld K (tVar 0) (tVar 1) "room") (tSeq (sFld K (tVar 0) (tVar 2) "regulator") (tSeq (sFld K (tVar 0) (tVar 3) "sight") (tSeq (sFld K (tVar 0) (tNewN P w) "steps") (sFld K (tVar 0) (tNewN P w) "sets"))))
theorem putF_ne {a f : Str} {v y : V} {fs : List (Str × V)} (h : ¬ a = f) : putF f y ((a, v) :: fs) = (a, v) :: putF f y fs := by
  show (if a = f then _ else _) = _
  rw [if_neg h]
theorem eyF_1 (vr : V) : putF "room" vr [] = [(("room" : Str), vr)] := rfl
theorem eyF_2 (vr vg : V) : putF "regulator" vg [(("room" : Str), vr)] = [(("room" : Str), vr), ("regulator", vg)] := by
  rw [putF_ne (by decide +kernel)]; rfl
theorem eyF_3 (vr vg vs : V) : putF "sight" vs [(("room" : Str), vr), ("regulator", vg)] = [(("room" : Str), vr), ("regulator", vg), ("sight", vs)] := by
  rw [putF_ne (by decide +kernel), putF_ne (by decide +kernel)]; rfl
theorem eyF_4 (vr vg vs vt : V) : putF "steps" vt [(("room" : Str), vr), ("regulator", vg), ("sight", vs)] = [(("room" : Str), vr), ("regulator", vg), ("sight", vs), ("steps", vt)] := by
  rw [putF_ne (by decide +kernel), putF_ne (by decide +kernel), putF_ne (by decide +kernel)]; rfl
theorem eyF_5 (vr vg vs vt vu : V) : putF "sets" vu [(("room" : Str), vr), ("regulator", vg), ("sight", vs), ("steps", vt)] = [(("room" : Str), vr), ("regulator", vg), ("sight", vs), ("steps", vt), ("sets", vu)] := by
  rw [putF_ne (by decide +kernel), putF_ne (by decide +kernel), putF_ne (by decide +kernel), putF_ne (by decide +kernel)]; rfl
theorem sem_eyI {c : EyC} (ek : EyK K c) {e dx : Addr} {vr vg vs : V} {H : Hp} (he : H e = some (.ins c.C dx [])) {De : Ends} {σ : L2.St} (hσ : σ = [some (.ref e), some vr, some vg, some vs])
    (go : ∀ H' p q o1 o2, H p = none → H q = none → p ≠ q → (∀ b, b ≠ e → b ≠ p → b ≠ q → H' b = H b) → H' e = some (.ins c.C dx (eyF vr vg vs p q)) → H' p = some (dnO p o1) → H' q = some (dnO q o2) → DEnt P w p o1 [] → DEnt P w q o2 [] → De.nx σ H') : tEyI P w K De σ H := by
  subst hσ
  refine ⟨vr, rfl, .ref e, rfl, e, c.C, dx, [], rfl, he, ek.cl, ek.n1, (by show 0 < 1000; decide), ?_⟩
  rw [eyF_1]
  refine ⟨vg, rfl, .ref e, rfl, e, c.C, dx, _, rfl, upd_same, ek.cl, ek.n2, (by show 1 < 1000; decide), ?_⟩
  rw [eyF_2, upd_upd]
  refine ⟨vs, rfl, .ref e, rfl, e, c.C, dx, _, rfl, upd_same, ek.cl, ek.n3, (by show 2 < 1000; decide), ?_⟩
  rw [eyF_3, upd_upd]
  intro p o1 hp g1
  have pe : p ≠ e := fun z => by rw [z, upd_same] at hp; cases hp
  have hp' : H p = none := by rw [upd_ne pe] at hp; exact hp
  refine ⟨.ref e, rfl, e, c.C, dx, _, rfl, by rw [upd_ne (Ne.symm pe)]; exact upd_same, ek.cl, ek.n4, (by show 3 < 1000; decide), ?_⟩
  rw [eyF_4]
  intro q o2 hq g2
  have qe : q ≠ e := fun z => by rw [z, upd_same] at hq; cases hq
  rw [upd_ne qe] at hq
  have qp : q ≠ p := fun z => by rw [z, upd_same] at hq; cases hq
  rw [upd_ne qp, upd_ne qe] at hq
  refine ⟨.ref e, rfl, e, c.C, dx, _, rfl, by rw [upd_ne (Ne.symm qe)]; exact upd_same, ek.cl, ek.n5, (by show 4 < 1000; decide), ?_⟩
  rw [eyF_5]
  refine go _ p q o1 o2 hp' hq (Ne.symm qp) (fun b n1 n2 n3 => ?_) upd_same ?_ ?_ g1 g2
  · rw [upd_ne n1, upd_ne n3, upd_ne n1, upd_ne n2, upd_ne n1]
  · rw [upd_ne pe, upd_ne (Ne.symm qp), upd_ne pe, upd_same]
  · rw [upd_ne qe, upd_same]
theorem ok_eyI {c : EyC} {qual : Str} {st : Stmt} {f : Addr} {fd : FuncData} (F : Fun K "__init__" qual st f fd) (S : FnScope ["self", "room", "regulator", "sight"] ["self", "room", "regulator", "sight"] (defScope st)) (ek : EyK K c)
    (hb : ∀ (cdv : Value) (A : Around) (outer : List PySem.Env) (s : Shared) (H : Hp) (E : XK), PSs (cxOf (L2.CX P w) P w K mg base ["self", "room", "regulator", "sight"] qual (defScope st) f cdv A outer s H E) (defBody st) (tEyI P w K)) :
    FnOk P w K mg base (L2.CX P w) 1 f fd ["self", "room", "regulator", "sight"] (spEyI P w c) := by
  refine F.okX S (fun vs H Q E h => ?_) (fun cdv A outer s H vs Q E hr h => ?_)
  · obtain ⟨e, dx, vr, vg, vs', rfl, _⟩ := h
    rfl
  · obtain ⟨e, dx, vr, vg, vs', rfl, he, q⟩ := h
    refine ⟨_, hb cdv A outer s H E, sem_eyI (P := P) (w := w) ek he rfl fun H' p q' o1 o2 a1 a2 a3 a4 a5 a6 a7 a8 a9 => ?_⟩
    exact q H' p q' o1 o2 a1 a2 a3 a4 a5 a6 a7 a8 a9
end
end HC
namespace HC
open PySem PySem.Spec PyProof.Rows L2
structure TwoOk (K : PySem.W.Frag) (P : Program) (w : World) (c : EyC) (y1 y2 : EyP) (t : Addr) (M : Addr → Prop) (H : Hp) : Prop where
  k1 : EyeOk K P w c y1 M H
  k2 : EyeOk K P w c y2 M H
  nt : ¬ M t
  ht : H t = some (.tup [.ref y1.e, .ref y2.e])
def EyP.rg (y : EyP) (a : Addr) : Prop := a = y.p ∨ a = y.q
theorem EyeOk.rg {K : PySem.W.Frag} {P : Program} {w : World} {c : EyC} {y : EyP} {M : Addr → Prop} {H : Hp} (h : EyeOk K P w c y M H) {a : Addr} (r : y.rg a) : H a ≠ none := by
  obtain ⟨_, t1, _⟩ := h.s1
  obtain ⟨_, t2, _⟩ := h.s2
  rcases r with rfl | rfl
  · exact t1.some
  · exact t2.some
def TwoO (K : PySem.W.Frag) (P : Program) (w : World) (c : EyC) (y1 y2 : EyP) (t : Addr) : Obj0 where
  is a d := a = t ∧ d = .tuple [y1.lb, y2.lb]
  reg a := y1.rg a ∨ y2.rg a
  ok := TwoOk K P w c y1 y2 t
  st := fun st e h => ⟨h.k1.step st fun a r => e a (.inl r), h.k2.step st fun a r => e a (.inr r), (st _ _ h.ht h.nt).2, (st _ _ h.ht h.nt).1⟩
  dm := fun h r => by
    rcases r with r | r
    · exact h.k1.rg r
    · exact h.k2.rg r
def Apart (y1 y2 : EyP) : Prop := ∀ a, y1.rg a → ¬ y2.rg a
section
variable {K : PySem.W.Frag} {P : Program} {w : World} {c : EyC} {y1 y2 : EyP} {t : Addr}
theorem two_prt1 (ap : Apart y1 y2) : Prt (EyeO K P w c y1) (TwoO K P w c y1 y2 t) where
  rg := fun a r => .inl r
  fw := fun h => h.k1
  bk := fun {M H H'} rm kp ok ok1 => by
    refine ⟨ok1, ok.k2.step (fun a o e m => ⟨kp a o (fun z => m (rm a (.inl z))) e, m⟩) (fun a r => ?_), ok.nt, kp _ _ (fun z => ok.nt (rm _ (.inl z))) ok.ht⟩
    cases q : H a with
    | none => exact absurd q (ok.k2.rg r)
    | some o => exact kp a o (fun z => ap a z r) q
theorem two_prt2 (ap : Apart y1 y2) : Prt (EyeO K P w c y2) (TwoO K P w c y1 y2 t) where
  rg := fun a r => .inr r
  fw := fun h => h.k2
  bk := fun {M H H'} rm kp ok ok1 => by
    refine ⟨ok.k1.step (fun a o e m => ⟨kp a o (fun z => m (rm a (.inr z))) e, m⟩) (fun a r => ?_), ok1, ok.nt, kp _ _ (fun z => ok.nt (rm _ (.inr z))) ok.ht⟩
    cases q : H a with
    | none => exact absurd q (ok.k1.rg r)
    | some o => exact kp a o (fun z => ap a r z) q
end
def Eyes2 (K : PySem.W.Frag) (P : Program) (w : World) (c : EyC) (o : Obj0) : Prop := ∀ e d, o.is e d → ∃ y1 y2 : EyP, d = .tuple [y1.lb, y2.lb] ∧ Prt (EyeO K P w c y1) o ∧ Prt (EyeO K P w c y2) o ∧ ∀ M H, o.ok M H → ¬ M e ∧ H e = some (.tup [.ref y1.e, .ref y2.e])
theorem eyes_two {K : PySem.W.Frag} {P : Program} {w : World} {c : EyC} {y1 y2 : EyP} {t : Addr} (ap : Apart y1 y2) : Eyes2 K P w c (TwoO K P w c y1 y2 t) := fun e d ⟨h1, h2⟩ => ⟨y1, y2, h2, two_prt1 ap, two_prt2 ap, fun M H ok => by rw [h1]; exact ⟨ok.nt, ok.ht⟩⟩
def Ct.Eyes2 (C : Ct) (c : EyC) : Prop := ∀ o, C.T = some (.ob o) → HC.Eyes2 C.K C.P C.w c o
theorem eyes2_no {C : Ct} {c : EyC} (h : C.NoOb) : C.Eyes2 c := fun o e => absurd e (h o)
def wMethE (i j : Nat) (sp : SpD) (u : TPA) : TP := fun r Q E => match slot r i with
  | .obj (.tuple [a, b]) => u r (fun ds => sp ((if j = 0 then a else b) :: ds) Q fun _ => False) E
  | _ => False
section
variable {X : Cx} {C : Ct} {W : XW} {e : Expr} {es : List Expr} {t : TP} {u : TPA} {pos p apos py ps pc : Pos} {k l n kk : Nat} {m y : Str} {sp : SpD} {c : EyC}
theorem mono_methE {i j l : Nat} (hu : MonoA l u) (hs : MonoSp n sp) : Mono (wMethE i j sp u) := ⟨fun hq he q => by
  unfold wMethE at q ⊢
  split at q
  · exact hu.imp (fun ds _ z => hs.imp hq (fun _ z => z) z) he q
  · exact q.elim⟩
theorem Sim.obj2 {M : Addr → Prop} {r : Env} {σ : L2.St} {H : Hp} (S : Sim C M r σ H) (ey : C.Eyes2 c) {i : Nat} {a b : D} (h : slot r i = .obj (.tuple [a, b])) : ∃ o e y1 y2, C.T = some (.ob o) ∧ σ[i]? = some (some (.ref e)) ∧ (a = y1.lb ∧ b = y2.lb) ∧ Prt (EyeO C.K C.P C.w c y1) o ∧ Prt (EyeO C.K C.P C.w c y2) o ∧ (¬ M e ∧ H e = some (.tup [.ref y1.e, .ref y2.e])) ∧ o.ok M H ∧ (∀ a, o.reg a → M a) := by
  obtain ⟨o, e, hT, es, hi⟩ := S.tk i (slot_get h (by simp))
  obtain ⟨y1, y2, yl, p1, p2, ht⟩ := ey o hT e _ hi
  have tk := S.base.tok
  unfold Ct.tok at tk
  rw [hT] at tk
  injection yl with yl
  injection yl with z1 yl
  injection yl with z2 _
  exact ⟨o, e, y1, y2, hT, es, ⟨z1, z2⟩, p1, p2, ht M H tk, tk, fun a ra => S.tm (by unfold Ct.inT; rw [hT]; exact ra)⟩
theorem pick_y {M : Addr → Prop} {o : Obj0} {y1 y2 : EyP} {H : Hp} {K : PySem.W.Frag} {P : Program} {w : World} (j : Nat) (p1 : Prt (EyeO K P w c y1) o) (p2 : Prt (EyeO K P w c y2) o) (ok : o.ok M H) : Prt (EyeO K P w c (if j = 0 then y1 else y2)) o ∧ EyeOk K P w c (if j = 0 then y1 else y2) M H := by
  split
  · exact ⟨p1, p1.fw ok⟩
  · exact ⟨p2, p2.fw ok⟩
theorem lb_if {j : Nat} {y1 y2 : EyP} : (if j = 0 then y1 else y2).lb = if j = 0 then y1.lb else y2.lb := by split <;> rfl
theorem ix_two {j : Nat} (hj : j < 2) {y1 y2 : EyP} : atI [V.ref y1.e, V.ref y2.e] (j : Int) = some (.ref (if j = 0 then y1 else y2).e) := by
  rcases j with _ | _ | j
  · rfl
  · rfl
  · omega
theorem dv_methE (i j : Nat) (G : Good X C W k) (ey : C.Eyes2 c) (ek : EyK X.K c) (F : FnM X.prog X.w X.K X.mg X.base l c m n sp) (ha : DAv X C W (e :: es) u) (hjj : j < 2 := by decide) (hj : l ≤ k := by decide) (hN : X.N[i]? = some y := by rfl)
    (hv : Vis X.env.scope y := by first | exact Or.inl rfl | exact Or.inr (Or.inl rfl) | exact Or.inr (Or.inr rfl))
    (hst : starEach (e :: es) X.env = (false, eval e X.env) :: starEach es X.env := by rfl) (hpl : (backTo pos (starEach es X.env)).any (·.1) = false := by rfl)
    {pl : Sem Bool} (ht : eval (.Call (.Attribute (.Subscript (.Name y py) (.Constant (.int (j : Int)) kk pc) ps) m apos) (e :: es) [] pos) X.env = (do
      let ov ← eval (.Subscript (.Name y py) (.Constant (.int (j : Int)) kk pc) ps) X.env
      standAt apos.atName
      let (f, first) ← holding [ov] (getMethod ov m pl)
      callWith pos f first (backTo pos (starEach (e :: es) X.env)) (backToKw pos (keywordEach [] X.env))) := by rfl)
    (hd : (y == ("__debug__" : Str)) = false := by decide) (hcd : (y == ("__classdict__" : Str)) = false := by decide) : DV X C W (.Call (.Attribute (.Subscript (.Name y py) (.Constant (.int (j : Int)) kk pc) ps) m apos) (e :: es) [] pos) (wMethE i j sp u) := by
  refine ⟨?_, mono_methE ha.mo F.mo⟩
  obtain ⟨f, fd, pss, hF, hM, hb⟩ := F.ex
  refine (pe_meth (E := E0) (pl := pl) (pe_ix ix_tup (pe_var (i := i) hN hv hd hcd) pe_int (fun _ _ => rfl)) ek.cl hM hF (G.room.mono hj) hb .nil passes_no ha.pa hst hpl ht).imp fun σ H Q ⟨M, r, E, S, hW, q⟩ => ?_
  unfold wMethE at q
  split at q
  · rename_i a b et
    have FF := G.fit
    obtain ⟨K0, P0, w0, T0, M0, H0⟩ := C
    obtain ⟨z1, z2, z3⟩ := FF
    cases z1; cases z2; cases z3
    obtain ⟨o, ea, y1, y2, hT, eg, ⟨el1, el2⟩, p1, p2, ⟨ent, eht⟩, ok, rm⟩ := S.obj2 ey et
    obtain ⟨pj, okj⟩ := pick_y j p1 p2 ok
    obtain ⟨vr, vg, vs, e1, _⟩ := okj.ex
    refine ⟨_, eg, ea, _, (j : Int), _, rfl, rfl, SqT.of eht, ix_two hjj, _, _, _, rfl, e1, F.nm _ _ _ _ _, M, r, E, S, hW, ha.mo.imp (fun ds _ z us H1 k1 S1 pa => ?_) (fun _ z => z) q⟩
    obtain ⟨o', ea', y1', y2', hT', eg', ⟨el1', el2'⟩, p1', p2', ⟨_, eht'⟩, ok', rm'⟩ := S1.obj2 ey et
    have ee : ea' = ea := by
      have h := eg.symm.trans eg'
      injection h with h
      injection h with h
      injection h with h
      exact h.symm
    subst ee
    have k2 : H1 ea' = some (.tup [.ref y1.e, .ref y2.e]) := k1 _ _ (fun t => ent (S.tm t)) eht
    rw [k2] at eht'
    injection eht' with eht'
    injection eht' with eht'
    injection eht' with z1 eht'
    injection z1 with z1
    injection eht' with z2 _
    injection z2 with z2
    obtain ⟨pj', okj'⟩ := pick_y j p1' p2' ok'
    have ej : (if j = 0 then y1 else y2).e = (if j = 0 then y1' else y2').e := by
      split
      · exact z1
      · exact z2
    have el : (if j = 0 then a else b) = (if j = 0 then y1' else y2').lb := by
      rw [lb_if]
      split
      · exact el1'
      · exact el2'
    rw [el] at z
    rw [List.append_nil, ej]
    refine ⟨M, if j = 0 then y1' else y2', us, ds, rfl, S1.dom, rm' _ (pj'.rg _ (.inl rfl)), rm' _ (pj'.rg _ (.inr rfl)), okj', pa, F.mo.imp (fun d zz v H2 kp ok2 p2 => ?_) (fun _ z => z) z⟩
    obtain ⟨ex2, S2⟩ := S1.turned hT' pj' kp ok2
    exact zz v H2 (k1.trans ex2) S2 p2
  · exact q.elim
theorem dv_methE0 (i j : Nat) (G : Good X C W k) (ey : C.Eyes2 c) (ek : EyK X.K c) (F : FnM X.prog X.w X.K X.mg X.base l c m n sp) (hjj : j < 2 := by decide) (hj : l ≤ k := by decide) (hN : X.N[i]? = some y := by rfl)
    (hv : Vis X.env.scope y := by first | exact Or.inl rfl | exact Or.inr (Or.inl rfl) | exact Or.inr (Or.inr rfl))
    {pl : Sem Bool} (ht : eval (.Call (.Attribute (.Subscript (.Name y py) (.Constant (.int (j : Int)) kk pc) ps) m apos) [] [] pos) X.env = (do
      let ov ← eval (.Subscript (.Name y py) (.Constant (.int (j : Int)) kk pc) ps) X.env
      standAt apos.atName
      let (f, first) ← holding [ov] (getMethod ov m pl)
      callWith pos f first (backTo pos (starEach [] X.env)) (backToKw pos (keywordEach [] X.env))) := by rfl)
    (hd : (y == ("__debug__" : Str)) = false := by decide) (hcd : (y == ("__classdict__" : Str)) = false := by decide) : DV X C W (.Call (.Attribute (.Subscript (.Name y py) (.Constant (.int (j : Int)) kk pc) ps) m apos) [] [] pos) (wMethE i j sp wNil) := by
  refine ⟨?_, mono_methE monoA_nil F.mo⟩
  obtain ⟨f, fd, pss, hF, hM, hb⟩ := F.ex
  refine (pe_meth0 (E := E0) (pl := pl) (pe_ix ix_tup (pe_var (i := i) hN hv hd hcd) pe_int (fun _ _ => rfl)) ek.cl hM hF (G.room.mono hj) hb .nil passes_no ht).imp fun σ H Q ⟨M, r, E, S, hW, q⟩ => ?_
  unfold wMethE at q
  split at q
  · rename_i a b et
    have FF := G.fit
    obtain ⟨K0, P0, w0, T0, M0, H0⟩ := C
    obtain ⟨z1, z2, z3⟩ := FF
    cases z1; cases z2; cases z3
    obtain ⟨o, ea, y1, y2, hT, eg, ⟨el1, el2⟩, p1, p2, ⟨ent, eht⟩, ok, rm⟩ := S.obj2 ey et
    obtain ⟨pj, okj⟩ := pick_y j p1 p2 ok
    obtain ⟨vr, vg, vs, e1, _⟩ := okj.ex
    have el : (if j = 0 then a else b) = (if j = 0 then y1 else y2).lb := by
      rw [lb_if]
      split
      · exact el1
      · exact el2
    have q : sp ((if j = 0 then a else b) :: []) _ fun _ => False := q
    rw [el] at q
    refine ⟨_, eg, ea, _, (j : Int), _, rfl, rfl, SqT.of eht, ix_two hjj, _, _, _, rfl, e1, F.nm _ _ _ _ _, M, if j = 0 then y1 else y2, [], [], rfl, S.dom, rm _ (pj.rg _ (.inl rfl)), rm _ (pj.rg _ (.inr rfl)), okj, .nil, F.mo.imp (fun d zz v H2 kp ok2 p2 => ?_) (fun _ z => z) q⟩
    obtain ⟨ex2, S2⟩ := S.turned hT pj kp ok2
    exact zz v H2 ex2 S2 p2
  · exact q.elim
end
def sEyes (i : Nat) (u1 u2 : TPA) (t : TSD) : TSD := fun e r => (noOwn r ∧ noTok r) ∧ u1 r (fun ds => ∃ rd gd sd d1 d2, ds = [rd, gd, sd] ∧ u2 r (fun ds2 => ∃ rd' gd' sd' d1' d2', ds2 = [rd', gd', sd'] ∧
  t ⟨fun _ => False, e.rt, fun _ => False, fun _ => False, fun r' a => e.ex (r'.map fun _ => Sl.un) a⟩ (r.set i (.obj (.tuple [eyL rd gd sd d1 d2, eyL rd' gd' sd' d1' d2'])))) (e.ex r)) (e.ex r)
section
variable {X : Cx} {C : Ct} {W : XW} {e1 e2 : Expr} {es1 es2 : List Expr} {u1 u2 : TPA} {pos p1 p2 p3 p4 pt : Pos} {k j1 kt : Nat} {x x1 : Str} {c : EyC}
theorem three_of {K : PySem.W.Frag} {P : Program} {w : World} {M : Addr → Prop} {H : Hp} {vs : List V} {a b c : D} (h : RpA K P w M H vs [a, b, c]) : ∃ u v w, vs = [u, v, w] := by
  have := HC.RpA.length h
  match vs, this with
  | [a, b, c], _ => exact ⟨a, b, c, rfl⟩
theorem dss_eyes (i : Nat) {rest : List Stmt} {t : TSD} {pos' : Pos} (G : Good X C W k) (nob : C.NoOb) (I : FnI X.prog X.w X.K X.mg X.base j1 c x1) (ha1 : DAv X C W (e1 :: es1) u1) (ha2 : DAv X C W (e2 :: es2) u2) (hr : ∀ C', Good X C' W k → C'.Eyes2 c → DSs X C' W rest t) (hj1 : j1 + 1 ≤ k := by decide)
    (hg : Gl X x1 := by rfl) (hdb : (x1 == ("__debug__" : Str)) = false := by decide) (he1 : starEach (e1 :: es1) X.env = (false, eval e1 X.env) :: starEach es1 X.env := by rfl) (hpl1 : (backTo p2 (starEach es1 X.env)).any (·.1) = false := by rfl)
    (he2 : starEach (e2 :: es2) X.env = (false, eval e2 X.env) :: starEach es2 X.env := by rfl) (hpl2 : (backTo p4 (starEach es2 X.env)).any (·.1) = false := by rfl)
    (hst : starEach (.Call (.Name x1 p1) (e1 :: es1) [] p2 :: [.Call (.Name x1 p3) (e2 :: es2) [] p4]) X.env = (false, eval (.Call (.Name x1 p1) (e1 :: es1) [] p2) X.env) :: starEach [.Call (.Name x1 p3) (e2 :: es2) [] p4] X.env := by rfl)
    (hst2 : starEach (.Call (.Name x1 p3) (e2 :: es2) [] p4 :: []) X.env = (false, eval (.Call (.Name x1 p3) (e2 :: es2) [] p4) X.env) :: starEach [] X.env := by rfl)
    (hi : X.N[i]? = some x := by rfl) (hx : Loc X.env.scope x := by first | exact Or.inl rfl | exact Or.inr rfl) (hs : swapsWith (.Tuple [.Call (.Name x1 p1) (e1 :: es1) [] p2, .Call (.Name x1 p3) (e2 :: es2) [] p4] kt pt) (some (.Name x pos')) pos.line X.env = pure false := by rfl)
    (hf : X.fn x = true ∨ X.env.scope.names.lookup x = some .local := by first | exact .inl rfl | exact .inr rfl | assumption) :
    DSs X C W (.Assign [.Name x pos'] (.Tuple [.Call (.Name x1 p1) (e1 :: es1) [] p2, .Call (.Name x1 p3) (e2 :: es2) [] p4] kt pt) pos :: rest) (sEyes i u1 u2 t) := by
  obtain ⟨f1, fd1, ps1, hF1, hM1, hm1, hb1⟩ := I.ex
  have mt : MonoS t := (hr C G (eyes2_no nob)).mo
  have pr : PSs X rest (fun De σ H => ∃ C', (Good X C' W k ∧ C'.Eyes2 c) ∧ lS C' W t De σ H) := ⟨fun pins s σ H De I ⟨C', g, q⟩ => (hr C' g.1 g.2).ps.run pins s σ H De I q⟩
  refine ⟨(pss_cons (ps_set G.nd hi hx (pe_tup (pa_cons (pe_make (E := E0) hM1 hF1 (G.room.mono hj1) hg hm1 hb1 .nil passes_no ha1.pa hdb he1 hpl1) (pa_cons (pe_make (E := E0) hM1 hF1 (G.room.mono hj1) hg hm1 hb1 .nil passes_no ha2.pa hdb he2 hpl2) pa_nil hst2) hst)) hs hf) pr).imp fun De σ H ⟨M, r, e, S, f, ⟨no, not⟩, q⟩ => ?_,
    ⟨fun {e e' r} h ⟨no, q⟩ => ⟨no, ha1.mo.imp (fun ds _ ⟨rd, gd, sd, d1, d2, ee, z⟩ => ⟨rd, gd, sd, d1, d2, ee, ha2.mo.imp (fun ds2 _ ⟨rd', gd', sd', d1', d2', ee', z⟩ => ⟨rd', gd', sd', d1', d2', ee', by
      refine mt.imp ?_ z
      exact ⟨fun _ z => z, h.rt, fun _ z => z, fun _ z => z, fun _ c z => h.ex _ c z⟩⟩) (fun c z => h.ex _ c z) z⟩) (fun c z => h.ex _ c z) q⟩⟩⟩
  have Go := G
  have FF := G.fit
  obtain ⟨K0, P0, w0, T0, M0, H0⟩ := C
  obtain ⟨z1, z2, z3⟩ := FF
  cases z1; cases z2; cases z3
  refine ⟨M, r, e.ex r, S, f.wish S, ha1.mo.imp (fun ds _ z vs H1 k1 S1 q1 => ?_) (fun _ z => z) q⟩
  obtain ⟨rd, gd, sd, d1, d2, eds, z⟩ := z
  subst eds
  intro ya dx hy hdx nx
  obtain ⟨vr, vg, vs', ev⟩ := three_of q1
  subst ev
  refine ⟨ya, dx, vr, vg, vs', rfl, upd_same, fun H2 p q o1 o2 hp hq pq kp h1 h2 h3 g1 g2 => ⟨rfl, ?_⟩⟩
  have N := new_eye (c := c) (d1 := d1) (d2 := d2) S1 q1 hy hdx nx hp hq pq kp h1 h2 h3 g1 g2
  refine ⟨mEy M ⟨ya, dx, p, q, rd, gd, sd, d1, d2⟩, r, e.ex r, N.S, N.wish S1 ((f.wish S).mono k1), ha2.mo.imp (fun ds2 _ z vs2 H3 k3 S3 q3 => ?_) (fun _ z => z) z⟩
  obtain ⟨rd', gd', sd', d1', d2', eds, z⟩ := z
  subst eds
  have ok1 := N.more k3
  intro yb dxb hyb hdxb nxb
  obtain ⟨vr2, vg2, vs2', ev⟩ := three_of q3
  subst ev
  refine ⟨yb, dxb, vr2, vg2, vs2', rfl, upd_same, fun H4 pb qb o3 o4 hpb hqb pqb kpb h1b h2b h3b g1b g2b => ⟨rfl, ?_⟩⟩
  have N2 := new_eye (c := c) (d1 := d1') (d2 := d2') S3 q3 hyb hdxb nxb hpb hqb pqb kpb h1b h2b h3b g1b g2b
  generalize hY1 : (⟨ya, dx, p, q, rd, gd, sd, d1, d2⟩ : EyP) = y1 at N ok1 S3 q3 N2
  generalize hY2 : (⟨yb, dxb, pb, qb, rd', gd', sd', d1', d2'⟩ : EyP) = y2 at N2
  have e1 : y1.e = ya := by rw [← hY1]
  have e2 : y2.e = yb := by rw [← hY2]
  have l1 : y1.lb = eyL rd gd sd d1 d2 := by rw [← hY1]; rfl
  have l2 : y2.lb = eyL rd' gd' sd' d1' d2' := by rw [← hY2]; rfl
  have ap : Apart y1 y2 := fun a r1 r2 => by
    have n3 : H3 a = none := by
      rcases r2 with rfl | rfl
      · exact N2.np.1
      · exact N2.np.2.1
    exact ok1.rg r1 n3
  refine ⟨le1000 (by show 2 ≤ 1000; decide), fun ta hta => ?_⟩
  have sm5 : Same H4 (upd H4 ta (.tup [.ref ya, .ref yb])) := same_upd hta
  have nM : ¬ mEy (mEy M y1) y2 ta := fun m => N2.S.dom ta m hta
  have S5 := N2.S.same sm5
  have ok1' : EyeOk X.K X.prog X.w c y1 (mEy (mEy M y1) y2) (upd H4 ta (.tup [.ref ya, .ref yb])) := by
    refine EyeOk.step (M := mEy M y1) (H := H3) (fun a o ea m => ⟨sm5 a o (N2.sm a o ea), fun zz => ?_⟩) (fun a ra => ?_) ok1
    · rcases zz with zz | zz | zz
      · exact m zz
      · exact ne_of_none ea N2.np.1 zz
      · exact ne_of_none ea N2.np.2.1 zz
    · cases qa : H3 a with
      | none => exact absurd qa (ok1.rg ra)
      | some o => exact sm5 a o (N2.sm a o qa)
  have ok2' : EyeOk X.K X.prog X.w c y2 (mEy (mEy M y1) y2) (upd H4 ta (.tup [.ref ya, .ref yb])) := by
    refine EyeOk.step (Stp.grow sm5) (fun a ra => ?_) N2.ok
    cases qa : H4 a with
    | none => exact absurd qa (N2.ok.rg ra)
    | some o => exact sm5 a o qa
  have ok5 : TwoOk X.K X.prog X.w c y1 y2 ta (mEy (mEy M y1) y2) (upd H4 ta (.tup [.ref ya, .ref yb])) := ⟨ok1', ok2', nM, by rw [upd_same, e1, e2]⟩
  have fr1 : ∀ {a o}, H1 a = some o → ¬ (y1.rg a ∨ y2.rg a) := fun {a o} ea zz => by
    rcases zz with (rfl | rfl) | r2
    · exact ne_of_none ea N.np.1 rfl
    · exact ne_of_none ea N.np.2.1 rfl
    · have n3 : H3 a = none := by
        rcases r2 with rfl | rfl
        · exact N2.np.1
        · exact N2.np.2.1
      by_cases ti : Ct.inT ⟨X.K, X.prog, X.w, T0, M0, H0⟩ a
      · exact S3.dom a (S3.tm ti) n3
      · rw [k3 a o ti (N.sm a o ea)] at n3
        cases n3
  have keep5 : ∀ a o, ¬ Ct.inT ⟨X.K, X.prog, X.w, T0, M0, H0⟩ a → H1 a = some o → upd H4 ta (.tup [.ref ya, .ref yb]) a = some o := fun a o ni ea => sm5 a o (N2.sm a o (k3 a o ni (N.sm a o ea)))
  have nM2 : ∀ {a}, mEy (mEy M y1) y2 a → M a ∨ y1.rg a ∨ y2.rg a := fun {a} m => by
    rcases m with (m | m | m) | m | m
    · exact .inl m
    · exact .inr (.inl (.inl m))
    · exact .inr (.inl (.inr m))
    · exact .inr (.inr (.inl m))
    · exact .inr (.inr (.inr m))
  have st1 : Stp M H (mEy (mEy M y1) y2) (upd H4 ta (.tup [.ref ya, .ref yb])) := fun a o ea m => by
    have ni : ¬ Ct.inT ⟨X.K, X.prog, X.w, T0, M0, H0⟩ a := fun t => m (S.tm t)
    have e1 := k1 a o ni ea
    exact ⟨keep5 a o ni e1, fun zz => (nM2 zz).elim m fun zz => fr1 e1 zz⟩
  have back : ∀ {M' : Addr → Prop} {r' : Env} {σ' : L2.St} {H' : Hp}, Sim ⟨X.K, X.prog, X.w, some (.ob (TwoO X.K X.prog X.w c y1 y2 ta)), mEy (mEy M y1) y2, upd H4 ta (.tup [.ref ya, .ref yb])⟩ M' r' σ' H' → Sim ⟨X.K, X.prog, X.w, T0, M0, H0⟩ M' (r'.map fun _ => Sl.un) σ' H' := fun {M' r' σ' H'} S' => by
    have kk5 : ∀ a o, ¬ (y1.rg a ∨ y2.rg a) → upd H4 ta (.tup [.ref ya, .ref yb]) a = some o → H' a = some o := fun a o n ea => S'.base.keep a o (fun t => n t) ea
    refine ⟨by rw [List.length_map]; exact S'.len, fun j d z => (by cases no_un z), fun j d z => (by cases no_un z), fun j b d d' a z _ _ _ => (by cases no_un z), fun j z => (by cases no_un z; exact trivial), ⟨fun a o na ea => ?_, ?_⟩, fun a m => S'.m0 a (.inl (.inl (S.m0 a m))), S'.dom, S.inm⟩
    · have e1 := S1.base.keep a o na ea
      exact kk5 a o (fr1 e1) (keep5 a o na e1)
    · have tk3 := S3.base.tok
      have nr : ∀ a, Ct.inT ⟨X.K, X.prog, X.w, T0, M0, H0⟩ a → ¬ (y1.rg a ∨ y2.rg a) := fun a ti zz => by
        rcases zz with (rfl | rfl) | r2
        · exact N.nt.1 ti
        · exact N.nt.2 ti
        · rcases r2 with rfl | rfl
          · exact N2.nt.1 ti
          · exact N2.nt.2 ti
      have kk3 : ∀ a o, ¬ (y1.rg a ∨ y2.rg a) → H3 a = some o → H' a = some o := fun a o n ea => kk5 a o n (sm5 a o (N2.sm a o ea))
      refine tok_any nob (tok_step (C := ⟨X.K, X.prog, X.w, T0, M0, H0⟩) (M := fun a => y1.rg a ∨ y2.rg a) (H := H3) (M' := fun a => y1.rg a ∨ y2.rg a) (fun a o ea m => ⟨kk3 a o m ea, m⟩) (fun a ti => ?_) (tok_any nob tk3))
      cases qa : H3 a with
      | none => exact absurd qa (S3.dom a (S3.tm ti))
      | some o => exact kk3 a o (nr a ti) qa
  refine ⟨⟨X.K, X.prog, X.w, some (.ob (TwoO X.K X.prog X.w c y1 y2 ta)), mEy (mEy M y1) y2, upd H4 ta (.tup [.ref ya, .ref yb])⟩, ⟨Go.at ⟨rfl, rfl, rfl⟩, fun o z => by cases z; exact eyes_two ap⟩, mEy (mEy M y1) y2, _, _, ?_, ?_, z⟩
  · rw [← l1, ← l2]
    have hil : ∀ {l : Sl}, (r.set i l).length = r.length := fun {l} => List.length_set ..
    have cs : ∀ {j : Nat} {s : Sl}, (r.set i (.obj (.tuple [y1.lb, y2.lb])))[j]? = some s → (j = i ∧ s = .obj (.tuple [y1.lb, y2.lb]) ∧ i < r.length) ∨ (j ≠ i ∧ r[j]? = some s) := fun {j s} h => by
      by_cases hj : i = j
      · subst hj
        by_cases hl : i < r.length
        · rw [List.getElem?_set_self hl] at h
          cases h
          exact .inl ⟨rfl, rfl, hl⟩
        · rw [List.getElem?_eq_none (by rw [hil]; omega)] at h; cases h
      · rw [List.getElem?_set_ne hj] at h
        exact .inr ⟨Ne.symm hj, h⟩
    refine ⟨by rw [List.length_set, List.length_set]; exact S.len, fun j d h => ?_, fun j d h => ?_, fun j b d d' a h _ _ _ => ?_, fun j h => ?_, ⟨Ct.Ex.refl, ok5⟩, fun _ h => h, S5.dom, fun a h => ?_⟩
    · rcases cs h with ⟨_, h, _⟩ | ⟨nj, h⟩
      · cases h
      · obtain ⟨v, v1, v2⟩ := S5.val j d h
        exact ⟨v, by rw [List.getElem?_set_ne (Ne.symm nj)]; exact v1, v2⟩
    · rcases cs h with ⟨_, h, _⟩ | ⟨nj, h⟩
      · cases h
      · exact absurd h (no j d)
    · rcases cs h with ⟨_, h, _⟩ | ⟨nj, h⟩
      · cases h
      · exact absurd h (no j d)
    · rename_i s'
      rcases cs h with ⟨hj, g, hl⟩ | ⟨nj, g⟩
      · rw [g, hj]
        refine ⟨_, ta, rfl, ?_, rfl, rfl⟩
        rw [List.getElem?_set_self (by rw [S.len]; exact hl)]
      · clear h
        cases s' with
        | un => exact trivial
        | val d => exact trivial
        | own d => exact trivial
        | tok => exact absurd g (not j)
        | obj d =>
          obtain ⟨o, e', hT, _⟩ := S.tk j g
          exact absurd hT (nob o)
    · have h : y1.rg a ∨ y2.rg a := h
      rcases h with h | h
      · exact .inl (.inr h)
      · exact .inr h
  · refine ⟨fun _ _ _ _ _ _ z => z.elim, fun M' r' σ' H' v d S' p' z => ?_, fun _ _ _ _ _ _ z => z.elim, fun _ _ _ _ _ _ z => z.elim, fun M' r' σ' H' a st' S' z => ?_⟩
    · exact f.rt M' _ σ' H' v d (back S') p' z
    · exact f.ex M' _ σ' H' a (st1.trans st') (back S') z
end
end HC
namespace HC
section
variable {V : Type} [DecidableEq V] {E : V → Int → V → Prop} {S : List V} {fs : V} {p : Int} {q : Nat}
structure Pot (E : V → Int → V → Prop) (fs : V) (p : Int) (q : Nat) (s : V) (v : Int) : Prop where
  at' : ∃ t d, Wk E t fs s d ∧ v = d * (q : Int) - p * (t : Int)
  up : ∀ m d, Wk E m fs s d → d * (q : Int) - p * (m : Int) ≤ v
theorem Pot.one {s : V} {v v' : Int} (a : Pot E fs p q s v) (b : Pot E fs p q s v') : v = v' := by
  obtain ⟨t, d, w, e⟩ := a.at'
  obtain ⟨t', d', w', e'⟩ := b.at'
  have := b.up t d w
  have := a.up t' d' w'
  omega
theorem step_val {d c : Int} {t : Nat} : (d + c) * (q : Int) - p * ((t + 1 : Nat) : Int) = (d * (q : Int) - p * (t : Int)) + (c * (q : Int) - p) := by
  rw [Int.add_mul, Int.natCast_add, Int.mul_add]
  simp only [Int.natCast_one, Int.mul_one]
  omega
theorem Pot.step {s a : V} {v v' c : Int} (h : Pot E fs p q s v) (e : E s c a) (h' : Pot E fs p q a v') : v + (c * (q : Int) - p) ≤ v' := by
  obtain ⟨t, d, w, ev⟩ := h.at'
  have := h'.up _ _ (w.snoc e)
  rw [step_val] at this
  omega
theorem wk_tight (N : Net E S fs) {n : Nat} {s a : V} {d : Int} (w : Wk E n s a d) {vs va : Int} (hs : Pot E fs p q s vs) (ha : Pot E fs p q a va) : vs + (d * (q : Int) - p * (n : Int)) ≤ va := by
  obtain ⟨t, d', w', e⟩ := hs.at'
  have := ha.up _ _ (w'.app w)
  rw [Int.add_mul, Int.natCast_add, Int.mul_add] at this
  omega
theorem round_tight (N : Net E S fs) {n m : Nat} {s a : V} {d e : Int} (w1 : Wk E n s a d) (w2 : Wk E m a s e) (h : (d + e) * (q : Int) = p * ((n + m : Nat) : Int)) {vs va : Int} (hs : Pot E fs p q s vs) (ha : Pot E fs p q a va) : va = vs + (d * (q : Int) - p * (n : Int)) := by
  have h1 := wk_tight N w1 hs ha
  have h2 := wk_tight N w2 ha hs
  rw [Int.add_mul, Int.natCast_add, Int.mul_add] at h
  omega
end
end HC
namespace HC
section
variable {V : Type} [DecidableEq V] {E : V → Int → V → Prop} {S : List V} {fs : V} {p : Int} {q : Nat}
theorem lkp_putL {α β : Type} [DecidableEq α] (l : List (α × β)) (a s : α) (b : β) : lkp (putL l a b) s = if a = s then some b else lkp l s := by
  unfold putL
  cases h : lkp l a with
  | none =>
    rw [if_neg (by simp)]
    induction l with
    | nil => by_cases e : a = s <;> simp [lkp, e]
    | cons x l ih =>
      have hx : x.1 ≠ a := fun z => by simp [lkp, z] at h
      have hl : lkp l a = none := by simpa [lkp, hx] using h
      rw [List.cons_append]
      by_cases e : x.1 = s
      · have : a ≠ s := fun z => hx (e.trans z.symm)
        simp [lkp, e, this]
      · simp only [lkp, if_neg e]
        exact ih hl
  | some v =>
    rw [if_pos (show (some v).isSome = true from rfl)]
    have key : ∀ l : List (α × β), lkp (l.map fun p => if p.1 = a then (p.1, b) else p) s = if a = s then (lkp l s).map (fun _ => b) else lkp l s := by
      intro l
      induction l with
      | nil => by_cases e : a = s <;> simp [lkp, e]
      | cons x l ih =>
        rw [List.map_cons]
        by_cases hx : x.1 = a
        · by_cases e : a = s
          · simp [lkp, hx, e]
          · have : x.1 ≠ s := fun z => e (hx.symm.trans z)
            simp only [lkp, hx, if_true, if_neg e] at ih ⊢
            exact ih
        · by_cases e : x.1 = s
          · have h1 : a ≠ s := fun z => hx (e.trans z.symm)
            rw [if_neg hx, if_neg h1]
            simp only [lkp, if_pos e]
          · simp only [lkp, if_neg hx, if_neg e] at ih ⊢
            exact ih
    rw [key]
    by_cases e : a = s
    · subst e
      rw [if_pos rfl, if_pos rfl, h]
      rfl
    · rw [if_neg e, if_neg e]
abbrev Val (E : V → Int → V → Prop) (fs : V) (p : Int) (q : Nat) (s : V) (v : Int) : Prop := ∃ t d, Wk E t fs s d ∧ v = d * (q : Int) - p * (t : Int)
def Lvl (E : V → Int → V → Prop) (fs : V) (p : Int) (q : Nat) (t : Nat) (L : List (V × Int)) : Prop := ∀ m d s, m ≤ t → Wk E m fs s d → ∃ v, lkp L s = some v ∧ d * (q : Int) - p * (m : Int) ≤ v
structure Swp (E : V → Int → V → Prop) (S : List V) (fs : V) (p : Int) (q : Nat) (t : Nat) (L0 : List (V × Int)) (dn : List (V × Int × V)) (L : List (V × Int)) (chg : Bool) : Prop where
  lv : Lvl E fs p q t L0
  nd : (L.map (·.1)).Nodup
  at' : ∀ s v, lkp L s = some v → Val E fs p q s v
  up : ∀ s v0, lkp L0 s = some v0 → ∃ v, lkp L s = some v ∧ v0 ≤ v
  rl : ∀ x ∈ dn, ∀ v0, lkp L0 x.1 = some v0 → ∃ va, lkp L x.2.2 = some va ∧ v0 + (x.2.1 * (q : Int) - p) ≤ va
  no : chg = false → L = L0
  ch : chg = true → t < S.length
theorem Swp.init {t : Nat} {L0 : List (V × Int)} (lv : Lvl E fs p q t L0) (nd : (L0.map (·.1)).Nodup) (at' : ∀ s v, lkp L0 s = some v → Val E fs p q s v) : Swp E S fs p q t L0 [] L0 false :=
  ⟨lv, nd, at', fun s v h => ⟨v, h, Int.le_refl _⟩, fun x hx => (by cases hx), fun _ => rfl, fun z => (by cases z)⟩
theorem putL_nd {α β : Type} [DecidableEq α] {l : List (α × β)} {a : α} {b : β} (h : (l.map (·.1)).Nodup) : ((putL l a b).map (·.1)).Nodup := by
  unfold putL
  split
  · rw [List.map_map]
    have e : l.map ((fun x => x.1) ∘ fun p : α × β => if p.1 = a then (p.1, b) else p) = l.map (·.1) := by
      refine List.map_congr_left fun x _ => ?_
      show (if x.1 = a then (x.1, b) else x).1 = x.1
      split <;> rfl
    rw [e]
    exact h
  · rename_i hn
    have hn' : a ∉ l.map (·.1) := by
      have := hn
      rw [lkp_some] at this
      simpa using this
    rw [List.map_append, List.nodup_append]
    refine ⟨h, by simp, fun x hx y hy => ?_⟩
    simp at hy
    subst hy
    intro z
    exact hn' (z ▸ hx)
variable {t : Nat} {L0 L : List (V × Int)} {dn : List (V × Int × V)} {chg : Bool}
theorem Swp.stay (W : Swp E S fs p q t L0 dn L chg) {u a : V} {c vu va : Int} (hu : lkp L u = some vu) (ha : lkp L a = some va) (h : vu + (c * (q : Int) - p) ≤ va) : Swp E S fs p q t L0 ((u, c, a) :: dn) L chg := by
  refine ⟨W.lv, W.nd, W.at', W.up, fun x hx v0 h0 => ?_, W.no, W.ch⟩
  rcases List.mem_cons.mp hx with rfl | hx
  · obtain ⟨v, h1, h2⟩ := W.up u v0 h0
    rw [hu] at h1
    cases h1
    exact ⟨va, ha, by show v0 + (c * (q : Int) - p) ≤ va; omega⟩
  · exact W.rl x hx v0 h0
end
end HC
namespace HC
section
variable (r : Rm) (g : Rg)
def endS (s : Sta) (ws : List Int) : Sta := ws.foldl (tick r g) s
def onC : Sta → List Int → Int
  | _, [] => 0
  | s, w :: ws => (tick r g s w).2.1 + onC (tick r g s w) ws
theorem endS_cons (s : Sta) (w : Int) (ws : List Int) : endS r g s (w :: ws) = endS r g (tick r g s w) ws := rfl
theorem endS_app (s : Sta) (ws vs : List Int) : endS r g s (ws ++ vs) = endS r g (endS r g s ws) vs := List.foldl_append ..
theorem onC_app : ∀ (ws : List Int) (s : Sta) (vs : List Int), onC r g s (ws ++ vs) = onC r g s ws + onC r g (endS r g s ws) vs
  | [], s, vs => by rw [List.nil_append]; show _ = 0 + onC r g s vs; omega
  | w :: ws, s, vs => by
    rw [List.cons_append, onC, onC, onC_app ws, endS_cons]
    omega
def repS (ws : List Int) : Nat → Sta
  | 0 => first r
  | n + 1 => endS r g (repS ws n) ws
def cnt (ws : List Int) : Nat → Int
  | 0 => 0
  | n + 1 => cnt ws n + onC r g (repS r g ws n) ws
variable {r g}
structure Rep (r : Rm) (g : Rg) (ws : List Int) (b n : Nat) : Prop where
  lt : b < n
  eq : repS r g ws b = repS r g ws n
  nw : ∀ i j, i < j → j < n → repS r g ws i ≠ repS r g ws j
theorem Rep.one {ws : List Int} {b n b' n' : Nat} (h : Rep r g ws b n) (h' : Rep r g ws b' n') : b = b' ∧ n = n' := by
  have nn : n = n' := by
    rcases Nat.lt_trichotomy n n' with c | c | c
    · exact absurd h.eq (h'.nw b n h.lt c)
    · exact c
    · exact absurd h'.eq (h.nw b' n' h'.lt c)
  subst nn
  refine ⟨?_, rfl⟩
  have e := h.eq.trans h'.eq.symm
  have := h.lt
  have := h'.lt
  rcases Nat.lt_trichotomy b b' with c | c | c
  · exact absurd e (h.nw b b' c h'.lt)
  · exact c
  · exact absurd e.symm (h.nw b' b c h.lt)
end
end HC
namespace HC
open PySem PySem.Spec PyProof.Rows L2
def sp_greatest_share (x : Xc) : SpD := spEx (fun a : D × D => [a.1, a.2]) (fun a => a.1.plain = true ∧ a.2.plain = true) (fun a => onRg x a.1 a.2 fun r g => .ok (frD (bestL r g .on)))
theorem mo_greatest_share (x : Xc) : MonoSp 2 (sp_greatest_share x) := mo_spEx fun _ => rfl
structure PotL (r : Rm) (g : Rg) (k : Rk) (p : Int) (q : Nat) (L : List (Sta × Int)) : Prop where
  nd : (L.map (·.1)).Nodup
  all : ∀ s ∈ keysL r g, ∃ v, lkp L s = some v ∧ Pot (road r g k) (first r) p q s v
def kC (r : Rm) (g : Rg) (k : Rk) : Sta → List Int → Int
  | _, [] => 0
  | s, w :: ws => rcnt k s (tick r g s w) + kC r g k (tick r g s w) ws
theorem kC_app (r : Rm) (g : Rg) (k : Rk) : ∀ (ws : List Int) (s : Sta) (vs : List Int), kC r g k s (ws ++ vs) = kC r g k s ws + kC r g k (endS r g s ws) vs
  | [], s, vs => by rw [List.nil_append]; show _ = 0 + kC r g k s vs; omega
  | w :: ws, s, vs => by
    rw [List.cons_append, kC, kC, kC_app r g k ws, endS_cons]
    omega
structure TightR (r : Rm) (g : Rg) (k : Rk) (p q : Nat) (s : Sta) (ws : List Int) : Prop where
  ne : ws ≠ []
  wd : Wd ws
  len : ws.length ≤ 62
  back : endS r g s ws = s
  cnt : kC r g k s ws * (q : Int) = (p : Int) * (ws.length : Int)
def OnBest (r : Rm) (g : Rg) (k : Rk) (p q : Nat) (s : Sta) : Prop := ∃ m d, 1 ≤ m ∧ Wk (road r g k) m s s d ∧ d * (q : Int) = (p : Int) * (m : Int)
structure RfA where
  r : Rm
  g : Rg
  k : Rk
  p : Nat
  q : Nat
  L : List (Sta × Int)
  s : Sta
end HC
namespace HC
open PySem PySem.Spec PyProof.Rows L2
def t_greatest_share (x : Xc) : TSD :=
  sSeq (sExpr (wCall (sp_check_regulator x) (wCons (wVar 0) (wCons (wVar 1) wNil))))
    (sRet (wCall sp_greatest_of (wCons (wCall sp_roads_of (wCons (wVar 0) (wCons (wVar 1) (wCons (wC (.str "on")) wNil)))) (wCons (wCall sp_first_state (wCons (wVar 0) wNil)) wNil))))
end HC
namespace HC
open PySem PySem.Spec PyProof.Rows L2
local macro_rules | `(tactic| walk_at "ds") => `(tactic| try simp only [endD, startD, startT, endLaw, startLaw, List.map_cons, List.map_nil, List.length_cons, List.length_nil, List.replicate, List.cons_append, List.nil_append, Nat.reduceSub, Nat.reduceAdd, sSeq, sRet, sIf, sNil, sAsg, sUnp, sExpr, sPar2, sPar3, xCons, xNil, xVal, xOwn, bTest, bNot, bAnd, bOr, wVar, wPeek, slot, wC, wOp2, wB, wM, wCons, wNil, wTup, wLst, wIf, wAnd, wOr, wNot, wNeg, wCall, wCallT, wSl, wPart, wNoPart, List.set, ex1, gT_t, gT_st, gT_pr, gC_c, gN_c, gNil_c, sRaise, wChain, sFrz, frz, wIsi, wTabIn, wTabAt, sAug, wipeD, En.lp, loopW_nil, d_WEATHERS, ds_WEATHERS, wDisp1, wNewT, wComp, iSeq, iRange, gList_l, sFor, Bool.false_eq_true, if_false, if_true,
  fAdd_i, fAdd_s, fAdd_l, fAdd_t, fAddL_l, fSub_i, fLt_i, fLe_i, fGt_i, fGe_i, fEq_i, fNe_i, fIs_b, fIsN_b, fIs_nn, fIs_in, fIs_ln, fIs_tn, fIsN_nn, fIsN_in, fIsN_ln, fIsN_tn, gMin_2, gMax_2, gLen_l, gLen_t, fIx_rm0, fIx_rm1, fIx_rm2, fIx_st0, fIx_st1, fIx_st2, fIx_rg0, fIx_rg1, fIx_rg2, fSl_rg, fEq_gap, fEq_stay, fEq_late, fEq_look, fEq_lean])
theorem sem_greatest_share (x : Xc) : ∀ ds Q E, sp_greatest_share x ds Q E → t_greatest_share x (endD Q E) (startD 2 ds) := by
  rintro _ Q E ⟨⟨a, b⟩, rfl, ⟨h1, h2⟩, q⟩
  replace q : outE Q E (onRg x a b fun r g => .ok (frD (bestL r g .on))) := q
  unfold t_greatest_share
  refine seq_g fun n1 g1 => ?_
  walk_at "ds"
  refine on_rg h1 h2 q fun r g ok gk ea eb q1 => g1 _ ?_
  clear q
  subst ea eb
  walk_at "ds"
  refine in_roads (k := .on) ok gk ?_
  refine in_first ?_
  exact in_greatest ok gk q1
end HC
namespace HC
open PySem PySem.Spec PyProof.Rows L2
section
variable {r : Rm} {g : Rg} {k : Rk} {p q : Nat} {L : List (Sta × Int)} {b : Sta}
def hv (L : List (Sta × Int)) (s : Sta) : Int := (lkp L s).getD 0
theorem PotL.at (P : PotL r g k p q L) {s : Sta} (hs : s ∈ keysL r g) : lkp L s = some (hv L s) ∧ Pot (road r g k) (first r) (p : Int) q s (hv L s) := by
  obtain ⟨v, e, h⟩ := P.all s hs
  unfold hv
  rw [e]
  exact ⟨rfl, h⟩
def tgt (r : Rm) (g : Rg) (k : Rk) (p q : Nat) (L : List (Sta × Int)) (s : Sta) (w : Int) : Prop := hv L (tick r g s w) = hv L s + rcnt k s (tick r g s w) * (q : Int) - (p : Int)
instance {s : Sta} {w : Int} : Decidable (tgt r g k p q L s w) := inferInstanceAs (Decidable (_ = _))
structure TR (r : Rm) (g : Rg) (k : Rk) (p q : Nat) (L : List (Sta × Int)) (b : Sta) (x : Sta × List Int) : Prop where
  key : x.1 ∈ keysL r g
  wd : Wd x.2
  en : endS r g b x.2 = x.1
  ev : hv L x.1 = hv L b + (kC r g k b x.2 * (q : Int) - (p : Int) * (x.2.length : Int))
theorem TR.next (ok : r.Ok) (gk : g.Ok r.top) {x : Sta × List Int} (h : TR r g k p q L b x) {w : Int} (w1 : 1 ≤ w) (w3 : w ≤ 3) (t : tgt r g k p q L x.1 w) : TR r g k p q L b (tick r g x.1 w, x.2 ++ [w]) := by
  have e := h.ev
  refine ⟨rows_closed ok gk h.key w1 w3, fun v hv => ?_, ?_, ?_⟩
  · rcases List.mem_append.mp hv with hv | hv
    · exact h.wd v hv
    · cases List.mem_singleton.mp hv
      exact ⟨w1, w3⟩
  · show endS r g b (x.2 ++ [w]) = _
    rw [endS_app, h.en]
    rfl
  · show hv L (tick r g x.1 w) = _
    unfold tgt at t
    show _ = hv L b + (kC r g k b (x.2 ++ [w]) * (q : Int) - (p : Int) * ((x.2 ++ [w]).length : Int))
    rw [kC_app, h.en]
    have z : kC r g k x.1 [w] = rcnt k x.1 (tick r g x.1 w) := by
      show _ + (0 : Int) = _
      omega
    rw [z, t, e, List.length_append, show ([w] : List Int).length = 1 from rfl, step_val]
    omega
theorem TR.round {x : Sta × List Int} (h : TR r g k p q L b x) (e : x.1 = b) (ne : x.2 ≠ []) (hl : x.2.length ≤ 62) : TightR r g k p q b x.2 := by
  have ev := h.ev
  rw [e] at ev
  exact ⟨ne, h.wd, hl, h.en.trans e, by omega⟩
theorem no_round (ok : r.Ok) (gk : g.Ok r.top) (P : PotL r g k p q L) {K : List Sta} (cl : ∀ s, s = b ∨ s ∈ K → ∀ w, 1 ≤ w → w ≤ 3 → tgt r g k p q L s w → tick r g s w ≠ b ∧ tick r g s w ∈ K) : ¬ OnBest r g k p q b := by
  rintro ⟨m, d, m1, wk, e⟩
  have N := road_net (k := k) ok gk
  obtain ⟨f, c, f0, fm, c0, cm, st⟩ := wk.path
  have hb : b ∈ keysL r g := by
    obtain ⟨hb, _⟩ := st 0 m1
    rw [f0] at hb
    exact hb
  have key : ∀ i, i ≤ m → f i ∈ keysL r g := fun i hi => by
    have w1 := Wk.of st 0 i (by omega)
    rw [Nat.zero_add, f0] at w1
    exact w1.stay N.cl hb
  have tight : ∀ i, i ≤ m → hv L (f i) = hv L b + (c i * (q : Int) - (p : Int) * (i : Int)) := fun i hi => by
    have w1 := Wk.of st 0 i (by omega)
    have w2 := Wk.of st i (m - i) (by omega)
    rw [Nat.zero_add, f0, c0] at w1
    rw [show i + (m - i) = m by omega, fm, cm] at w2
    have := round_tight N w1 w2 (p := (p : Int)) (q := q) (by rw [show c i - 0 + (d - c i) = d by omega, show i + (m - i) = m by omega]; exact e) (P.at hb).2 (P.at (key i hi)).2
    rw [this, Int.sub_zero]
  have inT : ∀ i, i < m → f i = b ∨ f i ∈ K := by
    intro i
    induction i with
    | zero => intro _; exact .inl f0
    | succ i ih =>
      intro hi
      obtain ⟨_, w, w1, w3, ea, ec⟩ := st i (by omega)
      have t1 := tight i (by omega)
      have t2 := tight (i + 1) (by omega)
      have tg : tgt r g k p q L (f i) w := by
        unfold tgt
        rw [← ea, ← ec, t1, t2, Int.sub_mul, Int.natCast_add, Int.mul_add]
        simp only [Int.natCast_one, Int.mul_one]
        omega
      rw [ea]
      exact .inr (cl (f i) (ih (by omega)) w w1 w3 tg).2
  obtain ⟨_, w, w1, w3, ea, ec⟩ := st (m - 1) (by omega)
  rw [show m - 1 + 1 = m by omega] at ea ec
  have t1 := tight (m - 1) (by omega)
  have t2 := tight m (by omega)
  have tg : tgt r g k p q L (f (m - 1)) w := by
    unfold tgt
    rw [← ea, ← ec, t1, t2, Int.sub_mul]
    have : ((m - 1 : Nat) : Int) = (m : Int) - 1 := by omega
    rw [this, Int.mul_sub]
    simp only [Int.mul_one]
    omega
  have := (cl _ (inT (m - 1) (by omega)) w w1 w3 tg).1
  rw [← ea, fm] at this
  exact this rfl
structure Bf (r : Rm) (g : Rg) (k : Rk) (p q : Nat) (L : List (Sta × Int)) (b : Sta) (F : List (Sta × List Int)) (K : List Sta) (h : Nat) (done : List Int) : Prop where
  ks : F.map (·.1) = b :: K
  nd : K.Nodup
  tr : ∀ x ∈ F, TR r g k p q L b x
  ln : ∀ (i : Nat) (x : Sta × List Int), F[i]? = some x → x.2.length ≤ i
  cl : ∀ (i : Nat) (x : Sta × List Int), i < h → F[i]? = some x → ∀ w, 1 ≤ w → w ≤ 3 → tgt r g k p q L x.1 w → tick r g x.1 w ≠ b ∧ tick r g x.1 w ∈ K
  dn : ∀ (x : Sta × List Int), F[h]? = some x → ∀ w ∈ done, tgt r g k p q L x.1 w → tick r g x.1 w ≠ b ∧ tick r g x.1 w ∈ K
variable {F : List (Sta × List Int)} {K : List Sta} {h : Nat} {done : List Int}
theorem Bf.start (hb : b ∈ keysL r g) : Bf r g k p q L b [(b, [])] [] 0 [] := by
  refine ⟨rfl, by simp, fun x hx => ?_, fun i x hx => ?_, fun i x hi => absurd hi (Nat.not_lt_zero _), fun x _ w hw => (by cases hw)⟩
  · cases List.mem_singleton.mp hx
    exact ⟨hb, fun w hw => (by cases hw), rfl, by simp [kC]⟩
  · cases i with
    | zero => cases hx; simp
    | succ i => simp at hx
theorem Bf.few (ok : r.Ok) (gk : g.Ok r.top) (B : Bf r g k p q L b F K h done) : F.length ≤ 62 ∧ K.length ≤ 61 := by
  have l := congrArg List.length B.ks
  rw [List.length_map, List.length_cons] at l
  have := sub_len K (keysL r g) B.nd fun s hs => by
    have m : s ∈ F.map (·.1) := by rw [B.ks]; exact List.mem_cons_of_mem _ hs
    obtain ⟨x, hx, rfl⟩ := List.mem_map.mp m
    exact (B.tr x hx).key
  have := keys_len ok gk
  omega
theorem Bf.skip (B : Bf r g k p q L b F K h done) {x : Sta × List Int} (hx : F[h]? = some x) {w : Int} (c : tgt r g k p q L x.1 w → tick r g x.1 w ≠ b ∧ tick r g x.1 w ∈ K) : Bf r g k p q L b F K h (done ++ [w]) := by
  refine ⟨B.ks, B.nd, B.tr, B.ln, B.cl, fun y hy v hv t => ?_⟩
  rcases List.mem_append.mp hv with hv | hv
  · exact B.dn y hy v hv t
  · cases List.mem_singleton.mp hv
    rw [hx] at hy
    cases hy
    exact c t
theorem Bf.grow (ok : r.Ok) (gk : g.Ok r.top) (B : Bf r g k p q L b F K h done) {x : Sta × List Int} (hx : F[h]? = some x) {w : Int} (w1 : 1 ≤ w) (w3 : w ≤ 3) (t : tgt r g k p q L x.1 w) (nb : tick r g x.1 w ≠ b) (nk : tick r g x.1 w ∉ K) : Bf r g k p q L b (F ++ [(tick r g x.1 w, x.2 ++ [w])]) (K ++ [tick r g x.1 w]) h (done ++ [w]) := by
  have hl := (List.getElem?_eq_some_iff.mp hx).1
  have old : ∀ {i : Nat} {y : Sta × List Int}, i ≤ h → (F ++ [(tick r g x.1 w, x.2 ++ [w])])[i]? = some y → F[i]? = some y := fun {i y} hi e => by
    rw [List.getElem?_append_left (by omega)] at e
    exact e
  refine ⟨by rw [List.map_append, B.ks]; rfl, ?_, fun y hy => ?_, fun i y hy => ?_, fun i y hi hy v v1 v3 tv => ?_, fun y hy v hv tv => ?_⟩
  · rw [List.nodup_append]
    refine ⟨B.nd, by simp, fun a ha c hc => ?_⟩
    cases List.mem_singleton.mp hc
    intro z
    exact nk (z ▸ ha)
  · rcases List.mem_append.mp hy with hy | hy
    · exact B.tr y hy
    · cases List.mem_singleton.mp hy
      exact (B.tr x (List.mem_of_getElem? hx)).next ok gk w1 w3 t
  · by_cases hi : i < F.length
    · rw [List.getElem?_append_left hi] at hy
      exact B.ln i y hy
    · rw [List.getElem?_append_right (by omega)] at hy
      have : i - F.length = 0 := by
        cases e : i - F.length with
        | zero => rfl
        | succ n => rw [e] at hy; simp at hy
      rw [this] at hy
      cases hy
      have := B.ln h x hx
      show (x.2 ++ [w]).length ≤ i
      rw [List.length_append]
      show x.2.length + 1 ≤ i
      omega
  · obtain ⟨a, c⟩ := B.cl i y hi (old (by omega) hy) v v1 v3 tv
    exact ⟨a, List.mem_append_left _ c⟩
  · have hy' := old (Nat.le_refl _) hy
    rcases List.mem_append.mp hv with hv | hv
    · obtain ⟨a, c⟩ := B.dn y hy' v hv tv
      exact ⟨a, List.mem_append_left _ c⟩
    · cases List.mem_singleton.mp hv
      rw [hx] at hy'
      cases hy'
      exact ⟨nb, List.mem_append_right _ (List.mem_singleton.mpr rfl)⟩
theorem Bf.turn (B : Bf r g k p q L b F K h [1, 2, 3]) : Bf r g k p q L b F K (h + 1) [] := by
  refine ⟨B.ks, B.nd, B.tr, B.ln, fun i x hi hx w w1 w3 t => ?_, fun x _ w hw => (by cases hw)⟩
  by_cases c : i < h
  · exact B.cl i x c hx w w1 w3 t
  · have : i = h := by omega
    subst this
    refine B.dn x hx w ?_ t
    simp
    omega
theorem Bf.none (ok : r.Ok) (gk : g.Ok r.top) (P : PotL r g k p q L) (B : Bf r g k p q L b F K h []) (hh : F.length ≤ h) : ¬ OnBest r g k p q b := by
  refine no_round ok gk P (K := K) fun s hs w w1 w3 t => ?_
  have m : s ∈ F.map (·.1) := by
    rw [B.ks]
    rcases hs with rfl | hs
    · exact List.mem_cons_self
    · exact List.mem_cons_of_mem _ hs
  obtain ⟨x, hx, rfl⟩ := List.mem_map.mp m
  obtain ⟨i, hi⟩ := List.mem_iff_getElem?.mp hx
  have := (List.getElem?_eq_some_iff.mp hi).1
  exact B.cl i x (by omega) hi w w1 w3 t
end
end HC
namespace HC
open PySem PySem.Spec PyProof.Rows L2
section
variable {r : Rm} {g : Rg} {ws : List Int}
structure Cum (r : Rm) (g : Rg) (ws : List Int) (n : Nat) (pre : List Int) (C : List Int) : Prop where
  len : C.length = n * ws.length + 1 + pre.length
  last : C.getLast? = some (cnt r g ws n + onC r g (repS r g ws n) pre)
  at' : ∀ i, i ≤ n → C[i * ws.length]? = some (cnt r g ws i)
theorem Cum.zero : Cum r g ws 0 [] [0] := by
  refine ⟨by simp, by simp [cnt, onC], fun i hi => ?_⟩
  have : i = 0 := by omega
  subst this
  simp [cnt]
theorem Cum.tick {n : Nat} {pre C : List Int} {w : Int} (h : Cum r g ws n pre C) : Cum r g ws n (pre ++ [w]) (C ++ [cnt r g ws n + onC r g (repS r g ws n) pre + (tick r g (endS r g (repS r g ws n) pre) w).2.1]) := by
  refine ⟨by rw [List.length_append, List.length_append, h.len]; simp; omega, ?_, fun i hi => ?_⟩
  · rw [List.getLast?_concat, onC_app]
    congr 1
    show _ = _ + (_ + (_ + (0 : Int)))
    omega
  · have e := h.at' i hi
    have := (List.getElem?_eq_some_iff.mp e).1
    rw [List.getElem?_append_left this]
    exact e
theorem Cum.turn {n : Nat} {C : List Int} (h : Cum r g ws n ws C) : Cum r g ws (n + 1) [] C := by
  refine ⟨by rw [h.len, Nat.succ_mul]; simp; omega, by rw [h.last]; simp [cnt, onC], fun i hi => ?_⟩
  by_cases c : i ≤ n
  · exact h.at' i c
  · have : i = n + 1 := by omega
    subst this
    have e := h.last
    rw [List.getLast?_eq_getElem?, h.len] at e
    rw [show (n + 1) * ws.length = n * ws.length + 1 + ws.length - 1 by rw [Nat.succ_mul]; omega, e]
    rfl
end
def srtS (l : List Sta) : List Sta := l.mergeSort fun a b => PySem.W.dataLe false D.py (encSt a) (encSt b)
end HC
namespace HC
def num (ws : List Int) : Int := ws.foldl (fun a w => 3 * a + w) 0
def Dg (ws : List Int) : Prop := ∀ w ∈ ws, 1 ≤ w ∧ w ≤ 3
theorem num_snoc (ws : List Int) (w : Int) : num (ws ++ [w]) = 3 * num ws + w := by
  unfold num
  rw [List.foldl_append]
  rfl
theorem dg_snoc {ws : List Int} {w : Int} : Dg (ws ++ [w]) ↔ Dg ws ∧ 1 ≤ w ∧ w ≤ 3 := by
  constructor
  · intro h
    exact ⟨fun v hv => h v (List.mem_append_left _ hv), h w (by simp)⟩
  · rintro ⟨h1, h2⟩ v hv
    rcases List.mem_append.mp hv with hv | hv
    · exact h1 v hv
    · rw [List.mem_singleton.mp hv]
      exact h2
theorem snoc_ind {P : List Int → Prop} (h0 : P []) (h1 : ∀ ws w, P ws → P (ws ++ [w])) : ∀ ws, P ws := fun ws => by
  have : ∀ n (ws : List Int), ws.length = n → P ws := by
    intro n
    induction n with
    | zero =>
      intro ws e
      rw [List.length_eq_zero_iff.mp e]
      exact h0
    | succ n ih =>
      intro ws e
      have hne : ws ≠ [] := fun z => by rw [z] at e; cases e
      rw [← List.dropLast_concat_getLast hne]
      exact h1 _ _ (ih _ (by rw [List.length_dropLast]; omega))
  exact this _ ws rfl
theorem num_nonneg {ws : List Int} (h : Dg ws) : 0 ≤ num ws := by
  revert h
  refine snoc_ind (P := fun ws => Dg ws → 0 ≤ num ws) (fun _ => Int.le_refl _) (fun ws w ih h => ?_) ws
  rw [num_snoc]
  have := ih (dg_snoc.mp h).1
  have := (dg_snoc.mp h).2
  omega
theorem num_pos {ws : List Int} (h : Dg ws) (hn : ws ≠ []) : 0 < num ws := by
  rw [← List.dropLast_concat_getLast hn] at h ⊢
  rw [num_snoc]
  have := num_nonneg (dg_snoc.mp h).1
  have := (dg_snoc.mp h).2
  omega
theorem num_inj : ∀ {a b : List Int}, Dg a → Dg b → num a = num b → a = b := fun {a} => by
  refine snoc_ind (P := fun a => ∀ {b : List Int}, Dg a → Dg b → num a = num b → a = b) (fun {b} _ hb e => ?_) (fun as w ih {b} ha hb e => ?_) a
  · by_cases hn : b = []
    · exact hn.symm
    · have := num_pos hb hn
      have : num [] = 0 := rfl
      omega
  · by_cases hn : b = []
    · have := num_pos ha (by simp)
      rw [hn] at e
      have : num [] = 0 := rfl
      omega
    · rw [← List.dropLast_concat_getLast hn] at hb e ⊢
      rw [num_snoc, num_snoc] at e
      have h1 := (dg_snoc.mp ha).2
      have h2 := (dg_snoc.mp hb).2
      have e1 : num as = num b.dropLast := by omega
      have e2 : w = b.getLast hn := by omega
      rw [ih (dg_snoc.mp ha).1 (dg_snoc.mp hb).1 e1, e2]
section
variable {α : Type} [DecidableEq α] (stp : α → Int → α) (bad : α → Bool) (k0 : Bool)
abbrev Qu (α : Type) := List (α × List Int)
def knw (l : Qu α) : List α := (if k0 = true then l else l.tail).map (·.1)
def aft (s : α) (ws : List Int) : α := ws.foldl stp s
structure PInv (s : α) (l : Qu α) (here : Nat) (w : Int) : Prop where
  hd : l[0]? = some (s, [])
  dg : ∀ p ∈ l, Dg p.2
  aw : ∀ p ∈ l, aft stp s p.2 = p.1
  so : (l.map fun p => num p.2).Pairwise (· < ·)
  up : ∀ p, l[here]? = some p → ∀ q ∈ l, num q.2 < 3 * num p.2 + w
  dn : ∀ (i : Nat) p, l[i]? = some p → ∀ v : Int, 1 ≤ v → v ≤ 3 → (i < here ∨ (i = here ∧ v < w)) → bad (stp p.1 v) = false ∧ ∃ q ∈ l, q.1 = stp p.1 v ∧ num q.2 ≤ 3 * num p.2 + v
  nd : (knw k0 l).Nodup
variable {stp bad k0} {s : α} {l : Qu α} {here : Nat} {w : Int}
theorem aft_snoc (s : α) (ws : List Int) (w : Int) : aft stp s (ws ++ [w]) = stp (aft stp s ws) w := by
  unfold aft
  rw [List.foldl_append]
  rfl
theorem PInv.start : PInv stp bad k0 s [(s, [])] 0 1 := by
  refine ⟨rfl, fun p hp => ?_, fun p hp => ?_, by simp, fun p hp q hq => ?_, fun i p hp v v1 v3 h => ?_, by unfold knw; split <;> simp⟩
  · rw [List.mem_singleton.mp hp]; intro w hw; cases hw
  · rw [List.mem_singleton.mp hp]; rfl
  · cases hp
    rw [List.mem_singleton.mp hq]
    have : num [] = 0 := rfl
    show num [] < 3 * num [] + 1
    omega
  · omega
theorem so_lt (so : (l.map fun p => num p.2).Pairwise (· < ·)) {i j : Nat} {p q : α × List Int} (hi : l[i]? = some p) (hj : l[j]? = some q) (h : num p.2 < num q.2) : i < j := by
  obtain ⟨hi', rfl⟩ := List.getElem?_eq_some_iff.mp hi
  obtain ⟨hj', rfl⟩ := List.getElem?_eq_some_iff.mp hj
  rcases Nat.lt_trichotomy i j with c | c | c
  · exact c
  · subst c; omega
  · have := List.pairwise_iff_getElem.mp so j i (by rw [List.length_map]; exact hj') (by rw [List.length_map]; exact hi') c
    simp only [List.getElem_map] at this
    omega
theorem so_eq (so : (l.map fun p => num p.2).Pairwise (· < ·)) {i j : Nat} {p q : α × List Int} (hi : l[i]? = some p) (hj : l[j]? = some q) (h : num p.2 = num q.2) : i = j := by
  obtain ⟨hi', rfl⟩ := List.getElem?_eq_some_iff.mp hi
  obtain ⟨hj', rfl⟩ := List.getElem?_eq_some_iff.mp hj
  rcases Nat.lt_trichotomy i j with c | c | c
  · have := List.pairwise_iff_getElem.mp so i j (by rw [List.length_map]; exact hi') (by rw [List.length_map]; exact hj') c
    simp only [List.getElem_map] at this
    omega
  · exact c
  · have := List.pairwise_iff_getElem.mp so j i (by rw [List.length_map]; exact hj') (by rw [List.length_map]; exact hi') c
    simp only [List.getElem_map] at this
    omega
theorem PInv.ahead (I : PInv stp bad k0 s l here w) (w4 : w ≤ 4) {p : α × List Int} (hp : l[here]? = some p) : ∀ ws, Dg ws → ws = [] ∨ num ws < 3 * num p.2 + w → (ws ≠ [] → bad (aft stp s ws) = false) ∧ ∃ q ∈ l, q.1 = aft stp s ws ∧ num q.2 ≤ num ws := by
  refine snoc_ind (fun _ _ => ⟨fun z => absurd rfl z, _, List.mem_of_getElem? I.hd, rfl, Int.le_refl _⟩) fun ws v ih hd hlt => ?_
  obtain ⟨d1, v1, v3⟩ := dg_snoc.mp hd
  have hlt : num (ws ++ [v]) < 3 * num p.2 + w := by
    rcases hlt with z | z
    · exact absurd z (by simp)
    · exact z
  rw [num_snoc] at hlt
  have hn := num_nonneg d1
  obtain ⟨_, q, hq, e1, e2⟩ := ih d1 (by
    by_cases z : ws = []
    · exact .inl z
    · exact .inr (by omega))
  obtain ⟨i, hi⟩ := List.mem_iff_getElem?.mp hq
  have hc : i < here ∨ (i = here ∧ v < w) := by
    by_cases z : num q.2 < num p.2
    · exact .inl (so_lt I.so hi hp z)
    · have : num q.2 = num p.2 := by omega
      exact .inr ⟨so_eq I.so hi hp this, by omega⟩
  obtain ⟨b, q', hq', e3, e4⟩ := I.dn i q hi v v1 v3 hc
  rw [aft_snoc, ← e1]
  exact ⟨fun _ => b, q', hq', e3, by rw [num_snoc]; omega⟩
theorem PInv.found (I : PInv stp bad k0 s l here w) (w1 : 1 ≤ w) (w3 : w ≤ 3) {p : α × List Int} (hp : l[here]? = some p) (hb : bad (stp p.1 w) = true) :
    Dg (p.2 ++ [w]) ∧ bad (aft stp s (p.2 ++ [w])) = true ∧ ∀ ws, Dg ws → ws ≠ [] → bad (aft stp s ws) = true → num (p.2 ++ [w]) ≤ num ws := by
  have pm := List.mem_of_getElem? hp
  refine ⟨dg_snoc.mpr ⟨I.dg p pm, w1, w3⟩, by rw [aft_snoc, I.aw p pm]; exact hb, fun ws hd hn hb' => ?_⟩
  rw [num_snoc]
  by_cases c : 3 * num p.2 + w ≤ num ws
  · exact c
  · have := ((I.ahead (by omega) hp ws hd (.inr (by omega))).1 hn)
    rw [this] at hb'
    cases hb'
theorem PInv.old (I : PInv stp bad k0 s l here w) {p : α × List Int} (hp : l[here]? = some p) (hb : bad (stp p.1 w) = false) (hk : stp p.1 w ∈ knw k0 l) : PInv stp bad k0 s l here (w + 1) := by
  refine ⟨I.hd, I.dg, I.aw, I.so, fun p' hp' q hq => ?_, fun i q hi v v1 v3 h => ?_, I.nd⟩
  · have := I.up p' hp' q hq
    omega
  · by_cases c : i = here ∧ v = w
    · obtain ⟨rfl, rfl⟩ := c
      rw [hp] at hi
      cases hi
      refine ⟨hb, ?_⟩
      obtain ⟨q, hq, e⟩ : ∃ q ∈ l, q.1 = stp p.1 v := by
        unfold knw at hk
        obtain ⟨q, hq, e⟩ := List.mem_map.mp hk
        refine ⟨q, ?_, e⟩
        split at hq
        · exact hq
        · exact List.mem_of_mem_tail hq
      have := I.up p hp q hq
      exact ⟨q, hq, e, by omega⟩
    · exact I.dn i q hi v v1 v3 (by
        rcases h with h | h
        · exact .inl h
        · have : ¬ v = w := fun z => c ⟨h.1, z⟩
          exact .inr ⟨h.1, by omega⟩)
theorem knw_snoc (hl : l ≠ []) (q : α × List Int) : knw k0 (l ++ [q]) = knw k0 l ++ [q.1] := by
  unfold knw
  split
  · rw [List.map_append]
    rfl
  · rw [List.tail_append_of_ne_nil hl, List.map_append]
    rfl
theorem PInv.ne (I : PInv stp bad k0 s l here w) : l ≠ [] := fun z => by
  have := I.hd
  rw [z] at this
  cases this
theorem PInv.new (I : PInv stp bad k0 s l here w) (w1 : 1 ≤ w) (w3 : w ≤ 3) {p : α × List Int} (hp : l[here]? = some p) (hb : bad (stp p.1 w) = false) (hk : stp p.1 w ∉ knw k0 l) : PInv stp bad k0 s (l ++ [(stp p.1 w, p.2 ++ [w])]) here (w + 1) := by
  have pm := List.mem_of_getElem? hp
  have hlt := (List.getElem?_eq_some_iff.mp hp).1
  refine ⟨?_, fun q hq => ?_, fun q hq => ?_, ?_, fun p' hp' q hq => ?_, fun i q hi v v1 v3 h => ?_, ?_⟩
  · rw [List.getElem?_append_left (by omega)]
    exact I.hd
  · rcases List.mem_append.mp hq with hq | hq
    · exact I.dg q hq
    · rw [List.mem_singleton.mp hq]
      exact dg_snoc.mpr ⟨I.dg p pm, w1, w3⟩
  · rcases List.mem_append.mp hq with hq | hq
    · exact I.aw q hq
    · rw [List.mem_singleton.mp hq]
      show aft stp s (p.2 ++ [w]) = stp p.1 w
      rw [aft_snoc, I.aw p pm]
  · rw [List.map_append, List.pairwise_append]
    refine ⟨I.so, by simp, fun a ha b hb' => ?_⟩
    obtain ⟨q, hq, rfl⟩ := List.mem_map.mp ha
    simp only [List.map_cons, List.map_nil, List.mem_singleton] at hb'
    rw [hb', num_snoc]
    exact I.up p hp q hq
  · rw [List.getElem?_append_left hlt] at hp'
    rw [hp] at hp'
    cases hp'
    rcases List.mem_append.mp hq with hq | hq
    · have := I.up p hp q hq
      omega
    · rw [List.mem_singleton.mp hq]
      show num (p.2 ++ [w]) < _
      rw [num_snoc]
      omega
  · have hil : i < l.length := by
      rcases h with h | h
      · omega
      · omega
    rw [List.getElem?_append_left hil] at hi
    by_cases c : i = here ∧ v = w
    · obtain ⟨rfl, rfl⟩ := c
      rw [hp] at hi
      cases hi
      exact ⟨hb, _, List.mem_append_right _ (List.mem_singleton.mpr rfl), rfl, by rw [num_snoc]; omega⟩
    · obtain ⟨b, q', hq', e3, e4⟩ := I.dn i q hi v v1 v3 (by
        rcases h with h | h
        · exact .inl h
        · have : ¬ v = w := fun z => c ⟨h.1, z⟩
          exact .inr ⟨h.1, by omega⟩)
      exact ⟨b, q', List.mem_append_left _ hq', e3, e4⟩
  · rw [knw_snoc I.ne, List.nodup_append]
    refine ⟨I.nd, by simp, fun a ha b hb' z => ?_⟩
    rw [List.mem_singleton.mp hb'] at z
    have z' : a = stp p.1 w := z
    exact hk (z' ▸ ha)
theorem PInv.next (I : PInv stp bad k0 s l here 4) : PInv stp bad k0 s l (here + 1) 1 := by
  refine ⟨I.hd, I.dg, I.aw, I.so, fun p' hp' q hq => ?_, fun i q hi v v1 v3 h => ?_, I.nd⟩
  · have hlt := (List.getElem?_eq_some_iff.mp hp').1
    have hp : l[here]? = some l[here] := List.getElem?_eq_getElem (by omega)
    have h1 := I.up _ hp q hq
    have h2 : num (l[here]).2 < num p'.2 := by
      obtain ⟨h', rfl⟩ := List.getElem?_eq_some_iff.mp hp'
      have := List.pairwise_iff_getElem.mp I.so here (here + 1) (by rw [List.length_map]; omega) (by rw [List.length_map]; exact h') (by omega)
      simpa only [List.getElem_map] using this
    omega
  · exact I.dn i q hi v v1 v3 (by
      rcases h with h | h
      · by_cases c : i < here
        · exact .inl c
        · exact .inr ⟨by omega, by omega⟩
      · omega)
theorem PInv.none_bad (I : PInv stp bad k0 s l here 1) (he : l.length ≤ here) : ∀ ws, Dg ws → (ws ≠ [] → bad (aft stp s ws) = false) ∧ ∃ q ∈ l, q.1 = aft stp s ws := by
  refine snoc_ind (fun _ => ⟨fun z => absurd rfl z, _, List.mem_of_getElem? I.hd, rfl⟩) fun ws v ih hd => ?_
  obtain ⟨d1, v1, v3⟩ := dg_snoc.mp hd
  obtain ⟨_, q, hq, e1⟩ := ih d1
  obtain ⟨i, hi⟩ := List.mem_iff_getElem?.mp hq
  have hil := (List.getElem?_eq_some_iff.mp hi).1
  obtain ⟨b, q', hq', e3, _⟩ := I.dn i q hi v v1 v3 (.inl (by omega))
  rw [aft_snoc, ← e1]
  exact ⟨fun _ => b, q', hq', e3⟩
structure Least (stp : α → Int → α) (bad : α → Bool) (s : α) (row : List Int) : Prop where
  dg : Dg row
  ne : row ≠ []
  bd : bad (aft stp s row) = true
  le : ∀ ws, Dg ws → ws ≠ [] → bad (aft stp s ws) = true → num row ≤ num ws
def IsPart (stp : α → Int → α) (bad : α → Bool) (s : α) : Option (List Int) → Prop
  | some row => Least stp bad s row
  | none => ∀ ws, Dg ws → ws ≠ [] → bad (aft stp s ws) = false
theorem IsPart.one {a b : Option (List Int)} (ha : IsPart stp bad s a) (hb : IsPart stp bad s b) : a = b := by
  cases a with
  | none =>
    cases b with
    | none => rfl
    | some row =>
      have := ha row hb.dg hb.ne
      rw [hb.bd] at this
      cases this
  | some r1 =>
    cases b with
    | none =>
      have := hb r1 ha.dg ha.ne
      rw [ha.bd] at this
      cases this
    | some r2 =>
      have h1 := ha.le r2 hb.dg hb.ne hb.bd
      have h2 := hb.le r1 ha.dg ha.ne ha.bd
      rw [num_inj ha.dg hb.dg (by omega)]
noncomputable def partOf (stp : α → Int → α) (bad : α → Bool) (s : α) : Option (List Int) := @dite _ (∃ o, IsPart stp bad s o) (Classical.propDecidable _) (fun h => h.choose) fun _ => none
theorem partOf_eq {o : Option (List Int)} (h : IsPart stp bad s o) : partOf stp bad s = o := by
  have hx : ∃ o, IsPart stp bad s o := ⟨o, h⟩
  unfold partOf
  rw [dif_pos hx]
  exact hx.choose_spec.one h
theorem part_ex : ∃ o, IsPart stp bad s o := by
  by_cases h : ∃ ws, Dg ws ∧ ws ≠ [] ∧ bad (aft stp s ws) = true
  · have key : ∀ n : Nat, ∀ ws, Dg ws → ws ≠ [] → bad (aft stp s ws) = true → (num ws).toNat = n → ∃ row, Least stp bad s row := by
      intro n
      induction n using Nat.strongRecOn with
      | ind n ih =>
        intro ws d ne b e
        by_cases c : ∃ v, Dg v ∧ v ≠ [] ∧ bad (aft stp s v) = true ∧ num v < num ws
        · obtain ⟨v, d1, n1, b1, lt⟩ := c
          have := num_nonneg d1
          exact ih _ (by omega) v d1 n1 b1 rfl
        · refine ⟨ws, d, ne, b, fun v d1 n1 b1 => ?_⟩
          by_cases c2 : num ws ≤ num v
          · exact c2
          · exact absurd ⟨v, d1, n1, b1, by omega⟩ c
    obtain ⟨ws, d, ne, b⟩ := h
    obtain ⟨row, hr⟩ := key _ ws d ne b rfl
    exact ⟨some row, hr⟩
  · refine ⟨none, fun ws d ne => ?_⟩
    cases e : bad (aft stp s ws) with
    | false => rfl
    | true => exact absurd ⟨ws, d, ne, e⟩ h
theorem partOf_is : IsPart stp bad s (partOf stp bad s) := by
  obtain ⟨o, h⟩ := part_ex (stp := stp) (bad := bad) (s := s)
  rw [partOf_eq h]
  exact h
end
end HC
namespace HC
open PySem PySem.Spec PyProof.Rows L2
abbrev Pr := Sta × Sta
def st2 (r : Rm) (g1 g2 : Rg) (p : Pr) (w : Int) : Pr := (tick r g1 p.1 w, tick r g2 p.2 w)
def bad2 (p : Pr) : Bool := !decide (p.1.2.1 = p.2.2.1)
def encP (p : Pr) : D := .tuple [encSt p.1, encSt p.2]
def encEnt (p : Pr × List Int) : D := .tuple [encSt p.1.1, encSt p.1.2, encIs p.2]
def prK (p : Pr) : NestedKey := .tup [stK p.1, stK p.2]
theorem prK_inj (a b : Pr) (h : prK a = prK b) : a = b := by
  obtain ⟨a1, a2⟩ := a
  obtain ⟨b1, b2⟩ := b
  simp only [prK, NestedKey.tup.injEq, List.cons.injEq, and_true] at h
  rw [stK_inj _ _ h.1, stK_inj _ _ h.2]
theorem prK_depth (p : Pr) : (prK p).depth ≤ 8 := by show 2 ≤ 8; decide
def encPz (d : D) (l : List Pr) : D := .tdict (encL prK (fun _ : Unit => d) (l.map fun s => (s, ())))
section
variable {l : List Pr} {p : Pr} {d : D} {Q : D → Prop}
theorem pz_lk : lkp (l.map fun s => (s, ())) p = if p ∈ l then some () else none := by
  by_cases h : p ∈ l
  · rw [if_pos h]
    cases e : lkp (l.map fun s => (s, ())) p with
    | none =>
      refine absurd ?_ (lkp_none.mp e)
      rw [List.map_map]
      exact List.mem_map.mpr ⟨p, h, rfl⟩
    | some b => rfl
  · rw [if_neg h]
    refine lkp_none.mpr fun z => h ?_
    rw [List.map_map] at z
    obtain ⟨q, hq, rfl⟩ := List.mem_map.mp z
    exact hq
theorem fNotIn_pz (q : Q (.bool (!decide (p ∈ l)))) : fNotIn (encP p) (encPz d l) Q := ⟨_, rfl, prK_depth p, by
  show Q (.bool (!(kvGet (encL prK (fun _ : Unit => d) (l.map fun s => (s, ()))) (prK p)).isSome))
  rw [get_encL prK_inj, Option.isSome_map, pz_lk]
  by_cases h : p ∈ l
  · rw [if_pos h]
    simpa [h] using q
  · rw [if_neg h]
    simpa [h] using q⟩
theorem put_pz (h : p ∉ l) {ks : List NestedKey} (e : ks = [stK p.1, stK p.2]) : D.tdict (kvPut (encL prK (fun _ : Unit => d) (l.map fun s => (s, ()))) (.tup ks) d) = encPz d (l ++ [p]) := by
  subst e
  have := put_encL (g := fun _ : Unit => d) prK_inj (l.map fun s => (s, ())) p ()
  rw [show NestedKey.tup [stK p.1, stK p.2] = prK p from rfl, this, putL_new (lkp_none.mp (by rw [pz_lk, if_neg h]))]
  show D.tdict _ = D.tdict _
  rw [List.map_append]
  rfl
theorem len_pz (h : l.length < 16777216) : (encL prK (fun _ : Unit => d) (l.map fun s => (s, ()))).length < sizeLine := by
  unfold encL
  rw [List.length_map, List.length_map, sizeLine_eq]
  exact h
end
section
variable {r : Rm} {g1 g2 : Rg}
structure Lim2 (r : Rm) (g1 g2 : Rg) (p : Pr) : Prop where
  a : Lim r g1 p.1
  b : Lim r g2 p.2
theorem lim2_few (ok : r.Ok) (k1 : g1.Ok r.top) (k2 : g2.Ok r.top) {l : List Pr} (hn : l.Nodup) (hl : ∀ p ∈ l, Lim2 r g1 g2 p) : l.length ≤ 3721 := by
  obtain ⟨m1, h1, s1⟩ := lim_mem ok k1
  obtain ⟨m2, h2, s2⟩ := lim_mem ok k2
  have := sub_len l (m1.flatMap fun a => m2.map fun b => (a, b)) hn fun p hp => List.mem_flatMap.mpr ⟨p.1, s1 _ (hl p hp).a, List.mem_map.mpr ⟨p.2, s2 _ (hl p hp).b, rfl⟩⟩
  rw [List.length_flatMap] at this
  have e : (m1.map fun a => (m2.map fun b => (a, b)).length).sum = m1.length * m2.length := by
    clear this h1 s1
    induction m1 with
    | nil => simp
    | cons a m ih =>
      rw [List.map_cons, List.sum_cons, ih, List.length_map, List.length_cons, Nat.succ_mul]
      omega
  rw [e] at this
  have : m1.length * m2.length ≤ 61 * 61 := Nat.mul_le_mul h1 h2
  omega
theorem aft_lim2 (ok : r.Ok) (k1 : g1.Ok r.top) (k2 : g2.Ok r.top) {s : Pr} (o : Lim2 r g1 g2 s) : ∀ ws, Dg ws → Lim2 r g1 g2 (aft (st2 r g1 g2) s ws) := by
  refine snoc_ind (fun _ => o) fun ws w ih hd => ?_
  obtain ⟨d1, w1, w3⟩ := dg_snoc.mp hd
  have := ih d1
  rw [aft_snoc]
  exact ⟨tick_lim ok k1 this.a w1 w3, tick_lim ok k2 this.b w1 w3⟩
theorem pinv_lim (ok : r.Ok) (k1 : g1.Ok r.top) (k2 : g2.Ok r.top) {s : Pr} (o : Lim2 r g1 g2 s) {k0 : Bool} {l : Qu Pr} {here : Nat} {w : Int} (I : PInv (st2 r g1 g2) bad2 k0 s l here w) : ∀ p ∈ l, Lim2 r g1 g2 p.1 := fun p hp => by
  rw [← I.aw p hp]
  exact aft_lim2 ok k1 k2 o _ (I.dg p hp)
theorem pinv_len (ok : r.Ok) (k1 : g1.Ok r.top) (k2 : g2.Ok r.top) {s : Pr} (o : Lim2 r g1 g2 s) {k0 : Bool} {l : Qu Pr} {here : Nat} {w : Int} (I : PInv (st2 r g1 g2) bad2 k0 s l here w) : (knw k0 l).length ≤ 3721 ∧ l.length ≤ 3722 := by
  have h := lim2_few ok k1 k2 I.nd fun p hp => by
    unfold knw at hp
    obtain ⟨q, hq, rfl⟩ := List.mem_map.mp hp
    refine pinv_lim ok k1 k2 o I q ?_
    split at hq
    · exact hq
    · exact List.mem_of_mem_tail hq
  refine ⟨h, ?_⟩
  unfold knw at h
  rw [List.length_map] at h
  split at h
  · omega
  · rw [List.length_tail] at h
    omega
end
def optRow : Option (List Int) → D
  | some ws => encIs ws
  | none => .none
noncomputable def partL (r : Rm) (g1 g2 : Rg) (s : Pr) : Option (List Int) := partOf (st2 r g1 g2) bad2 s
noncomputable def sp_parting_of : SpD := spOf (fun a : Rm × Rg × Rg => [a.1.enc, a.2.1.enc, a.2.2.enc]) (fun a => a.1.Ok ∧ a.2.1.Ok a.1.top ∧ a.2.2.Ok a.1.top) (fun a => optRow (partL a.1 a.2.1 a.2.2 (first a.1, first a.1)))
theorem mo_parting_of : MonoSp 3 sp_parting_of := mo_spOf fun _ => rfl
end HC
namespace HC
open PySem PySem.Spec PyProof.Rows L2
def onTwo (x : Xc) (a b c : D) (k : Rm → Rg → Rg → Ex) : Ex := onRg x a b fun r g1 => onRg x a c fun _ g2 => k r g1 g2
def sp_check_two (x : Xc) : SpD := spEx (fun a : D × D × D => [a.1, a.2.1, a.2.2]) pl3 (fun a => onTwo x a.1 a.2.1 a.2.2 fun _ _ _ => .ok .none)
theorem mo_check_two (x : Xc) : MonoSp 3 (sp_check_two x) := mo_spEx fun _ => rfl
noncomputable def sameEx (x : Xc) (a : D × D × D) : Ex := onTwo x a.1 a.2.1 a.2.2 fun r g1 g2 => .ok (.bool (partL r g1 g2 (first r, first r)).isNone)
noncomputable def sp_same (x : Xc) : SpD := spEx (fun a : D × D × D => [a.1, a.2.1, a.2.2]) pl3 (sameEx x)
theorem mo_same (x : Xc) : MonoSp 3 (sp_same x) := mo_spEx fun _ => rfl
section
variable {x : Xc} {Q Q1 : D → Prop} {E : Addr → Prop} {a b c : D} {k : Rm → Rg → Rg → Ex}
theorem two_at {r : Rm} {g1 g2 : Rg} (ok : r.Ok) (k1 : g1.Ok r.top) (k2 : g2.Ok r.top) : onTwo x r.enc g1.enc g2.enc k = k r g1 g2 := by
  unfold onTwo
  rw [rg_at ok k1, rg_at ok k2]
theorem on_two (h : pl3 (a, b, c)) (q : outE Q E (onTwo x a b c k)) (go : ∀ r g1 g2, r.Ok → g1.Ok r.top → g2.Ok r.top → a = r.enc → b = g1.enc → c = g2.enc → outE Q E (k r g1 g2) → Q1 .none) : sp_check_two x [a, b, c] Q1 E := by
  refine ⟨(a, b, c), rfl, h, ?_⟩
  show outE Q1 E (onTwo x a b c fun _ _ _ => .ok .none)
  unfold onTwo onRg at q ⊢
  by_cases hr : isRoomF a = true
  · rw [if_pos hr] at q ⊢
    by_cases h1 : isForF b (topOf a) = true
    · rw [if_pos h1] at q ⊢
      dsimp only at q ⊢
      rw [if_pos hr] at q ⊢
      by_cases h2 : isForF c (topOf a) = true
      · rw [if_pos h2] at q ⊢
        obtain ⟨r, ok, rfl⟩ := isRoomF_top hr
        obtain ⟨g1, k1, e1, e2⟩ := isForF_rg h1
        obtain ⟨g2, k2, e3, e4⟩ := isForF_rg h2
        rw [e2, e4] at q
        exact go r g1 g2 ok k1 k2 rfl e1 e3 q
      · rw [if_neg h2] at q ⊢
        exact q
    · rw [if_neg h1] at q ⊢
      exact q
  · rw [if_neg hr] at q ⊢
    exact q
end
end HC
namespace HC
open PySem PySem.Spec PyProof.Rows L2
noncomputable def t_check_two (x : Xc) : TSD :=
  sSeq (sExpr (wCall (sp_check_regulator x) (wCons (wVar 0) (wCons (wVar 1) wNil))))
    (sExpr (wCall (sp_check_regulator x) (wCons (wVar 0) (wCons (wVar 2) wNil))))
noncomputable def t_parting_of : TSD :=
  sSeq (sPar2 3 4 (xCons (xOwn (wLst (wCons (wTup (wCons (wCall sp_first_state (wCons (wVar 0) wNil)) (wCons (wCall sp_first_state (wCons (wVar 0) wNil)) (wCons (wLst wNil) wNil)))) wNil))) (xCons (xVal (wC (.int 0))) xNil)))
    (sSeq (sAsg 5 (xOwn (wDisp1 (wSl (wOp2 fIx (wPeek 3) (wC (.int 0))) wNoPart (wPart (wC (.int 2)))) (wC (.int 0)))))
    (sSeq (sWhile (bTest (wOp2 fLt (wPeek 4) (wB gLen (wCons (wPeek 3) wNil)))) (sSeq (sUnp (wOp2 fIx (wPeek 3) (wPeek 4)) (gT (gCons' (gN 6) (gCons' (gN 7) (gCons' (gN 8) gNil')))))
    (sSeq (sFor (iSeq (wC d_WEATHERS)) (gN 9) (sSeq (sAsg 10 (xVal (wTup (wCons (wCall sp_step (wCons (wVar 0) (wCons (wVar 1) (wCons (wVar 6) (wCons (wVar 9) wNil))))) (wCons (wCall sp_step (wCons (wVar 0) (wCons (wVar 2) (wCons (wVar 7) (wCons (wVar 9) wNil))))) wNil)))))
    (sSeq (sIf (bTest (wOp2 fNe (wOp2 fIx (wOp2 fIx (wPeek 10) (wC (.int 0))) (wC (.int 1))) (wOp2 fIx (wOp2 fIx (wPeek 10) (wC (.int 1))) (wC (.int 1))))) (sRet (wOp2 fAdd (wPeek 8) (wLst (wCons (wVar 9) wNil)))) sNil)
    (sIf (bTest (wOp2 fNotIn (wPeek 10) (wPeek 5))) (sSeq (sSet 5 (wC (.int 0)) (wPeek 10))
    (sApp 3 (wOp2 fAdd (wPeek 10) (wTup (wCons (wOp2 fAdd (wPeek 8) (wLst (wCons (wVar 9) wNil))) wNil))))) sNil))))
    (sAug 4 (wC (.int 1))))))
    (sRet (wC .none))))
noncomputable def t_same (x : Xc) : TSD :=
  sSeq (sExpr (wCall (sp_check_two x) (wCons (wVar 0) (wCons (wVar 1) (wCons (wVar 2) wNil)))))
    (sRet (wOp2 fIs (wCall sp_parting_of (wCons (wVar 0) (wCons (wVar 1) (wCons (wVar 2) wNil)))) (wC .none)))
end HC
namespace HC
open PySem PySem.Spec PyProof.Rows L2
local macro_rules | `(tactic| walk_at "ds") => `(tactic| try simp only [endD, startD, startT, endLaw, startLaw, List.map_cons, List.map_nil, List.length_cons, List.length_nil, List.replicate, List.cons_append, List.nil_append, Nat.reduceSub, Nat.reduceAdd, sSeq, sRet, sIf, sNil, sAsg, sUnp, sExpr, sPar2, sPar3, xCons, xNil, xVal, xOwn, bTest, bNot, bAnd, bOr, wVar, wPeek, slot, wC, wOp2, wB, wM, wCons, wNil, wTup, wLst, wIf, wAnd, wOr, wNot, wNeg, wCall, wCallT, wSl, wPart, wNoPart, List.set, ex1, gT_t, gT_st, gT_pr, gC_c, gN_c, gNil_c, sRaise, wChain, sFrz, frz, wIsi, wTabIn, wTabAt, sAug, wipeD, En.lp, loopW_nil, d_WEATHERS, ds_WEATHERS, wDisp1, wNewT, wComp, iSeq, iRange, gList_l, sFor, Bool.false_eq_true, if_false, if_true,
  fAdd_i, fAdd_s, fAdd_l, fAdd_t, fAddL_l, fSub_i, fLt_i, fLe_i, fGt_i, fGe_i, fEq_i, fNe_i, fIs_b, fIsN_b, fIs_nn, fIs_in, fIs_ln, fIs_tn, fIsN_nn, fIsN_in, fIsN_ln, fIsN_tn, gMin_2, gMax_2, gLen_l, gLen_t, fIx_rm0, fIx_rm1, fIx_rm2, fIx_st0, fIx_st1, fIx_st2, fIx_rg0, fIx_rg1, fIx_rg2, fSl_rg, fEq_gap, fEq_stay, fEq_late, fEq_look, fEq_lean])
theorem big1 {n : Nat} (h : n ≤ 16777216) : n ≤ sizeLine := by rw [sizeLine_eq]; exact h
theorem big2 {n : Nat} (h : n < 16777216) : n < sizeLine := by rw [sizeLine_eq]; exact h
def Ln (l : Qu Pr) : Prop := ∀ (i : Nat) p, l[i]? = some p → p.2.length ≤ i
theorem Ln.start {s : Pr} : Ln [(s, [])] := fun i p h => by
  have := (List.getElem?_eq_some_iff.mp h).1
  simp at this
  subst this
  cases h
  exact Nat.le_refl _
theorem Ln.new {l : Qu Pr} {p : Pr × List Int} {a : Pr} {w : Int} {here : Nat} (h : Ln l) (hp : l[here]? = some p) : Ln (l ++ [(a, p.2 ++ [w])]) := fun i q hq => by
  have hlt := (List.getElem?_eq_some_iff.mp hp).1
  by_cases hi : i < l.length
  · rw [List.getElem?_append_left hi] at hq
    exact h i q hq
  · rw [List.getElem?_append_right (by omega)] at hq
    have hi2 : i - l.length = 0 := by
      have := (List.getElem?_eq_some_iff.mp hq).1
      simp at this
      omega
    rw [hi2] at hq
    cases hq
    have := h here p hp
    simp
    omega
theorem fIx_e0 {p q : Pr} {Q : D → Prop} : fIx (encP p) (.int 0) Q = Q (encSt p.1) := ex1
theorem fIx_e1 {p : Pr} {Q : D → Prop} : fIx (encP p) (.int 1) Q = Q (encSt p.2) := ex1
theorem bad2_eq (p : Pr) : (!decide (p.1.2.1 = p.2.2.1)) = bad2 p := rfl
def ppBody : TSD := sSeq (sAsg 10 (xVal (wTup (wCons (wCall sp_step (wCons (wVar 0) (wCons (wVar 1) (wCons (wVar 6) (wCons (wVar 9) wNil))))) (wCons (wCall sp_step (wCons (wVar 0) (wCons (wVar 2) (wCons (wVar 7) (wCons (wVar 9) wNil))))) wNil)))))
    (sSeq (sIf (bTest (wOp2 fNe (wOp2 fIx (wOp2 fIx (wPeek 10) (wC (.int 0))) (wC (.int 1))) (wOp2 fIx (wOp2 fIx (wPeek 10) (wC (.int 1))) (wC (.int 1))))) (sRet (wOp2 fAdd (wPeek 8) (wLst (wCons (wVar 9) wNil)))) sNil)
    (sIf (bTest (wOp2 fNotIn (wPeek 10) (wPeek 5))) (sSeq (sSet 5 (wC (.int 0)) (wPeek 10))
    (sApp 3 (wOp2 fAdd (wPeek 10) (wTup (wCons (wOp2 fAdd (wPeek 8) (wLst (wCons (wVar 9) wNil))) wNil))))) sNil))
def ppEnv (r : Rm) (g1 g2 : Rg) (l : Qu Pr) (here : Nat) (s6 s7 s8 s9 s10 : Sl) : Env := [.val r.enc, .val g1.enc, .val g2.enc, .own (.list (l.map encEnt)), .val (.int here), .own (encPz (.int 0) (knw true l)), s6, s7, s8, s9, s10]
theorem pp_step {r : Rm} {g1 g2 : Rg} {s : Pr} {l : Qu Pr} {here : Nat} {p : Pr × List Int} {w : Int} {s10 : Sl} {e : En} (ok : r.Ok) (k1 : g1.Ok r.top) (k2 : g2.Ok r.top) (o : Lim2 r g1 g2 s) (I : PInv (st2 r g1 g2) bad2 true s l here w) (hL : Ln l) (w1 : 1 ≤ w) (w3 : w ≤ 3) (hp : l[here]? = some p)
    (qt : Least (st2 r g1 g2) bad2 s (p.2 ++ [w]) → e.rt (encIs (p.2 ++ [w])))
    (q : ∀ l' s10, PInv (st2 r g1 g2) bad2 true s l' here (w + 1) → Ln l' → l'[here]? = some p → e.nx (ppEnv r g1 g2 l' here (.val (encSt p.1.1)) (.val (encSt p.1.2)) (.val (encIs p.2)) (.val (.int w)) s10)) :
    ppBody e (ppEnv r g1 g2 l here (.val (encSt p.1.1)) (.val (encSt p.1.2)) (.val (encIs p.2)) (.val (.int w)) s10) := by
  obtain ⟨kl, ll⟩ := pinv_len ok k1 k2 o I
  have hlt := (List.getElem?_eq_some_iff.mp hp).1
  have hpl := hL here p hp
  unfold ppBody ppEnv
  refine seq_g fun n1 h1 => ?_
  walk_at "ds"
  refine in_step (in_step (h1 _ ?_))
  rw [show D.tuple [encSt (tick r g1 p.1.1 w), encSt (tick r g2 p.1.2 w)] = encP (st2 r g1 g2 p.1 w) from rfl]
  have e2 : D.list (p.2.map D.int ++ [D.int w]) = encIs (p.2 ++ [w]) := by rw [encIs, List.map_append]; rfl
  refine seq_g fun n2 h2 => ?_
  walk_at "ds"
  rw [fIx_e0 (q := p.1), fIx_st1, fIx_e1, fIx_st1, fNe_i]
  show ite _ _ _
  rw [bad2_eq]
  cases hb : bad2 (st2 r g1 g2 p.1 w) with
  | true =>
    refine ite_t rfl ?_
    show (p.2.map D.int).length + 1 ≤ sizeLine ∧ _
    refine ⟨big1 (by rw [List.length_map]; omega), ?_⟩
    rw [e2]
    obtain ⟨a, b, c⟩ := I.found w1 w3 hp hb
    exact qt ⟨a, by simp, b, c⟩
  | false =>
    refine ite_f rfl (h2 _ ?_)
    walk_at "ds"
    refine fNotIn_pz ?_
    by_cases hk : st2 r g1 g2 p.1 w ∈ knw true l
    · refine ite_f (by simp [hk]) ?_
      exact q l _ (I.old hp hb hk) hL hp
    · refine ite_t (by simp [hk]) ?_
      refine sSet_tdG (kvs := encL prK (fun _ : Unit => D.int 0) ((knw true l).map fun s => (s, ()))) rfl ?_
      walk_at "ds"
      refine ⟨[stK (st2 r g1 g2 p.1 w).1, stK (st2 r g1 g2 p.1 w).2], rfl, prK_depth (st2 r g1 g2 p.1 w), len_pz (by omega), ?_⟩
      rw [put_pz hk rfl]
      unfold sApp
      walk_at "ds"
      show (p.2.map D.int).length + 1 ≤ sizeLine ∧ _
      refine ⟨big1 (by rw [List.length_map]; omega), ?_⟩
      show 2 + 1 ≤ sizeLine ∧ _
      refine ⟨by decide, big2 (by rw [List.length_map]; omega), ?_⟩
      rw [e2]
      have := q (l ++ [(st2 r g1 g2 p.1 w, p.2 ++ [w])]) (.val (encP (st2 r g1 g2 p.1 w))) (I.new w1 w3 hp hb hk) (hL.new hp) (by rw [List.getElem?_append_left hlt]; exact hp)
      unfold ppEnv at this
      rw [knw_snoc I.ne, List.map_append] at this
      exact this
theorem sem_parting_of : ∀ ds Q E, sp_parting_of ds Q E → t_parting_of (endD Q E) (startD 11 ds) := by
  rintro _ Q E ⟨⟨r, g1, g2⟩, rfl, ⟨ok, k1, k2⟩, q⟩
  replace ok : r.Ok := ok
  replace k1 : g1.Ok r.top := k1
  replace k2 : g2.Ok r.top := k2
  replace q : Q (optRow (partL r g1 g2 (first r, first r))) := q
  have o : Lim2 r g1 g2 (first r, first r) := ⟨first_lim ok k1, first_lim ok k2⟩
  unfold t_parting_of
  refine seq_g fun n1 h1 => ?_
  walk_at "ds"
  refine in_first (in_first (h1 _ ?_))
  refine seq_g fun n2 h2 => ?_
  walk_at "ds"
  rw [fIx_l]
  refine ⟨_, rfl, ?_⟩
  rw [fSl_t]
  refine ⟨[stK (first r), stK (first r)], rfl, prK_depth (first r, first r), h2 _ ?_⟩
  refine seq_g fun n3 h3 => ?_
  unfold sWhile
  refine ⟨fun m env => ∃ (l : Qu Pr) (here : Nat) (s6 s7 s8 s9 s10 : Sl), m = 3723 - here ∧ here ≤ l.length ∧ PInv (st2 r g1 g2) bad2 true (first r, first r) l here 1 ∧ Ln l ∧ env = ppEnv r g1 g2 l here s6 s7 s8 s9 s10,
    ⟨3723, [((first r, first r), [])], 0, .un, .un, .un, .un, .un, rfl, by simp, PInv.start, Ln.start, rfl⟩, ?_⟩
  rintro m env ⟨l, here, s6, s7, s8, s9, s10, hm, hh, I, hL, rfl⟩
  obtain ⟨kl, ll⟩ := pinv_len ok k1 k2 o I
  unfold ppEnv
  walk_at "ds"
  rw [List.length_map]
  by_cases hc : here < l.length
  · refine ite_t (decide_eq_true (by omega)) ?_
    obtain ⟨p, hp⟩ : ∃ p, l[here]? = some p := ⟨_, List.getElem?_eq_getElem hc⟩
    rw [fIx_l]
    refine ⟨encEnt p, atI_of (by rw [List.getElem?_map, hp]; rfl), _, rfl, ?_⟩
    have qt : ∀ row, Least (st2 r g1 g2) bad2 (first r, first r) row → Q (encIs row) := fun row hr => by
      have : partL r g1 g2 (first r, first r) = some row := partOf_eq (o := some row) hr
      rw [this] at q
      exact q
    refine ⟨_, rfl, pp_step ok k1 k2 o I hL (by omega) (by omega) hp (qt _) fun l1 s10 I1 L1 hp1 => ?_⟩
    refine ⟨_, rfl, pp_step (w := 2) ok k1 k2 o I1 L1 (by omega) (by omega) hp1 (qt _) fun l2 s10 I2 L2 hp2 => ?_⟩
    refine ⟨_, rfl, pp_step (w := 3) ok k1 k2 o I2 L2 (by omega) (by omega) hp2 (qt _) fun l3 s10 I3 L3 hp3 => ?_⟩
    have hl3 := (List.getElem?_eq_some_iff.mp hp3).1
    unfold ppEnv
    walk_at "ds"
    exact ⟨3723 - (here + 1), by omega, l3, here + 1, _, _, _, _, _, rfl, by omega, I3.next, L3, rfl⟩
  · refine ite_f (decide_eq_false (by omega)) (h3 _ ?_)
    walk_at "ds"
    have : partL r g1 g2 (first r, first r) = none := partOf_eq (o := none) fun ws d ne => (I.none_bad (by omega) ws d).1 ne
    rw [this] at q
    exact q
end HC
namespace HC
open PySem PySem.Spec PyProof.Rows L2
local macro_rules | `(tactic| walk_at "ds") => `(tactic| try simp only [endD, startD, startT, endLaw, startLaw, List.map_cons, List.map_nil, List.length_cons, List.length_nil, List.replicate, List.cons_append, List.nil_append, Nat.reduceSub, Nat.reduceAdd, sSeq, sRet, sIf, sNil, sAsg, sUnp, sExpr, sPar2, sPar3, xCons, xNil, xVal, xOwn, bTest, bNot, bAnd, bOr, wVar, wPeek, slot, wC, wOp2, wB, wM, wCons, wNil, wTup, wLst, wIf, wAnd, wOr, wNot, wNeg, wCall, wCallT, wSl, wPart, wNoPart, List.set, ex1, gT_t, gT_st, gT_pr, gC_c, gN_c, gNil_c, sRaise, wChain, sFrz, frz, wIsi, wTabIn, wTabAt, sAug, wipeD, En.lp, loopW_nil, d_WEATHERS, ds_WEATHERS, wDisp1, wNewT, wComp, iSeq, iRange, gList_l, sFor, Bool.false_eq_true, if_false, if_true,
  fAdd_i, fAdd_s, fAdd_l, fAdd_t, fAddL_l, fSub_i, fLt_i, fLe_i, fGt_i, fGe_i, fEq_i, fNe_i, fIs_b, fIsN_b, fIs_nn, fIs_in, fIs_ln, fIs_tn, fIsN_nn, fIsN_in, fIsN_ln, fIsN_tn, gMin_2, gMax_2, gLen_l, gLen_t, fIx_rm0, fIx_rm1, fIx_rm2, fIx_st0, fIx_st1, fIx_st2, fIx_rg0, fIx_rg1, fIx_rg2, fSl_rg, fEq_gap, fEq_stay, fEq_late, fEq_look, fEq_lean])
theorem in_parting {r : Rm} {g1 g2 : Rg} {Q : D → Prop} {E : Addr → Prop} (ok : r.Ok) (k1 : g1.Ok r.top) (k2 : g2.Ok r.top) (q : Q (optRow (partL r g1 g2 (first r, first r)))) : sp_parting_of [r.enc, g1.enc, g2.enc] Q E := ⟨(r, g1, g2), rfl, ⟨ok, k1, k2⟩, q⟩
theorem sem_check_two (x : Xc) : ∀ ds Q E, sp_check_two x ds Q E → t_check_two x (endD Q E) (startD 3 ds) := by
  rintro _ Q E ⟨⟨a, b, c⟩, rfl, ⟨h1, h2, h3⟩, q⟩
  replace q : outE Q E (onTwo x a b c fun _ _ _ => .ok .none) := q
  unfold onTwo at q
  unfold t_check_two
  walk_at "ds"
  refine on_rg h1 h2 q fun r g1 ok k1 ea eb q1 => ?_
  exact on_rg h1 h3 q1 fun r' g2 _ k2 _ _ q2 => q2
theorem sem_same (x : Xc) : ∀ ds Q E, sp_same x ds Q E → t_same x (endD Q E) (startD 3 ds) := by
  rintro _ Q E ⟨⟨a, b, c⟩, rfl, h, q⟩
  replace q : outE Q E (sameEx x (a, b, c)) := q
  unfold sameEx at q
  unfold t_same
  walk_at "ds"
  refine on_two h q fun r g1 g2 ok k1 k2 ea eb ec q1 => ?_
  subst ea eb ec
  refine in_parting ok k1 k2 ?_
  cases hp : partL r g1 g2 (first r, first r) with
  | none => rw [hp] at q1; exact q1
  | some ws => rw [hp] at q1; exact q1
end HC
namespace HC
open PySem PySem.Spec PyProof.Rows L2
abbrev TPM := Env → (D → Env → Prop) → (Addr → Prop) → Prop
structure MonoM (t : TPM) : Prop where
  imp : ∀ {r : Env} {Q Q' : D → Env → Prop} {E E' : Addr → Prop}, (∀ d r', Q d r' → Q' d r') → (∀ c, E c → E' c) → t r Q E → t r Q' E'
def lM (C : Ct) (W : XW) (t : TPM) : TE := fun σ H Q => ∃ M r E, Sim C M r σ H ∧ Wish C W M r σ H E ∧ t r (fun d r' => ∀ v H', Stp M H M H' → Sim C M r' σ H' → C.Rp M H' v d → Q v H') E
structure DM (X : Cx) (C : Ct) (W : XW) (e : Expr) (t : TPM) : Prop where
  pe : PE X e (lM C W t)
  mo : MonoM t
def mSetDef (i : Nat) (te tf : TP) : TPM := fun r Q E => match slot r i with
  | .own (.tdict kvs) => te r (fun y => tf r (fun z => ∃ ks, y = .tuple (keysD ks) ∧ (NestedKey.tup ks).depth ≤ 8 ∧ kvs.length < sizeLine ∧ ((∀ d, kvGet kvs (.tup ks) = some d → Q d r) ∧ (kvGet kvs (.tup ks) = none → Q z (r.set i (.own (.tdict (kvPut kvs (.tup ks) z))))))) E) E
  | _ => False
section
variable {X : Cx} {C : Ct} {W : XW} {k : Nat} {o e f : Expr} {te tf : TP} {apos cpos : Pos}
theorem pe_setdefN {td ty tx : TE} (hu : X.A.units + 65 < cLine) (ho : PE X o td) (he : PE X e ty) (hf : PE X f tx) (m : M2 X o "setdefault" apos e f cpos) : PE X (.Call (.Attribute o "setdefault" apos) [e, f] [] cpos) (fun σ H Q => td σ H fun x H1 => ∃ a ob xs, x = .ref a ∧ H1 a = some (dnO a ob) ∧ DEnt X.prog X.w a ob xs ∧ ty σ H1 fun y H2 => tx σ H2 fun z H3 => ∃ M kvs b ks ob xs, y = .ref b ∧ H3 a = some (dnO a ob) ∧ DEnt X.prog X.w a ob xs ∧ RpN X.K X.prog X.w M H3 xs kvs ∧ Rp X.K X.prog X.w M H3 (.ref b) (keyD (.tup ks)) ∧ (NestedKey.tup ks).depth ≤ 8 ∧ xs.length < sizeLine ∧
    ((∀ d, kvGet kvs (.tup ks) = some d → ∀ v, Rp X.K X.prog X.w M H3 v d → Q v H3) ∧ (kvGet kvs (.tup ks) = none → ∀ ob' u, DEnt X.prog X.w a ob' (storedH xs (.tup ks) b u) → RelV z u → Q z (upd H3 a (dnO a ob'))))) := by
  refine ⟨fun pins s σ H Q I h => ?_⟩
  refine wpAny_Call_method m.base m.few m.line PySem.F.plainAttrs_dict PySem.F.slot_dict_setdefault PySem.F.type_dict_setdefault (thn (ho.run pins s σ H _ I h) fun u s1 ⟨x, H1, I1, rx, a, ob, xs, ex, ea, de, q1⟩ => ?_)
  subst ex
  obtain rfl : u = Value.ref a := rx
  obtain ⟨t1, t2⟩ := td_at I1 ea de
  refine ⟨t1, t2, ?_⟩
  rw [m.trees]
  refine Calls.callWith_builtin rfl (Calls.evalArgs_plain (Calls.spliced_cons (thn (he.run pins s1 σ H1 _ I1 q1) fun iv s2 ⟨y, H2, I2, ry, q2⟩ =>
    Calls.spliced_cons (thn (hf.run pins s2 σ H2 _ I2 q2) fun fv s3 ⟨z, H3, I3, rz, M, kvs, b, ks, ob, xs, ey, ea3, de, rn, rk, dp, hz, q3⟩ => Calls.spliced_nil ?_))))
  subst ey
  obtain rfl : iv = Value.ref b := ry
  have hk : NestedIs s3.heap (.tup ks) (.ref b) := key_heap I3 (.tup ks) _ _ rk rfl
  have hm := td_heap I3 ea3 de rn
  refine call_setdefault_heap (knd := nestedKind X.prog X.w) (k := .tup ks) (hsz := Nat.le_of_lt hz) (room8 hu) ⟨hk, dp⟩ de.2.1 hm (fun p hp => ?_) fun hn h' hm' hs => ?_
  · rcases rpn_get (.tup ks) rn with ⟨z1, z2⟩ | ⟨p', v, d', hp', hd, rv, rp⟩
    · rw [z1] at hp; cases hp
    · rw [hp] at hp'
      cases hp'
      exact ⟨v, H3, I3.tok _, rv, q3.1 _ hd v rp⟩
  · have hno : kvGet kvs (.tup ks) = none := by
      rcases rpn_get (.tup ks) rn with ⟨z1, z2⟩ | ⟨p', v, d', hp', hd, rv, rp⟩
      · exact z2
      · rw [hn] at hp'; cases hp'
    have hl := storedH_len xs (.tup ks) b fv
    obtain ⟨ob', g1, g2⟩ := dent_of hm' (by omega) de.2.1 (storedH_keys (p := fun k => k.depth ≤ 8) de.2.2.2.choose_spec.choose_spec.2.2.2 dp)
    refine ⟨z, upd H3 a (dnO a ob'), ?_, rz, q3.2 hno ob' fv g2 rz⟩
    exact I3.write (x := a) (e := a) (by rw [ea3]; trivial) (.inl rfl) (fun c w hc q => (hs.2 c hc).trans q) ⟨_, g1⟩ (dn_objOk g1)
theorem dm_setdef (i : Nat) {x : Str} {p1 : Pos} (G : Good X C W k) (he : DE X C W e te) (hf : DV X C W f tf) (hN : X.N[i]? = some x := by rfl) (hv : Vis X.env.scope x := by first | exact Or.inl rfl | exact Or.inr (Or.inl rfl) | exact Or.inr (Or.inr rfl))
    (hd : (x == ("__debug__" : Str)) = false := by decide) (hcd : (x == ("__classdict__" : Str)) = false := by decide) (m : M2 X (.Name x p1) "setdefault" apos e f cpos := by exact ⟨rfl, rfl, rfl, rfl⟩) :
    DM X C W (.Call (.Attribute (.Name x p1) "setdefault" apos) [e, f] [] cpos) (mSetDef i te tf) := by
  refine ⟨(pe_setdefN G.hu65 (pe_var (i := i) hN hv hd hcd) he.pe hf.pe m).imp fun σ H Q ⟨M, r, E, S, hW, q⟩ => ?_, ⟨fun {r Q Q' E E'} hq hE q => ?_⟩⟩
  · unfold mSetDef at q
    split at q
    · rename_i kvs hsl
      have hr := slot_get hsl (by simp)
      obtain ⟨a, e1, mm, h0, m0, tp⟩ := S.own i _ hr
      have FF := G.fit
      obtain ⟨K0, P0, w0, T0, M0, H0⟩ := C
      obtain ⟨z1, z2, z3⟩ := FF
      cases z1; cases z2; cases z3
      cases tp with
      | @dctN ob xs _ ea de rn =>
        refine ⟨.ref a, e1, a, ob, xs, rfl, ea, de, M, r, E, S, hW, he.mo.imp (fun y z v2 H2 k2 S2 p2 => ⟨M, r, E, S2, hW.mono k2, hf.mo.imp (fun y2 z v3 H3 k3 S3 p3 => ?_) (fun _ z => z) z⟩) (fun _ z => z) q⟩
        obtain ⟨ks, ey, dp, hz, q1, q2⟩ := z
        subst ey
        have nt : ¬ Ct.inT ⟨X.K, X.prog, X.w, T0, M0, H0⟩ a := fun t => m0 (S.inm a t)
        have kk := k2.trans k3
        have ea3 : H3 a = some (dnO a ob) := kk a _ nt ea
        have p2' := S2.rq k3 p2
        obtain ⟨b, zs, rfl, _, _⟩ := p2'.tup
        have rn3 := RpN.step (S.stp kk) rn
        refine ⟨M, kvs, b, ks, ob, xs, rfl, ea3, de, rn3, p2'.tupRp, dp, by rw [rpn_len rn]; exact hz, fun d hd v rv => q1 d hd v H3 (S.stp kk) S3 rv, fun hn ob' u de' ru => ?_⟩
        obtain ⟨s4, S4⟩ := S3.mut (o := dnO a ob') (d' := .tdict (kvPut kvs (.tup ks) y2)) hr e1 fun s4 => .dctN upd_same de' (RpN.step s4 (rpn_put rn3 p2'.tupRp ru p3))
        exact q2 hn _ _ ((S.stp kk).trans s4) S4 (HC.Rp.step s4 p3)
    · exact q.elim
  · unfold mSetDef at q ⊢
    split at q
    · exact he.mo.imp (fun y z => hf.mo.imp (fun w ⟨ks, a, b, c, d1, d2⟩ => ⟨ks, a, b, c, fun d hd => hq _ _ (d1 d hd), fun hn => hq _ _ (d2 hn)⟩) hE z) hE q
    · exact q
end
def sSetM (j : Nat) (tm : TPM) (tj : TP) : TSD := fun e r => tm r (fun d r' => match slot r' j with
  | .own (.tdict kvs) => tj r' (fun y => ∃ ks, y = .tuple (keysD ks) ∧ (NestedKey.tup ks).depth ≤ 8 ∧ kvs.length < sizeLine ∧ e.nx (r'.set j (.own (.tdict (kvPut kvs (.tup ks) d))))) (e.ex r')
  | _ => False) (e.ex r)
section
variable {X : Cx} {C : Ct} {W : XW} {e : Expr} {pos : Pos} {k : Nat}
theorem ds_setM (i : Nat) {x : Str} {ej : Expr} {tm : TPM} {tj : TP} {p1 p2 : Pos} (G : Good X C W k) (he : DM X C W e tm) (hj : DE X C W ej tj) (hN : X.N[i]? = some x := by rfl) (hv : Vis X.env.scope x := by first | exact Or.inl rfl | exact Or.inr (Or.inl rfl) | exact Or.inr (Or.inr rfl))
    (hd : (x == ("__debug__" : Str)) = false := by decide) (hcd : (x == ("__classdict__" : Str)) = false := by decide)
    (ha : ∀ v, assign (.Subscript (.Name x p1) ej p2) X.env v = (do
      let ov ← holding [v] (eval (.Name x p1) X.env)
      let iv ← holding [v, ov] (eval ej X.env)
      standAt p2
      holding [v, ov, iv] (setItem ov iv v)
      release [v, ov, iv] []) := by intro _; rfl)
    (hs : swapsWithSole [.Subscript (.Name x p1) ej p2] e pos.line X.env = pure false := by rfl) (hw : swappedStores [.Subscript (.Name x p1) ej p2] e X.env = pure none := by rfl)
    (h1 : (assignEach [.Subscript (.Name x p1) ej p2] X.env).map (·.2) = [assign (.Subscript (.Name x p1) ej p2) X.env] := by rfl) :
    DS X C W (.Assign [.Subscript (.Name x p1) ej p2] e pos) (sSetM i tm tj) := by
  refine ⟨(ps_asg he.pe (pg_sub (pe_var (i := i) hN hv hd hcd) hj.pe (set_td G.hu65) ha) hs hw h1).imp fun De σ H ⟨M, r, e, S, f, q⟩ => ⟨M, r, e.ex r, S, f.wish S, he.mo.imp (fun d r' z v H1 st S1 p1 => ?_) (fun _ z => z) q⟩, ⟨fun {e e' r} h q => he.mo.imp (fun d r' z => ?_) (fun c z => h.ex _ c z) q⟩⟩
  · split at z
    · rename_i kvs hsl
      have hr := slot_get hsl (by simp)
      obtain ⟨a, e1, m, h0, m0, tp⟩ := S1.own i _ hr
      have f1 := f.step st
      refine ⟨.ref a, e1, M, r', e.ex r', S1, f1.wish S1, hj.mo.imp (fun j z vj H2 k2 S2 p2 => ?_) (fun _ z => z) z⟩
      cases tp with
      | @dctN ob xs _ ea de rn =>
        obtain ⟨ks, ej, dp, hz, z⟩ := z
        subst ej
        have nt : ¬ C.inT a := fun t => m0 (S.inm a t)
        have ea2 : H2 a = some (dnO a ob) := k2 a _ nt ea
        obtain ⟨b, _, rfl, _, _⟩ := p2.tup
        have rn2 := RpN.step (S1.stp k2) rn
        have rv2 := HC.Rp.step (S1.stp k2) p1
        have rk2 := p2.tupRp
        have FF := G.fit
        obtain ⟨K0, P0, w0, T0, M0, H0⟩ := C
        obtain ⟨z1, z2, z3⟩ := FF
        cases z1; cases z2; cases z3
        refine ⟨M, a, b, ob, xs, kvs, ks, rfl, rfl, ea2, de, rn2, rk2, dp, by rw [rpn_len rn]; exact hz, fun ob' u de' ru => ?_⟩
        obtain ⟨s3, S3⟩ := S2.mut (o := dnO a ob') (d' := .tdict (kvPut kvs (.tup ks) d)) hr e1 fun s3 => .dctN upd_same de' (RpN.step s3 (rpn_put rn2 rk2 ru rv2))
        exact f.nx M _ σ _ ((st.trans (S1.stp k2)).trans s3) S3 z
    · exact z.elim
  · split at z
    · rename_i kvs hsl
      exact hj.mo.imp (fun j z => let ⟨ks, a, b, c, z⟩ := z; ⟨ks, a, b, c, h.nx _ z⟩) (fun c z => h.ex _ c z) z
    · exact z
end
end HC
namespace HC
section
variable {β : Type} [DecidableEq β]
def ded : List β → List β := fun l => l.foldl (fun d x => if x ∈ d then d else d ++ [x]) []
theorem ded_nil : ded ([] : List β) = [] := rfl
theorem ded_snoc (l : List β) (x : β) : ded (l ++ [x]) = if x ∈ ded l then ded l else ded l ++ [x] := by
  unfold ded
  rw [List.foldl_append]
  rfl
theorem list_snoc_ind {P : List β → Prop} (h0 : P []) (h1 : ∀ l x, P l → P (l ++ [x])) : ∀ l, P l := fun l => by
  have : ∀ n (l : List β), l.length = n → P l := by
    intro n
    induction n with
    | zero =>
      intro l e
      rw [List.length_eq_zero_iff.mp e]
      exact h0
    | succ n ih =>
      intro l e
      have hne : l ≠ [] := fun z => by rw [z] at e; cases e
      rw [← List.dropLast_concat_getLast hne]
      exact h1 _ _ (ih _ (by rw [List.length_dropLast]; omega))
  exact this _ l rfl
theorem mem_ded {x : β} : ∀ l : List β, x ∈ ded l ↔ x ∈ l := by
  refine list_snoc_ind (by simp [ded_nil]) fun l y ih => ?_
  rw [ded_snoc]
  split
  · rename_i h
    rw [ih, List.mem_append, List.mem_singleton]
    constructor
    · exact .inl
    · rintro (h' | rfl)
      · exact h'
      · exact ih.mp h
  · rw [List.mem_append, List.mem_append, ih]
theorem nodup_ded : ∀ l : List β, (ded l).Nodup := by
  refine list_snoc_ind (by simp [ded_nil]) fun l y ih => ?_
  rw [ded_snoc]
  split
  · exact ih
  · rename_i h
    rw [List.nodup_append]
    refine ⟨ih, by simp, fun a ha b hb z => ?_⟩
    rw [List.mem_singleton.mp hb] at z
    exact h (z ▸ ha)
theorem ded_len (l : List β) : (ded l).length ≤ l.length := sub_len _ _ (nodup_ded l) fun k hk => (mem_ded l).mp hk
theorem ded_pos {l : List β} (h : l ≠ []) : 0 < (ded l).length := by
  cases l with
  | nil => exact absurd rfl h
  | cons a l => exact List.length_pos_of_mem ((mem_ded _).mpr (List.mem_cons_self (a := a) (l := l)))
def ix (d : List β) (x : β) : Nat := d.idxOf x
theorem ix_new {d : List β} {x : β} (h : x ∉ d) : ix (d ++ [x]) x = d.length := by
  unfold ix
  rw [List.idxOf_append, if_neg h]
  simp
theorem idx_snoc {d : List β} {x y : β} (h : x ∈ d) : ix (d ++ [y]) x = ix d x := by
  unfold ix
  rw [List.idxOf_append, if_pos h]
theorem idx_inj {d : List β} {x y : β} (hx : x ∈ d) (hy : y ∈ d) : ix d x = ix d y ↔ x = y := by
  unfold ix
  constructor
  · intro e
    have h1 := List.getElem_idxOf (List.idxOf_lt_length_of_mem hx)
    have h2 := List.getElem_idxOf (List.idxOf_lt_length_of_mem hy)
    have : d[d.idxOf x]? = d[d.idxOf y]? := by rw [e]
    rw [List.getElem?_eq_getElem (List.idxOf_lt_length_of_mem hx), List.getElem?_eq_getElem (List.idxOf_lt_length_of_mem hy), h1, h2] at this
    exact Option.some.inj this
  · rintro rfl
    rfl
end
section
variable {α β γ : Type} [DecidableEq β] [DecidableEq γ]
theorem part_same {l : List α} {f : α → β} {h : α → γ} (hr : ∀ a ∈ l, ∀ b ∈ l, h a = h b → f a = f b) (hn : (ded (l.map h)).length ≤ (ded (l.map f)).length) : ∀ a ∈ l, ∀ b ∈ l, f a = f b → h a = h b := by
  intro a ha b hb e
  refine Classical.byContradiction fun ne => ?_
  have hbm : h b ∈ ded (l.map h) := (mem_ded _).mpr (List.mem_map.mpr ⟨b, hb, rfl⟩)
  let φ : γ → β := fun y => f (@Classical.epsilon α ⟨a⟩ fun c => c ∈ l ∧ h c = y)
  have φh : ∀ c ∈ l, φ (h c) = f c := fun c hc => by
    have z := @Classical.epsilon_spec α (fun c' => c' ∈ l ∧ h c' = h c) ⟨c, hc, rfl⟩
    exact hr _ z.1 c hc z.2
  have key := sub_len (ded (l.map f)) (((ded (l.map h)).erase (h b)).map φ) (nodup_ded _) fun v hv => by
    obtain ⟨c, hc, rfl⟩ := List.mem_map.mp ((mem_ded _).mp hv)
    by_cases z : h c = h b
    · refine List.mem_map.mpr ⟨h a, (List.mem_erase_of_ne ne).mpr ((mem_ded _).mpr (List.mem_map.mpr ⟨a, ha, rfl⟩)), ?_⟩
      rw [φh a ha, e]
      exact (hr c hc b hb z).symm
    · exact List.mem_map.mpr ⟨h c, (List.mem_erase_of_ne z).mpr ((mem_ded _).mpr (List.mem_map.mpr ⟨c, hc, rfl⟩)), φh c hc⟩
  rw [List.length_map, List.length_erase_of_mem hbm] at key
  have := List.length_pos_of_mem hbm
  omega
theorem part_le {l : List α} {f : α → β} {h : α → γ} (hr : ∀ a ∈ l, ∀ b ∈ l, h a = h b → f a = f b) : (ded (l.map f)).length ≤ (ded (l.map h)).length := by
  cases l with
  | nil => simp [ded_nil]
  | cons a0 l0 =>
    let φ : γ → β := fun y => f (@Classical.epsilon α ⟨a0⟩ fun c => c ∈ a0 :: l0 ∧ h c = y)
    have φh : ∀ c ∈ a0 :: l0, φ (h c) = f c := fun c hc => by
      have z := @Classical.epsilon_spec α (fun c' => c' ∈ a0 :: l0 ∧ h c' = h c) ⟨c, hc, rfl⟩
      exact hr _ z.1 c hc z.2
    have key := sub_len (ded ((a0 :: l0).map f)) ((ded ((a0 :: l0).map h)).map φ) (nodup_ded _) fun v hv => by
      obtain ⟨c, hc, rfl⟩ := List.mem_map.mp ((mem_ded _).mp hv)
      exact List.mem_map.mpr ⟨h c, (mem_ded _).mpr (List.mem_map.mpr ⟨c, hc, rfl⟩), φh c hc⟩
    rwa [List.length_map] at key
end
end HC
namespace HC
abbrev Sp := Nat × Sta
def rgAt (gs : List Rg) (i : Nat) : Rg := (gs[i]?).getD ⟨.gap, 0, 1, 0⟩
def nxt (r : Rm) (gs : List Rg) (a : Sp) (w : Int) : Sp := (a.1, tick r (rgAt gs a.1) a.2 w)
def spotsL (r : Rm) (gs : List Rg) : List Sp := (List.range gs.length).flatMap fun i => (keysL r (rgAt gs i)).map fun s => (i, s)
section
variable {r : Rm} {gs : List Rg}
theorem rgAt_ok (G : GivenF r gs) {i : Nat} (h : i < gs.length) : (rgAt gs i).Ok r.top := by
  unfold rgAt
  rw [List.getElem?_eq_getElem h]
  exact G.gk _ (List.getElem_mem h)
theorem mem_spots {a : Sp} : a ∈ spotsL r gs ↔ a.1 < gs.length ∧ a.2 ∈ keysL r (rgAt gs a.1) := by
  unfold spotsL
  rw [List.mem_flatMap]
  constructor
  · rintro ⟨i, hi, h⟩
    obtain ⟨s, hs, rfl⟩ := List.mem_map.mp h
    exact ⟨List.mem_range.mp hi, hs⟩
  · rintro ⟨h1, h2⟩
    exact ⟨a.1, List.mem_range.mpr h1, List.mem_map.mpr ⟨a.2, h2, rfl⟩⟩
theorem spots_nodup (G : GivenF r gs) : (spotsL r gs).Nodup := by
  unfold spotsL
  rw [List.nodup_iff_pairwise_ne, List.pairwise_flatMap]
  refine ⟨fun i hi => ?_, ?_⟩
  · have := (rows_good G.ok (rgAt_ok G (List.mem_range.mp hi))).1.nd
    rw [List.nodup_iff_pairwise_ne] at this
    rw [List.pairwise_map]
    exact this.imp fun h e => h (by injection e)
  · refine List.Pairwise.imp ?_ (List.nodup_iff_pairwise_ne.mp List.nodup_range)
    intro i j hij a ha b hb e
    obtain ⟨s, _, rfl⟩ := List.mem_map.mp ha
    obtain ⟨t, _, rfl⟩ := List.mem_map.mp hb
    injection e with e1 _
    exact hij e1
theorem spots_len (G : GivenF r gs) : (spotsL r gs).length ≤ 488 := by
  unfold spotsL
  rw [List.length_flatMap]
  have : ∀ n : Nat, n ≤ gs.length → ((List.range n).map fun i => ((keysL r (rgAt gs i)).map fun s => ((i, s) : Sp)).length).sum ≤ n * 61 := by
    intro n
    induction n with
    | zero => intro _; simp
    | succ n ih =>
      intro hn
      rw [List.range_succ, List.map_append, List.sum_append]
      have h1 := ih (by omega)
      have h2 := keys_len G.ok (rgAt_ok G (show n < gs.length by omega))
      simp only [List.map_cons, List.map_nil, List.sum_cons, List.sum_nil, List.length_map] at h2 ⊢
      simp only [List.length_map] at h1
      omega
  have h := this gs.length (Nat.le_refl _)
  have := G.l8
  omega
theorem spots_closed (G : GivenF r gs) {a : Sp} (h : a ∈ spotsL r gs) {w : Int} (w1 : 1 ≤ w) (w3 : w ≤ 3) : nxt r gs a w ∈ spotsL r gs := by
  obtain ⟨h1, h2⟩ := mem_spots.mp h
  exact mem_spots.mpr ⟨h1, rows_closed G.ok (rgAt_ok G h1) h2 w1 w3⟩
theorem spots_first (G : GivenF r gs) {i : Nat} (h : i < gs.length) : (i, first r) ∈ spotsL r gs := mem_spots.mpr ⟨h, List.mem_map.mpr ⟨_, List.mem_of_getElem? (rows_good G.ok (rgAt_ok G h)).2.2, rfl⟩⟩
theorem spots_ne (G : GivenF r gs) : spotsL r gs ≠ [] := fun z => by
  have := spots_first G (show 0 < gs.length from G.l1)
  rw [z] at this
  cases this
end
def swS (a : Sp) : Int := a.2.2.1
def EqK (r : Rm) (gs : List Rg) (k : Nat) (a b : Sp) : Prop := ∀ ws, Dg ws → ws ≠ [] → ws.length ≤ k → swS (aft (nxt r gs) a ws) = swS (aft (nxt r gs) b ws)
def Alk (r : Rm) (gs : List Rg) (a b : Sp) : Prop := ∀ ws, Dg ws → ws ≠ [] → swS (aft (nxt r gs) a ws) = swS (aft (nxt r gs) b ws)
def shp (r : Rm) (gs : List Rg) (f : Sp → Int) (a : Sp) : List Int := [f a, swS (nxt r gs a 1), f (nxt r gs a 1), swS (nxt r gs a 2), f (nxt r gs a 2), swS (nxt r gs a 3), f (nxt r gs a 3)]
section
variable {r : Rm} {gs : List Rg}
theorem eqk_succ {k : Nat} {a b : Sp} : EqK r gs (k + 1) a b ↔ ∀ w : Int, 1 ≤ w → w ≤ 3 → swS (nxt r gs a w) = swS (nxt r gs b w) ∧ EqK r gs k (nxt r gs a w) (nxt r gs b w) := by
  constructor
  · intro h w w1 w3
    refine ⟨h [w] (fun v hv => by rw [List.mem_singleton.mp hv]; exact ⟨w1, w3⟩) (by simp) (by simp), fun ws d ne hl => ?_⟩
    exact h (w :: ws) (fun v hv => by
      rcases List.mem_cons.mp hv with rfl | hv
      · exact ⟨w1, w3⟩
      · exact d v hv) (by simp) (by simp; omega)
  · intro h ws d ne hl
    cases ws with
    | nil => exact absurd rfl ne
    | cons w ws =>
      obtain ⟨w1, w3⟩ := d w (by simp)
      obtain ⟨h1, h2⟩ := h w w1 w3
      by_cases z : ws = []
      · subst z
        exact h1
      · exact h2 ws (fun v hv => d v (List.mem_cons_of_mem _ hv)) z (by simp at hl; omega)
theorem eqk_mono {k m : Nat} {a b : Sp} (h : EqK r gs m a b) (hk : k ≤ m) : EqK r gs k a b := fun ws d ne hl => h ws d ne (by omega)
theorem alk_iff {a b : Sp} : Alk r gs a b ↔ ∀ k, EqK r gs k a b := ⟨fun h k ws d ne _ => h ws d ne, fun h ws d ne => h ws.length ws d ne (Nat.le_refl _)⟩
theorem w123 {P : Int → Prop} : (∀ w : Int, 1 ≤ w → w ≤ 3 → P w) ↔ P 1 ∧ P 2 ∧ P 3 := by
  constructor
  · intro h
    exact ⟨h 1 (by omega) (by omega), h 2 (by omega) (by omega), h 3 (by omega) (by omega)⟩
  · rintro ⟨a, b, c⟩ w w1 w3
    have : w = 1 ∨ w = 2 ∨ w = 3 := by omega
    rcases this with rfl | rfl | rfl <;> assumption
theorem shp_eq (G : GivenF r gs) {k : Nat} {f : Sp → Int} (hf : ∀ a ∈ spotsL r gs, ∀ b ∈ spotsL r gs, f a = f b ↔ EqK r gs k a b) : ∀ a ∈ spotsL r gs, ∀ b ∈ spotsL r gs, shp r gs f a = shp r gs f b ↔ EqK r gs (k + 1) a b := by
  intro a ha b hb
  have c := fun {w : Int} (w1 : 1 ≤ w) (w3 : w ≤ 3) => hf _ (spots_closed G ha w1 w3) _ (spots_closed G hb w1 w3)
  have c1 := c (w := 1) (by omega) (by omega)
  have c2 := c (w := 2) (by omega) (by omega)
  have c3 := c (w := 3) (by omega) (by omega)
  rw [eqk_succ, w123]
  unfold shp
  simp only [List.cons.injEq, and_true]
  rw [hf a ha b hb, c1, c2, c3]
  constructor
  · rintro ⟨_, h1, h2, h3, h4, h5, h6⟩
    exact ⟨⟨h1, h2⟩, ⟨h3, h4⟩, h5, h6⟩
  · rintro ⟨⟨h1, h2⟩, ⟨h3, h4⟩, h5, h6⟩
    refine ⟨?_, h1, h2, h3, h4, h5, h6⟩
    refine eqk_mono (m := k + 1) ?_ (Nat.le_succ k)
    rw [eqk_succ, w123]
    exact ⟨⟨h1, h2⟩, ⟨h3, h4⟩, h5, h6⟩
def fresh1 (r : Rm) (gs : List Rg) (f : Sp → Int) (a : Sp) : Int := (ix (ded ((spotsL r gs).map (shp r gs f))) (shp r gs f a) : Nat)
def nShp (r : Rm) (gs : List Rg) (f : Sp → Int) : Nat := (ded ((spotsL r gs).map (shp r gs f))).length
theorem fresh1_eq {f : Sp → Int} {a b : Sp} (ha : a ∈ spotsL r gs) (hb : b ∈ spotsL r gs) : fresh1 r gs f a = fresh1 r gs f b ↔ shp r gs f a = shp r gs f b := by
  unfold fresh1
  rw [← idx_inj (d := ded ((spotsL r gs).map (shp r gs f))) ((mem_ded _).mpr (List.mem_map.mpr ⟨a, ha, rfl⟩)) ((mem_ded _).mpr (List.mem_map.mpr ⟨b, hb, rfl⟩))]
  omega
structure Rnd (r : Rm) (gs : List Rg) (f : Sp → Int) (many : Nat) : Prop where
  k : ∃ k, ∀ a ∈ spotsL r gs, ∀ b ∈ spotsL r gs, f a = f b ↔ EqK r gs k a b
  m : many = (ded ((spotsL r gs).map f)).length
theorem ded_const {α : Type} (c : Int) : ∀ l : List α, l ≠ [] → (ded (l.map fun _ => c)).length = 1 := by
  intro l hl
  have h1 := ded_pos (l := l.map fun _ => c) (by simpa using hl)
  have h2 := sub_len (ded (l.map fun _ => c)) [c] (nodup_ded _) fun k hk => by
    obtain ⟨_, _, rfl⟩ := List.mem_map.mp ((mem_ded _).mp hk)
    simp
  simp at h2
  omega
theorem Rnd.start (G : GivenF r gs) : Rnd r gs (fun _ => 0) 1 := ⟨⟨0, fun a _ b _ => ⟨fun _ ws _ ne hl => absurd (List.length_eq_zero_iff.mp (by omega)) ne, fun _ => rfl⟩⟩, (ded_const 0 _ (spots_ne G)).symm⟩
theorem Rnd.next (G : GivenF r gs) {f : Sp → Int} {many : Nat} (R : Rnd r gs f many) : Rnd r gs (fresh1 r gs f) (nShp r gs f) := by
  obtain ⟨k, hk⟩ := R.k
  refine ⟨⟨k + 1, fun a ha b hb => (fresh1_eq ha hb).trans (shp_eq G hk a ha b hb)⟩, ?_⟩
  have h1 := part_le (l := spotsL r gs) (f := shp r gs f) (h := fresh1 r gs f) fun a ha b hb e => (fresh1_eq ha hb).mp e
  have h2 := part_le (l := spotsL r gs) (f := fresh1 r gs f) (h := shp r gs f) fun a ha b hb e => (fresh1_eq ha hb).mpr e
  unfold nShp
  omega
theorem shp_head {f : Sp → Int} {a b : Sp} (h : shp r gs f a = shp r gs f b) : f a = f b := by
  unfold shp at h
  injection h
theorem Rnd.up {f : Sp → Int} {many : Nat} (R : Rnd r gs f many) : many ≤ nShp r gs f := by
  rw [R.m]
  exact part_le fun a _ b _ e => shp_head e
theorem nShp_le (G : GivenF r gs) (f : Sp → Int) : nShp r gs f ≤ 488 := by
  unfold nShp
  refine Nat.le_trans (ded_len _) ?_
  rw [List.length_map]
  exact spots_len G
theorem Rnd.stays (G : GivenF r gs) {f : Sp → Int} {many : Nat} (R : Rnd r gs f many) (e : nShp r gs f = many) : ∀ a ∈ spotsL r gs, ∀ b ∈ spotsL r gs, f a = f b ↔ Alk r gs a b := by
  obtain ⟨k, hk⟩ := R.k
  have same := part_same (l := spotsL r gs) (f := f) (h := shp r gs f) (fun a _ b _ e => shp_head e) (by
    have := R.m
    unfold nShp at e
    omega)
  have step : ∀ a ∈ spotsL r gs, ∀ b ∈ spotsL r gs, EqK r gs k a b → EqK r gs (k + 1) a b := fun a ha b hb h => (shp_eq G hk a ha b hb).mp (same a ha b hb ((hk a ha b hb).mpr h))
  have all : ∀ m, ∀ a ∈ spotsL r gs, ∀ b ∈ spotsL r gs, EqK r gs k a b → EqK r gs (k + m) a b := by
    intro m
    induction m with
    | zero => intro a _ b _ h; exact h
    | succ m ih =>
      intro a ha b hb h
      show EqK r gs (k + m + 1) a b
      rw [eqk_succ]
      intro w w1 w3
      have := eqk_succ.mp (step a ha b hb h) w w1 w3
      exact ⟨this.1, ih _ (spots_closed G ha w1 w3) _ (spots_closed G hb w1 w3) this.2⟩
  intro a ha b hb
  rw [hk a ha b hb, alk_iff]
  constructor
  · intro h m
    exact eqk_mono (all m a ha b hb h) (by omega)
  · intro h
    exact h k
end
end HC
namespace HC
open PySem PySem.Spec PyProof.Rows L2
def encSp (a : Sp) : D := .tuple [.int a.1, encSt a.2]
def encSps (l : List Sp) : D := .list (l.map encSp)
def spK (a : Sp) : NestedKey := .tup [.num a.1, stK a.2]
theorem spK_inj (a b : Sp) (h : spK a = spK b) : a = b := by
  obtain ⟨a1, a2⟩ := a
  obtain ⟨b1, b2⟩ := b
  simp only [spK, NestedKey.tup.injEq, List.cons.injEq, NestedKey.num.injEq, and_true] at h
  rw [stK_inj _ _ h.2, show a1 = b1 by omega]
theorem spK_depth (a : Sp) : (spK a).depth ≤ 8 := by show 2 ≤ 8; decide
def encF {β : Type} (g : β → D) (l : List Sp) (f : Sp → β) : D := .tdict (encL spK g (l.map fun a => (a, f a)))
section
variable {β : Type} {g : β → D} {l : List Sp} {f : Sp → β} {a : Sp} {Q : D → Prop}
theorem lk_fun (h : a ∈ l) : lkp (l.map fun a => (a, f a)) a = some (f a) := by
  induction l with
  | nil => cases h
  | cons b l ih =>
    rw [List.map_cons, lkp]
    by_cases e : b = a
    · rw [if_pos e, e]
    · rw [if_neg e]
      rcases List.mem_cons.mp h with z | z
      · exact absurd z.symm e
      · exact ih z
theorem lk_no (h : a ∉ l) : lkp (l.map fun a => (a, f a)) a = none := by
  refine lkp_none.mpr fun z => h ?_
  rw [List.map_map] at z
  obtain ⟨b, hb, e⟩ := List.mem_map.mp z
  exact e ▸ hb
theorem fIx_sp (h : a ∈ l) (q : Q (g (f a))) : fIx (encF g l f) (encSp a) Q := ⟨_, g (f a), rfl, spK_depth a, by rw [show NestedKey.tup _ = spK a from rfl, get_encL spK_inj, lk_fun h]; rfl, q⟩
theorem put_sp (h : a ∉ l) {ks : List NestedKey} (e : ks = [.num a.1, stK a.2]) {d : D} (hd : d = g (f a)) : D.tdict (kvPut (encL spK g (l.map fun a => (a, f a))) (.tup ks) d) = encF g (l ++ [a]) f := by
  subst e hd
  have := put_encL (g := g) spK_inj (l.map fun a => (a, f a)) a (f a)
  rw [show NestedKey.tup [.num a.1, stK a.2] = spK a from rfl, this, putL_new (lkp_none.mp (lk_no h))]
  show D.tdict _ = D.tdict _
  rw [List.map_append]
  rfl
theorem len_sp (h : l.length < 1000) : (encL spK g (l.map fun a => (a, f a))).length < sizeLine := by
  unfold encL
  rw [List.length_map, List.length_map]
  exact small1000 (by omega)
end
def sp_sorts_of : SpD := spAny (fun a : Rm × List Rg => [a.1.enc, .list (a.2.map Rg.enc)]) (fun a => GivenF a.1 a.2) (fun a d => ∃ f : Sp → Int, d = encF D.int (spotsL a.1 a.2) f ∧ ∀ b ∈ spotsL a.1 a.2, ∀ c ∈ spotsL a.1 a.2, f b = f c ↔ Alk a.1 a.2 b c)
theorem mo_sorts_of : MonoSp 2 sp_sorts_of := mo_spAny fun _ => rfl
noncomputable def alkD (r : Rm) (gs : List Rg) (i j : Nat) : Bool := @decide (Alk r gs (i, first r) (j, first r)) (Classical.propDecidable _)
noncomputable def clsL (r : Rm) (gs : List Rg) : List (List Nat) := ((List.range gs.length).filter fun i => (List.range i).all fun j => !alkD r gs j i).map fun i => (List.range gs.length).filter fun j => alkD r gs j i
noncomputable def sp_classes (x : Xc) : SpD := spEx (fun a : D × D => [a.1, a.2]) (fun a => a.1.plain = true ∧ a.2.plain = true) (fun a => onFam x a.1 a.2 fun r gs => .ok (encGrps (clsL r gs)))
theorem mo_classes (x : Xc) : MonoSp 2 (sp_classes x) := mo_spEx fun _ => rfl
theorem enum_map : ∀ (gs : List Rg) (n : Nat), enumD n (gs.map Rg.enc) = (gs.zipIdx n).map fun p => D.tuple [.int p.2, p.1.enc]
  | [], n => rfl
  | g :: gs, n => by
    rw [List.map_cons, enumD, enum_map gs (n + 1), List.zipIdx_cons, List.map_cons]
end HC
namespace HC
open PySem PySem.Spec PyProof.Rows L2
noncomputable def t_sorts_of : TSD :=
  sSeq (sPar3 2 3 4 (xCons (xOwn (wLst wNil)) (xCons (xOwn wNewT) (xCons (xOwn wNewT) xNil))))
    (sSeq (sFor (iEnumD (wVar 1)) (gT (gCons' (gN 5) (gCons' (gN 6) gNil'))) (sFor (iSeq (wCall sp_rows_of (wCons (wVar 0) (wCons (wVar 6) wNil)))) (gN 7) (sSeq (sApp 2 (wTup (wCons (wVar 5) (wCons (wVar 7) wNil))))
    (sSeq (sSet 3 (wComp [14] (iSeq (wC d_WEATHERS)) (gN 14) bYes (wTup (wCons (wVar 5) (wCons (wCall sp_step (wCons (wVar 0) (wCons (wVar 6) (wCons (wVar 7) (wCons (wVar 14) wNil))))) wNil)))) (wTup (wCons (wVar 5) (wCons (wVar 7) wNil))))
    (sSet 4 (wC (.int 0)) (wTup (wCons (wVar 5) (wCons (wVar 7) wNil))))))))
    (sSeq (sAsg 8 (xVal (wC (.int 1))))
    (sWhile (bTest (wC (.bool true))) (sSeq (sPar2 9 10 (xCons (xOwn wNewT) (xCons (xOwn wNewT) xNil)))
    (sSeq (sFrz 2 (sFor (iSeq (wVar 2)) (gN 11) (sSeq (sAsg 12 (xOwn (wLst (wCons (wOp2 fIx (wPeek 4) (wPeek 11)) wNil))))
    (sSeq (sFor (iSeq (wOp2 fIx (wPeek 3) (wPeek 11))) (gN 13) (sAug 12 (wLst (wCons (wOp2 fIx (wOp2 fIx (wPeek 13) (wC (.int 1))) (wC (.int 1))) (wCons (wOp2 fIx (wPeek 4) (wPeek 13)) wNil)))))
    (sSetM 10 (mSetDef 9 (wB gTuple (wCons (wPeek 12) wNil)) (wB gLen (wCons (wPeek 9) wNil))) (wPeek 11))))))
    (sSeq (sIf (bTest (wOp2 fEq (wB gLen (wCons (wPeek 9) wNil)) (wPeek 8))) (sFrz 4 (sRet (wVar 4))) sNil)
    (sFrz 10 (sPar2 4 8 (xCons (xVal (wVar 10)) (xCons (xVal (wB gLen (wCons (wPeek 9) wNil))) xNil))))))))))
noncomputable def t_classes (x : Xc) : TSD :=
  sSeq (sExpr (wCall (sp_check_family x) (wCons (wVar 0) (wCons (wVar 1) wNil))))
    (sSeq (sAsg 2 (xVal (wCall sp_sorts_of (wCons (wVar 0) (wCons (wVar 1) wNil)))))
    (sRet (wCall sp_groups_by (wCons (wComp [3] (iRange (wCons (wB gLen (wCons (wPeek 1) wNil)) wNil)) (gN 3) bYes (wOp2 fIx (wPeek 2) (wTup (wCons (wVar 3) (wCons (wCall sp_first_state (wCons (wVar 0) wNil)) wNil))))) wNil))))
end HC
namespace HC
open PySem PySem.Spec PyProof.Rows L2
local macro_rules | `(tactic| walk_at "ds") => `(tactic| try simp only [endD, startD, startT, endLaw, startLaw, List.map_cons, List.map_nil, List.length_cons, List.length_nil, List.replicate, List.cons_append, List.nil_append, Nat.reduceSub, Nat.reduceAdd, sSeq, sRet, sIf, sNil, sAsg, sUnp, sExpr, sPar2, sPar3, xCons, xNil, xVal, xOwn, bTest, bNot, bAnd, bOr, wVar, wPeek, slot, wC, wOp2, wB, wM, wCons, wNil, wTup, wLst, wIf, wAnd, wOr, wNot, wNeg, wCall, wCallT, wSl, wPart, wNoPart, List.set, ex1, gT_t, gT_st, gT_pr, gC_c, gN_c, gNil_c, sRaise, wChain, sFrz, frz, wIsi, wTabIn, wTabAt, sAug, wipeD, En.lp, loopW_nil, d_WEATHERS, ds_WEATHERS, wDisp1, wNewT, wComp, iSeq, iRange, gList_l, sFor, Bool.false_eq_true, if_false, if_true,
  fAdd_i, fAdd_s, fAdd_l, fAdd_t, fAddL_l, fSub_i, fLt_i, fLe_i, fGt_i, fGe_i, fEq_i, fNe_i, fIs_b, fIsN_b, fIs_nn, fIs_in, fIs_ln, fIs_tn, fIsN_nn, fIsN_in, fIsN_ln, fIsN_tn, gMin_2, gMax_2, gLen_l, gLen_t, fIx_rm0, fIx_rm1, fIx_rm2, fIx_st0, fIx_st1, fIx_st2, fIx_rg0, fIx_rg1, fIx_rg2, fSl_rg, fEq_gap, fEq_stay, fEq_late, fEq_look, fEq_lean])
def bh (r : Rm) (gs : List Rg) (a : Sp) : List Sp := [nxt r gs a 1, nxt r gs a 2, nxt r gs a 3]
def soEnv (r : Rm) (gs : List Rg) (pre : List Sp) (s5 s6 s7 : Sl) : Env := [.val r.enc, .val (.list (gs.map Rg.enc)), .own (encSps pre), .own (encF encSps pre (bh r gs)), .own (encF D.int pre fun _ => 0), s5, s6, s7, .un, .un, .un, .un, .un, .un, .un]
def soBody : TSD := sSeq (sApp 2 (wTup (wCons (wVar 5) (wCons (wVar 7) wNil))))
    (sSeq (sSet 3 (wComp [14] (iSeq (wC d_WEATHERS)) (gN 14) bYes (wTup (wCons (wVar 5) (wCons (wCall sp_step (wCons (wVar 0) (wCons (wVar 6) (wCons (wVar 7) (wCons (wVar 14) wNil))))) wNil)))) (wTup (wCons (wVar 5) (wCons (wVar 7) wNil))))
    (sSet 4 (wC (.int 0)) (wTup (wCons (wVar 5) (wCons (wVar 7) wNil)))))
theorem so_step {r : Rm} {gs : List Rg} {pre : List Sp} {a : Sp} {g : Rg} {e : En} (hg : rgAt gs a.1 = g) (hn : a ∉ pre) (hl : pre.length ≤ 900)
    (q : e.nx (soEnv r gs (pre ++ [a]) (.val (.int a.1)) (.val g.enc) (.val (encSt a.2)))) : soBody e (soEnv r gs pre (.val (.int a.1)) (.val g.enc) (.val (encSt a.2))) := by
  unfold soBody soEnv
  refine seq_g fun n1 h1 => ?_
  unfold sApp encSps
  walk_at "ds"
  refine ⟨small1000 (by rw [List.length_map]; omega), h1 _ ?_⟩
  rw [show D.tuple [.int a.1, encSt a.2] = encSp a from rfl]
  refine seq_g fun n2 h2 => ?_
  refine sSet_tdG (kvs := encL spK encSps (pre.map fun a => (a, bh r gs a))) rfl ?_
  walk_at "ds"
  refine ⟨by decide, ?_⟩
  refine comp_enc D.int (fun w => encSp (nxt r gs a w)) [1, 2, 3] (fun w hw => ⟨_, rfl, fun Q' q' => ?_⟩) ?_
  · walk_at "ds"
    refine in_step (E := E0') ?_
    unfold nxt at q'
    rw [hg] at q'
    exact q'
  refine ⟨[.num a.1, stK a.2], rfl, spK_depth a, len_sp (by omega), h2 _ ?_⟩
  rw [put_sp (g := encSps) (f := bh r gs) (d := D.list (List.map (fun w => encSp (nxt r gs a w)) [1, 2, 3])) hn rfl rfl]
  refine sSet_tdG (kvs := encL spK D.int (pre.map fun a => (a, 0))) rfl ?_
  walk_at "ds"
  refine ⟨[.num a.1, stK a.2], rfl, spK_depth a, len_sp (by omega), ?_⟩
  rw [put_sp (g := D.int) (f := fun _ => (0 : Int)) (d := D.int 0) hn rfl rfl]
  unfold soEnv encSps at q
  rw [List.map_append] at q
  exact q
theorem zip_rg (gs : List Rg) : gs.zipIdx = (List.range gs.length).map fun i => (rgAt gs i, i) := by
  refine List.ext_getElem? fun n => ?_
  rw [List.getElem?_zipIdx, List.getElem?_map]
  by_cases h : n < gs.length
  · rw [List.getElem?_range h, List.getElem?_eq_getElem h]
    show some (gs[n], 0 + n) = some (rgAt gs n, n)
    unfold rgAt
    rw [List.getElem?_eq_getElem h, Nat.zero_add]
    rfl
  · rw [List.getElem?_eq_none (by omega), List.getElem?_eq_none (by rw [List.length_range]; omega)]
    rfl
theorem spots_zip (r : Rm) (gs : List Rg) : spotsL r gs = gs.zipIdx.flatMap fun p => (keysL r p.1).map fun s => (p.2, s) := by
  rw [zip_rg, List.flatMap_map]
  rfl
theorem so_all {r : Rm} {gs : List Rg} {e : En} (G : GivenF r gs) (q : ∀ s5 s6 s7, e.nx (soEnv r gs (spotsL r gs) s5 s6 s7)) :
    sFor (iEnumD (wVar 1)) (gT (gCons' (gN 5) (gCons' (gN 6) gNil'))) (sFor (iSeq (wCall sp_rows_of (wCons (wVar 0) (wCons (wVar 6) wNil)))) (gN 7) soBody) e (soEnv r gs [] .un .un .un) := by
  have nd := spots_nodup G
  have ln := spots_len G
  unfold sFor iEnumD
  show loopW _ _ _ (enumD 0 (gs.map Rg.enc)) _
  rw [enum_map]
  refine loop_gen (fun p : Rg × Nat => D.tuple [.int p.2, p.1.enc]) (fun rest env => ∃ (pre : List Sp) (s5 s6 s7 : Sl), spotsL r gs = pre ++ (rest.flatMap fun p => (keysL r p.1).map fun s => (p.2, s)) ∧ (∀ p ∈ rest, rgAt gs p.2 = p.1 ∧ p.2 < gs.length) ∧ env = soEnv r gs pre s5 s6 s7) gs.zipIdx _ ⟨[], .un, .un, .un, spots_zip r gs, fun p hp => ?_, rfl⟩ ?_ ?_
  · rw [zip_rg] at hp
    obtain ⟨i, hi, rfl⟩ := List.mem_map.mp hp
    exact ⟨rfl, List.mem_range.mp hi⟩
  · rintro _ ⟨pre, s5, s6, s7, h1, _, rfl⟩
    rw [List.flatMap_nil, List.append_nil] at h1
    rw [← h1]
    exact q _ _ _
  · rintro ⟨g, i⟩ rest _ ⟨pre, s5, s6, s7, h1, h2, rfl⟩
    obtain ⟨hg, hi⟩ := h2 (g, i) (by simp)
    replace hg : rgAt gs i = g := hg
    replace hi : i < gs.length := hi
    refine ⟨soEnv r gs pre (.val (.int i)) (.val g.enc) s7, rfl, fun go => ?_⟩
    have gk : g.Ok r.top := hg ▸ rgAt_ok G hi
    unfold soEnv
    simp only [iSeq, wCall, wCons, wVar, wNil, slot]
    refine in_rows G.ok gk ?_
    rw [rows_td]
    dsimp only
    rw [keys_sd]
    rw [List.flatMap_cons] at h1
    replace h1 : spotsL r gs = pre ++ ((keysL r g).map (fun s => (i, s)) ++ rest.flatMap fun p => (keysL r p.1).map fun s => (p.2, s)) := h1
    refine loop_gen encSt (fun ks env => ∃ (pre' : List Sp) (s7 : Sl), spotsL r gs = pre' ++ (ks.map (fun s => (i, s)) ++ rest.flatMap fun p => (keysL r p.1).map fun s => (p.2, s)) ∧ env = soEnv r gs pre' (.val (.int i)) (.val g.enc) s7) _ _ ⟨pre, s7, h1, rfl⟩ ?_ ?_
    · rintro _ ⟨pre', s7, h3, rfl⟩
      exact go _ ⟨pre', _, _, _, by simpa using h3, fun p hp => h2 p (List.mem_cons_of_mem _ hp), rfl⟩
    · rintro s ks _ ⟨pre', s7, h3, rfl⟩
      refine ⟨soEnv r gs pre' (.val (.int i)) (.val g.enc) (.val (encSt s)), rfl, fun go2 => ?_⟩
      have hnot : (i, s) ∉ pre' := fun z => by
        rw [h3, List.nodup_append] at nd
        exact nd.2.2 _ z (i, s) (by simp) rfl
      have hpl : pre'.length ≤ 488 := by
        have := congrArg List.length h3
        rw [List.length_append] at this
        omega
      refine so_step (a := (i, s)) hg hnot (by omega) (go2 _ ⟨pre' ++ [(i, s)], _, ?_, rfl⟩)
      rw [h3]
      simp
end HC
namespace HC
open PySem PySem.Spec PyProof.Rows L2
local macro_rules | `(tactic| walk_at "ds") => `(tactic| try simp only [endD, startD, startT, endLaw, startLaw, List.map_cons, List.map_nil, List.length_cons, List.length_nil, List.replicate, List.cons_append, List.nil_append, Nat.reduceSub, Nat.reduceAdd, sSeq, sRet, sIf, sNil, sAsg, sUnp, sExpr, sPar2, sPar3, xCons, xNil, xVal, xOwn, bTest, bNot, bAnd, bOr, wVar, wPeek, slot, wC, wOp2, wB, wM, wCons, wNil, wTup, wLst, wIf, wAnd, wOr, wNot, wNeg, wCall, wCallT, wSl, wPart, wNoPart, List.set, ex1, gT_t, gT_st, gT_pr, gC_c, gN_c, gNil_c, sRaise, wChain, sFrz, frz, wIsi, wTabIn, wTabAt, sAug, wipeD, En.lp, loopW_nil, d_WEATHERS, ds_WEATHERS, wDisp1, wNewT, wComp, iSeq, iRange, gList_l, sFor, sSetM, mSetDef, gTuple_l, Bool.false_eq_true, if_false, if_true,
  fAdd_i, fAdd_s, fAdd_l, fAdd_t, fAddL_l, fSub_i, fLt_i, fLe_i, fGt_i, fGe_i, fEq_i, fNe_i, fIs_b, fIsN_b, fIs_nn, fIs_in, fIs_ln, fIs_tn, fIsN_nn, fIsN_in, fIsN_ln, fIsN_tn, gMin_2, gMax_2, gLen_l, gLen_t, fIx_rm0, fIx_rm1, fIx_rm2, fIx_st0, fIx_st1, fIx_st2, fIx_rg0, fIx_rg1, fIx_rg2, fSl_rg, fEq_gap, fEq_stay, fEq_late, fEq_look, fEq_lean])
def shK (l : List Int) : NestedKey := .tup (l.map .num)
theorem shK_inj (a b : List Int) (h : shK a = shK b) : a = b := by
  unfold shK at h
  injection h with h
  exact (List.map_inj_right (fun x y e => by injection e)).mp h
theorem keysD_num : ∀ l : List Int, keysD (l.map .num) = l.map D.int
  | [] => rfl
  | a :: l => by
    rw [List.map_cons, List.map_cons, ← keysD_num l]
    rfl
def encSh (d : List (List Int)) : List (NestedKey × D) := encL shK (fun n : Nat => D.int n) (d.map fun x => (x, ix d x))
theorem sh_get {d : List (List Int)} {x : List Int} : kvGet (encSh d) (shK x) = if x ∈ d then some (.int (ix d x)) else none := by
  unfold encSh
  rw [get_encL shK_inj]
  by_cases h : x ∈ d
  · rw [if_pos h]
    have : lkp (d.map fun x => (x, ix d x)) x = some (ix d x) := by
      generalize ix d = F
      induction d with
      | nil => cases h
      | cons b l ih =>
        rw [List.map_cons, lkp]
        by_cases e : b = x
        · rw [if_pos e, e]
        · rw [if_neg e]
          rcases List.mem_cons.mp h with z | z
          · exact absurd z.symm e
          · exact ih z
    rw [this]
    rfl
  · rw [if_neg h, lkp_none.mpr]
    · rfl
    · rw [List.map_map]
      intro z
      obtain ⟨b, hb, e⟩ := List.mem_map.mp z
      exact h (e ▸ hb)
theorem sh_put {d : List (List Int)} {x : List Int} (h : x ∉ d) : kvPut (encSh d) (shK x) (.int d.length) = encSh (d ++ [x]) := by
  have := put_encL (g := fun n : Nat => D.int n) shK_inj (d.map fun x => (x, ix d x)) x d.length
  unfold encSh
  rw [this, putL_new (by
    rw [List.map_map]
    intro z
    obtain ⟨b, hb, e⟩ := List.mem_map.mp z
    exact h (e ▸ hb)), List.map_append]
  congr 1
  rw [List.map_cons, List.map_nil, ix_new h]
  congr 1
  refine List.map_congr_left fun b hb => ?_
  rw [idx_snoc hb]
theorem sh_len {d : List (List Int)} : (encSh d).length = d.length := by
  unfold encSh encL
  rw [List.length_map, List.length_map]
def rdEnv (r : Rm) (gs : List Rg) (s2 s4 s5 s6 s7 s8 : Sl) (f : Sp → Int) (pre : List Sp) (s11 s12 s13 : Sl) : Env := [.val r.enc, .val (.list (gs.map Rg.enc)), s2, .own (encF encSps (spotsL r gs) (bh r gs)), s4, s5, s6, s7, s8, .own (.tdict (encSh (ded (pre.map (shp r gs f))))), .own (encF D.int pre fun b => (ix (ded (pre.map (shp r gs f))) (shp r gs f b) : Nat)), s11, s12, s13, .un]
def rdBody : TSD := sSeq (sAsg 12 (xOwn (wLst (wCons (wOp2 fIx (wPeek 4) (wPeek 11)) wNil))))
    (sSeq (sFor (iSeq (wOp2 fIx (wPeek 3) (wPeek 11))) (gN 13) (sAug 12 (wLst (wCons (wOp2 fIx (wOp2 fIx (wPeek 13) (wC (.int 1))) (wC (.int 1))) (wCons (wOp2 fIx (wPeek 4) (wPeek 13)) wNil)))))
    (sSetM 10 (mSetDef 9 (wB gTuple (wCons (wPeek 12) wNil)) (wB gLen (wCons (wPeek 9) wNil))) (wPeek 11)))
theorem fIx_sp1 {a : Sp} {Q : D → Prop} : fIx (encSp a) (.int 1) Q = Q (encSt a.2) := ex1
theorem rd_step {r : Rm} {gs : List Rg} {s2 s4 s5 s6 s7 s8 s12 s13 : Sl} {f : Sp → Int} {pre : List Sp} {a : Sp} {e : En} (G : GivenF r gs) (h4 : s4 = .own (encF D.int (spotsL r gs) f) ∨ s4 = .val (encF D.int (spotsL r gs) f)) (ha : a ∈ spotsL r gs) (hn : a ∉ pre) (hl : pre.length ≤ 900)
    (q : ∀ s12 s13, e.nx (rdEnv r gs s2 s4 s5 s6 s7 s8 f (pre ++ [a]) (.val (encSp a)) s12 s13)) : rdBody e (rdEnv r gs s2 s4 s5 s6 s7 s8 f pre (.val (encSp a)) s12 s13) := by
  have c := fun {w : Int} (w1 : 1 ≤ w) (w3 : w ≤ 3) => spots_closed G ha w1 w3
  have dl : (ded (pre.map (shp r gs f))).length ≤ 900 := Nat.le_trans (ded_len _) (by rw [List.length_map]; exact hl)
  have fin : ∀ s13, sSetM 10 (mSetDef 9 (wB gTuple (wCons (wPeek 12) wNil)) (wB gLen (wCons (wPeek 9) wNil))) (wPeek 11) e (rdEnv r gs s2 s4 s5 s6 s7 s8 f pre (.val (encSp a)) (.own (.list ((shp r gs f a).map D.int))) s13) := fun s13 => by
    have q' := q (.own (.list ((shp r gs f a).map D.int))) s13
    unfold rdEnv at q' ⊢
    rw [List.map_append, List.map_cons, List.map_nil, ded_snoc] at q'
    have hdep : (shK (shp r gs f a)).depth ≤ 8 := by show 1 ≤ 8; decide
    generalize hx : shp r gs f a = x at q' hdep ⊢
    walk_at "ds"
    rw [← keysD_num]
    refine ⟨x.map .num, rfl, hdep, by rw [sh_len]; exact small1000 (by omega), fun d hd => ?_, fun hd => ?_⟩
    · rw [show NestedKey.tup (x.map .num) = shK x from rfl, sh_get] at hd
      by_cases hin : x ∈ ded (pre.map (shp r gs f))
      · rw [if_pos hin] at hd q'
        cases hd
        refine ⟨[.num a.1, stK a.2], rfl, spK_depth a, len_sp (by omega), ?_⟩
        rw [put_sp (g := D.int) (l := pre) (f := fun b => ((ix (ded (pre.map (shp r gs f))) (shp r gs f b) : Nat) : Int)) (d := .int (ix (ded (pre.map (shp r gs f))) x : Nat)) hn rfl (by rw [hx]), keysD_num]
        exact q'
      · rw [if_neg hin] at hd
        cases hd
    · rw [show NestedKey.tup (x.map .num) = shK x from rfl, sh_get] at hd
      by_cases hin : x ∈ ded (pre.map (shp r gs f))
      · rw [if_pos hin] at hd
        cases hd
      · rw [if_neg hin] at q'
        refine ⟨[.num a.1, stK a.2], rfl, spK_depth a, len_sp (by omega), ?_⟩
        have ec : (pre.map fun b => (b, ((ix (ded (pre.map (shp r gs f))) (shp r gs f b) : Nat) : Int))) = pre.map fun b => (b, ((ix (ded (pre.map (shp r gs f)) ++ [x]) (shp r gs f b) : Nat) : Int)) := List.map_congr_left fun b hb => by
          rw [idx_snoc ((mem_ded _).mpr (List.mem_map.mpr ⟨b, hb, rfl⟩))]
        rw [ec]
        show e.nx [_, _, _, _, _, _, _, _, _, .own (.tdict (kvPut (encSh (ded (pre.map (shp r gs f)))) (shK x) (.int ((encSh (ded (pre.map (shp r gs f)))).length : Nat)))), _, _, _, _, _]
        rw [put_sp (g := D.int) (l := pre) (f := fun b => ((ix (ded (pre.map (shp r gs f)) ++ [x]) (shp r gs f b) : Nat) : Int)) (d := .int ((encSh (ded (pre.map (shp r gs f)))).length : Nat)) hn rfl (by rw [hx, ix_new hin, sh_len]), sh_len, sh_put hin, keysD_num]
        exact q'
  unfold rdBody
  refine seq_g fun n1 h1 => ?_
  unfold rdEnv
  rcases h4 with rfl | rfl
  all_goals
    walk_at "ds"
    refine fIx_sp ha (h1 _ ?_)
    refine seq_g fun n2 h2 => ?_
    walk_at "ds"
    refine fIx_sp ha ?_
    rw [encSps]
    show loopW _ _ _ [encSp (nxt r gs a 1), encSp (nxt r gs a 2), encSp (nxt r gs a 3)] _
    refine ⟨_, rfl, ?_⟩
    walk_at "ds"
    rw [fIx_sp1, fIx_st1]
    refine fIx_sp (c (by omega) (by omega)) ⟨by decide, ?_⟩
    refine ⟨_, rfl, ?_⟩
    walk_at "ds"
    rw [fIx_sp1, fIx_st1]
    refine fIx_sp (c (by omega) (by omega)) ⟨by decide, ?_⟩
    refine ⟨_, rfl, ?_⟩
    walk_at "ds"
    rw [fIx_sp1, fIx_st1]
    refine fIx_sp (c (by omega) (by omega)) ⟨by decide, ?_⟩
    exact h2 _ (fin _)
end HC
namespace HC
open PySem PySem.Spec PyProof.Rows L2
local macro_rules | `(tactic| walk_at "ds") => `(tactic| try simp only [endD, startD, startT, endLaw, startLaw, List.map_cons, List.map_nil, List.length_cons, List.length_nil, List.replicate, List.cons_append, List.nil_append, Nat.reduceSub, Nat.reduceAdd, sSeq, sRet, sIf, sNil, sAsg, sUnp, sExpr, sPar2, sPar3, xCons, xNil, xVal, xOwn, bTest, bNot, bAnd, bOr, wVar, wPeek, slot, wC, wOp2, wB, wM, wCons, wNil, wTup, wLst, wIf, wAnd, wOr, wNot, wNeg, wCall, wCallT, wSl, wPart, wNoPart, List.set, ex1, gT_t, gT_st, gT_pr, gC_c, gN_c, gNil_c, sRaise, wChain, sFrz, frz, wIsi, wTabIn, wTabAt, sAug, wipeD, En.lp, loopW_nil, d_WEATHERS, ds_WEATHERS, wDisp1, wNewT, wComp, iSeq, iRange, gList_l, sFor, Bool.false_eq_true, if_false, if_true,
  fAdd_i, fAdd_s, fAdd_l, fAdd_t, fAddL_l, fSub_i, fLt_i, fLe_i, fGt_i, fGe_i, fEq_i, fNe_i, fIs_b, fIsN_b, fIs_nn, fIs_in, fIs_ln, fIs_tn, fIsN_nn, fIsN_in, fIsN_ln, fIsN_tn, gMin_2, gMax_2, gLen_l, gLen_t, fIx_rm0, fIx_rm1, fIx_rm2, fIx_st0, fIx_st1, fIx_st2, fIx_rg0, fIx_rg1, fIx_rg2, fSl_rg, fEq_gap, fEq_stay, fEq_late, fEq_look, fEq_lean])
theorem gLen_td {kvs : List (NestedKey × D)} {Q : D → Prop} : gLen [.tdict kvs] Q = Q (.int kvs.length) := rfl
theorem rd_all {r : Rm} {gs : List Rg} {s4 s5 s6 s7 s8 s11 s12 s13 : Sl} {f : Sp → Int} {e : En} (G : GivenF r gs) (h4 : s4 = .own (encF D.int (spotsL r gs) f) ∨ s4 = .val (encF D.int (spotsL r gs) f))
    (q : ∀ s11 s12 s13, e.nx (rdEnv r gs (.val (encSps (spotsL r gs))) s4 s5 s6 s7 s8 f (spotsL r gs) s11 s12 s13)) :
    loopW (gN 11) rdBody e ((spotsL r gs).map encSp) (rdEnv r gs (.val (encSps (spotsL r gs))) s4 s5 s6 s7 s8 f [] s11 s12 s13) := by
  have nd := spots_nodup G
  have ln := spots_len G
  refine loop_gen encSp (fun rest env => ∃ (pre : List Sp) (s11 s12 s13 : Sl), spotsL r gs = pre ++ rest ∧ env = rdEnv r gs (.val (encSps (spotsL r gs))) s4 s5 s6 s7 s8 f pre s11 s12 s13) _ _ ⟨[], s11, s12, s13, rfl, rfl⟩ ?_ ?_
  · rintro _ ⟨pre, s11, s12, s13, h, rfl⟩
    rw [List.append_nil] at h
    rw [← h]
    exact q _ _ _
  · rintro a rest _ ⟨pre, s11, s12, s13, h, rfl⟩
    refine ⟨rdEnv r gs (.val (encSps (spotsL r gs))) s4 s5 s6 s7 s8 f pre (.val (encSp a)) s12 s13, rfl, fun go => ?_⟩
    have ha : a ∈ spotsL r gs := by rw [h]; simp
    have hn : a ∉ pre := fun z => by
      rw [h, List.nodup_append] at nd
      exact nd.2.2 a z a (by simp) rfl
    have hl : pre.length ≤ 488 := by
      have := congrArg List.length h
      rw [List.length_append] at this
      omega
    exact rd_step G h4 ha hn (by omega) fun s12 s13 => go _ ⟨pre ++ [a], _, _, _, by rw [h]; simp, rfl⟩
theorem sem_sorts_of : ∀ ds Q E, sp_sorts_of ds Q E → t_sorts_of (endD Q E) (startD 15 ds) := by
  rintro _ Q E ⟨⟨r, gs⟩, rfl, G, q⟩
  replace G : GivenF r gs := G
  replace q : ∀ d, (∃ f : Sp → Int, d = encF D.int (spotsL r gs) f ∧ ∀ b ∈ spotsL r gs, ∀ c ∈ spotsL r gs, f b = f c ↔ Alk r gs b c) → Q d := q
  unfold t_sorts_of
  refine seq_g fun n1 h1 => ?_
  walk_at "ds"
  refine h1 _ ?_
  refine seq_g fun n2 h2 => ?_
  refine so_all G fun s5 s6 s7 => h2 _ ?_
  refine seq_g fun n3 h3 => ?_
  unfold soEnv
  walk_at "ds"
  refine h3 _ ?_
  unfold sWhile
  refine ⟨fun m env => ∃ (f : Sp → Int) (many : Nat) (s2 s4 s9 s10 s11 s12 s13 : Sl), m = 489 - many ∧ Rnd r gs f many ∧ (s2 = .own (encSps (spotsL r gs)) ∨ s2 = .val (encSps (spotsL r gs))) ∧ (s4 = .own (encF D.int (spotsL r gs) f) ∨ s4 = .val (encF D.int (spotsL r gs) f)) ∧
      env = [.val r.enc, .val (.list (gs.map Rg.enc)), s2, .own (encF encSps (spotsL r gs) (bh r gs)), s4, s5, s6, s7, .val (.int many), s9, s10, s11, s12, s13, .un],
    ⟨488, fun _ => 0, 1, _, _, .un, .un, .un, .un, .un, rfl, Rnd.start G, .inl rfl, .inl rfl, rfl⟩, ?_⟩
  rintro m env ⟨f, many, s2, s4, s9, s10, s11, s12, s13, hm, R, hs2, hs4, rfl⟩
  have up := R.up
  have nl := nShp_le G f
  walk_at "ds"
  have fin : ∀ (e : En) (s11 s12 s13 : Sl), e.rt = Q → (∀ s2 s9 s10 s11 s12 s13, s2 = Sl.val (encSps (spotsL r gs)) → nShp r gs f ≠ many → e.nx [.val r.enc, .val (.list (gs.map Rg.enc)), s2, .own (encF encSps (spotsL r gs) (bh r gs)), .val (encF D.int (spotsL r gs) (fresh1 r gs f)), s5, s6, s7, .val (.int (nShp r gs f)), s9, s10, s11, s12, s13, .un]) →
      sSeq (sIf (bTest (wOp2 fEq (wB gLen (wCons (wPeek 9) wNil)) (wPeek 8))) (sFrz 4 (sRet (wVar 4))) sNil) (sFrz 10 (sPar2 4 8 (xCons (xVal (wVar 10)) (xCons (xVal (wB gLen (wCons (wPeek 9) wNil))) xNil)))) e (rdEnv r gs (.val (encSps (spotsL r gs))) s4 s5 s6 s7 (.val (.int many)) f (spotsL r gs) s11 s12 s13) := fun e s11 s12 s13 ert go => by
    refine seq_g fun n4 h4 => ?_
    unfold rdEnv
    walk_at "ds"
    rw [gLen_td, sh_len, fEq_i]
    by_cases c : nShp r gs f = many
    · refine ite_t (decide_eq_true (by unfold nShp at c; omega)) ?_
      rw [ert]
      have := q _ ⟨f, rfl, R.stays G c⟩
      rcases hs4 with rfl | rfl
      · exact this
      · exact this
    · refine ite_f (decide_eq_false (by unfold nShp at c; omega)) (h4 _ ?_)
      walk_at "ds"
      rw [gLen_td, sh_len]
      exact go _ _ _ _ _ _ rfl c
  rcases hs2 with rfl | rfl
  · walk_at "ds"
    refine rd_all G hs4 fun s11 s12 s13 => ?_
    refine nx_i ?_
    refine fin _ _ _ _ rfl fun s2 s9 s10 s11 s12 s13 hs2 c => ?_
    exact ⟨489 - nShp r gs f, by omega, fresh1 r gs f, nShp r gs f, _, _, _, _, _, _, _, rfl, R.next G, .inr hs2, .inr rfl, rfl⟩
  · walk_at "ds"
    refine rd_all G hs4 fun s11 s12 s13 => ?_
    refine nx_i ?_
    refine fin _ _ _ _ rfl fun s2 s9 s10 s11 s12 s13 hs2 c => ?_
    exact ⟨489 - nShp r gs f, by omega, fresh1 r gs f, nShp r gs f, _, _, _, _, _, _, _, rfl, R.next G, .inr hs2, .inr rfl, rfl⟩
end HC
namespace HC
open PySem PySem.Spec PyProof.Rows L2
local macro_rules | `(tactic| walk_at "ds") => `(tactic| try simp only [endD, startD, startT, endLaw, startLaw, List.map_cons, List.map_nil, List.length_cons, List.length_nil, List.replicate, List.cons_append, List.nil_append, Nat.reduceSub, Nat.reduceAdd, sSeq, sRet, sIf, sNil, sAsg, sUnp, sExpr, sPar2, sPar3, xCons, xNil, xVal, xOwn, bTest, bNot, bAnd, bOr, wVar, wPeek, slot, wC, wOp2, wB, wM, wCons, wNil, wTup, wLst, wIf, wAnd, wOr, wNot, wNeg, wCall, wCallT, wSl, wPart, wNoPart, List.set, ex1, gT_t, gT_st, gT_pr, gC_c, gN_c, gNil_c, sRaise, wChain, sFrz, frz, wIsi, wTabIn, wTabAt, sAug, wipeD, En.lp, loopW_nil, d_WEATHERS, ds_WEATHERS, wDisp1, wNewT, wComp, iSeq, iRange, gList_l, sFor, Bool.false_eq_true, if_false, if_true,
  fAdd_i, fAdd_s, fAdd_l, fAdd_t, fAddL_l, fSub_i, fLt_i, fLe_i, fGt_i, fGe_i, fEq_i, fNe_i, fIs_b, fIsN_b, fIs_nn, fIs_in, fIs_ln, fIs_tn, fIsN_nn, fIsN_in, fIsN_ln, fIsN_tn, gMin_2, gMax_2, gLen_l, gLen_t, fIx_rm0, fIx_rm1, fIx_rm2, fIx_st0, fIx_st1, fIx_st2, fIx_rg0, fIx_rg1, fIx_rg2, fSl_rg, fEq_gap, fEq_stay, fEq_late, fEq_look, fEq_lean])
theorem grp_rel {l : List Int} {n : Nat} (hl : l.length = n) {R : Nat → Nat → Bool} (h : ∀ i j, i < n → j < n → (l[i]? = l[j]? ↔ R i j = true)) : grpD (l.map D.int) = ((List.range n).filter fun i => (List.range i).all fun j => !R j i).map fun i => (List.range n).filter fun j => R j i := by
  unfold grpD
  rw [List.length_map, hl]
  have e1 : (List.range n).filter (firstD (l.map D.int)) = (List.range n).filter fun i => (List.range i).all fun j => !R j i := List.filter_congr fun i hi => by
    have hi' := List.mem_range.mp hi
    have hil : i < l.length := by omega
    unfold firstD
    rw [List.getElem?_map, List.getElem?_eq_getElem hil]
    show (!dIn (.int l[i]) ((l.map D.int).take i)) = _
    rw [← List.map_take, dIn_enc enc_int, Bool.eq_iff_iff]
    simp only [Bool.not_eq_true', decide_eq_false_iff_not, List.all_eq_true, List.mem_range]
    constructor
    · intro hn j hj
      cases e : R j i with
      | false => rfl
      | true =>
        have := (h j i (by omega) hi').mpr e
        rw [List.getElem?_eq_getElem hil] at this
        exact absurd (List.mem_take_iff_getElem.mpr ⟨j, by omega, by
          have hj' := (List.getElem?_eq_some_iff.mp this).2
          exact hj'⟩) hn
    · intro ha hm
      obtain ⟨j, hj, e⟩ := List.mem_take_iff_getElem.mp hm
      have := ha j (by omega)
      have h2 := (h j i (by omega) hi').mp (by rw [List.getElem?_eq_getElem (by omega), List.getElem?_eq_getElem hil, e])
      rw [h2] at this
      cases this
  rw [e1]
  refine List.map_congr_left fun i hi => ?_
  have hi' := List.mem_range.mp (List.mem_filter.mp hi).1
  refine List.filter_congr fun j hj => ?_
  have hj' := List.mem_range.mp hj
  rw [eqAt_enc enc_int (by omega) (by omega), Bool.eq_iff_iff, decide_eq_true_iff]
  exact h j i hj' hi'
theorem sem_classes (x : Xc) : ∀ ds Q E, sp_classes x ds Q E → t_classes x (endD Q E) (startD 4 ds) := by
  rintro _ Q E ⟨⟨a, b⟩, rfl, ⟨h1, h2⟩, q⟩
  replace q : outE Q E (onFam x a b fun r gs => .ok (encGrps (clsL r gs))) := q
  unfold t_classes
  walk_at "ds"
  refine on_fam h1 h2 q fun r gs G ea eb q1 => ?_
  clear q
  subst ea eb
  have l8 := G.l8
  refine ⟨(r, gs), rfl, G, fun d ⟨f, e, hf⟩ => ?_⟩
  subst e
  walk_at "ds"
  refine ⟨⟨by omega, by rw [List.length_map]; omega⟩, ?_⟩
  rw [Int.toNat_natCast, List.length_map, rngD_zero]
  refine ⟨le1000 (by rw [List.length_map, List.length_range]; omega), ?_⟩
  refine comp_enc (fun (k : Nat) => D.int (k : Int)) (fun k => .int (f (k, first r))) _ (fun k hk => ⟨_, rfl, fun Q' q' => ?_⟩) ?_
  · walk_at "ds"
    refine in_first (E := E0') ?_
    exact fIx_sp (a := (k, first r)) (spots_first G (List.mem_range.mp hk)) q'
  have el : (List.range gs.length).map (fun k => D.int (f (k, first r))) = ((List.range gs.length).map fun k => f (k, first r)).map D.int := by rw [List.map_map]; rfl
  rw [el]
  refine in_groups_by (by rw [List.length_map, List.length_map, List.length_range]; omega) (fun d hd => sh_map (sh_int' 60) _ d hd) ?_
  rw [grp_rel (n := gs.length) (R := alkD r gs) (by rw [List.length_map, List.length_range]) fun i j hi hj => ?_]
  · exact q1
  · rw [List.getElem?_map, List.getElem?_map, List.getElem?_range hi, List.getElem?_range hj]
    show some (f (i, first r)) = some (f (j, first r)) ↔ _
    rw [Option.some.injEq, hf _ (spots_first G hi) _ (spots_first G hj)]
    unfold alkD
    simp
end HC
namespace HC
open PySem PySem.Spec PyProof.Rows L2
section
variable {r : Rm} {gs : List Rg}
theorem aft_nxt {i : Nat} (s : Sta) : ∀ ws, aft (nxt r gs) (i, s) ws = (i, aft (tick r (rgAt gs i)) s ws) := by
  refine snoc_ind rfl fun ws w ih => ?_
  rw [aft_snoc, aft_snoc, ih]
  rfl
theorem aft_st2 {g1 g2 : Rg} (s t : Sta) : ∀ ws, aft (st2 r g1 g2) (s, t) ws = (aft (tick r g1) s ws, aft (tick r g2) t ws) := by
  refine snoc_ind rfl fun ws w ih => ?_
  rw [aft_snoc, aft_snoc, aft_snoc, ih]
  rfl
theorem alk_part {i j : Nat} : Alk r gs (i, first r) (j, first r) ↔ partL r (rgAt gs i) (rgAt gs j) (first r, first r) = none := by
  have key : ∀ ws, bad2 (aft (st2 r (rgAt gs i) (rgAt gs j)) (first r, first r) ws) = false ↔ swS (aft (nxt r gs) (i, first r) ws) = swS (aft (nxt r gs) (j, first r) ws) := fun ws => by
    rw [aft_st2, aft_nxt, aft_nxt]
    unfold bad2 swS
    simp
  constructor
  · intro h
    exact partOf_eq (o := none) fun ws d ne => (key ws).mpr (h ws d ne)
  · intro h ws d ne
    have := partOf_is (stp := st2 r (rgAt gs i) (rgAt gs j)) (bad := bad2) (s := (first r, first r))
    rw [show partOf (st2 r (rgAt gs i) (rgAt gs j)) bad2 (first r, first r) = none from h] at this
    exact (key ws).mp (this ws d ne)
theorem bad_sym {g1 g2 : Rg} (s t : Sta) (ws : List Int) : bad2 (aft (st2 r g1 g2) (s, t) ws) = bad2 (aft (st2 r g2 g1) (t, s) ws) := by
  rw [aft_st2, aft_st2]
  unfold bad2
  congr 1
  exact decide_eq_decide.mpr ⟨Eq.symm, Eq.symm⟩
theorem part_sym {g1 g2 : Rg} (s t : Sta) : partL r g1 g2 (s, t) = partL r g2 g1 (t, s) := by
  have h := partOf_is (stp := st2 r g1 g2) (bad := bad2) (s := (s, t))
  have h2 := partOf_is (stp := st2 r g2 g1) (bad := bad2) (s := (t, s))
  refine h.one ?_
  show IsPart (st2 r g1 g2) bad2 (s, t) (partOf (st2 r g2 g1) bad2 (t, s))
  cases e : partOf (st2 r g2 g1) bad2 (t, s) with
  | none =>
    rw [e] at h2
    exact fun ws d ne => by rw [bad_sym]; exact h2 ws d ne
  | some row =>
    rw [e] at h2
    exact ⟨h2.dg, h2.ne, by rw [bad_sym]; exact h2.bd, fun ws d ne b => h2.le ws d ne (by rw [← bad_sym]; exact b)⟩
theorem part_self (g : Rg) : partL r g g (first r, first r) = none := partOf_eq (o := none) fun ws _ _ => by
  rw [aft_st2]
  unfold bad2
  simp
end
end HC
namespace HC
open PySem PySem.Spec PyProof.Rows L2
def stLt (s t : Sta) : Bool := decide (s.1 < t.1) || (decide (s.1 = t.1) && (decide (s.2.1 < t.2.1) || (decide (s.2.1 = t.2.1) && decide (s.2.2 < t.2.2))))
abbrev tokS (s : Sta) : List (Int ⊕ List Nat) := [.inl 1, .inl s.1, .inl 1, .inl s.2.1, .inl 1, .inl s.2.2, .inl 0]
theorem lex_int (a b : Int) (l m : List (Int ⊕ List Nat)) : lexLt itemOrd (.inl a :: l) (.inl b :: m) = (decide (a < b) || (decide (a = b) && lexLt itemOrd l m)) := by
  rw [lex_cons]
  show (decide (a < b) || (!decide (b < a) && lexLt itemOrd l m)) = _
  rcases Int.lt_trichotomy a b with c | c | c
  · rw [decide_eq_true c]; rfl
  · subst c
    rw [decide_eq_false (Int.lt_irrefl a), decide_eq_true (Eq.refl a)]; rfl
  · rw [decide_eq_false (by omega), decide_eq_true c, decide_eq_false (by omega : ¬ a = b)]; rfl
theorem lex_st (s t : Sta) (X Y : List (Int ⊕ List Nat)) : lexLt itemOrd (tokS s ++ X) (tokS t ++ Y) = if s = t then lexLt itemOrd X Y else stLt s t := by
  obtain ⟨a, b, c⟩ := s
  obtain ⟨a', b', c'⟩ := t
  show lexLt itemOrd (.inl 1 :: .inl a :: .inl 1 :: .inl b :: .inl 1 :: .inl c :: .inl 0 :: X) (.inl 1 :: .inl a' :: .inl 1 :: .inl b' :: .inl 1 :: .inl c' :: .inl 0 :: Y) = _
  rw [lex_int, lex_int, lex_int, lex_int, lex_int, lex_int, lex_int]
  unfold stLt
  by_cases h1 : a = a'
  · subst h1
    by_cases h2 : b = b'
    · subst h2
      by_cases h3 : c = c'
      · subst h3
        simp
      · simp [h3]
    · simp [h2]
  · simp [h1]
theorem dataLt_st (s t : Sta) : PySem.W.dataLt (encSt s).py (encSt t).py = stLt s t := by
  show lexLt itemOrd (tokS s) (tokS t) = _
  have := lex_st s t [] []
  rw [List.append_nil, List.append_nil] at this
  rw [this]
  by_cases h : s = t
  · subst h
    rw [if_pos rfl]
    show false = _
    unfold stLt
    simp
  · rw [if_neg h]
theorem le_st (s t : Sta) : PySem.W.dataLe false D.py (encSt s) (encSt t) = !stLt t s := by
  show (!PySem.W.dataLt (encSt t).py (encSt s).py) = _
  rw [dataLt_st]
theorem stLt_irr (s : Sta) : stLt s s = false := by unfold stLt; simp
theorem stLt_tot {s t : Sta} (h : s ≠ t) (h2 : stLt t s = false) : stLt s t = true := by
  obtain ⟨a, b, c⟩ := s
  obtain ⟨a', b', c'⟩ := t
  unfold stLt at h2 ⊢
  simp only [Bool.or_eq_true, Bool.and_eq_true, decide_eq_true_eq, Bool.or_eq_false_iff, Bool.and_eq_false_iff, decide_eq_false_iff_not] at h2 ⊢
  have : ¬ (a = a' ∧ b = b' ∧ c = c') := fun z => h (by rw [z.1, z.2.1, z.2.2])
  omega
theorem stLt_tr {s t u : Sta} (h : stLt s t = true) (h2 : stLt t u = true) : stLt s u = true := by
  unfold stLt at h h2 ⊢
  simp only [Bool.or_eq_true, Bool.and_eq_true, decide_eq_true_eq] at h h2 ⊢
  omega
theorem srtS_asc {l : List Sta} (nd : l.Nodup) : (srtS l).Pairwise fun s t => stLt s t = true := by
  have e : srtS l = l.mergeSort fun a b => !stLt b a := by
    unfold srtS
    congr 1
    funext a b
    exact le_st a b
  have pw := List.pairwise_mergeSort (le := fun a b : Sta => !stLt b a) (fun a b c h1 h2 => by
    simp only [Bool.not_eq_true'] at h1 h2 ⊢
    cases h3 : stLt c a with
    | false => rfl
    | true =>
      by_cases ab : a = b
      · subst ab; rw [h2] at h3; cases h3
      · have := stLt_tr h3 (stLt_tot ab h1)
        rw [h2] at this
        cases this) (fun a b => by
    cases h : stLt b a with
    | false => rfl
    | true =>
      cases h' : stLt a b with
      | false => rfl
      | true => have := stLt_tr h h'; rw [stLt_irr] at this; cases this) l
  rw [← e] at pw
  have nd2 : (srtS l).Nodup := (List.mergeSort_perm l _).nodup_iff.mpr nd
  refine (pw.and nd2).imp fun {a b} z => ?_
  have z1 : (!stLt b a) = true := z.1
  exact stLt_tot z.2 (by simpa using z1)
def Eqv (r : Rm) (g : Rg) (s t : Sta) : Prop := ∀ ws, Dg ws → ws ≠ [] → (aft (tick r g) s ws).2.1 = (aft (tick r g) t ws).2.1
section
variable {r : Rm} {g : Rg}
theorem Eqv.symm {s t : Sta} (h : Eqv r g s t) : Eqv r g t s := fun ws d n => (h ws d n).symm
theorem Eqv.trans {s t u : Sta} (h : Eqv r g s t) (h2 : Eqv r g t u) : Eqv r g s u := fun ws d n => (h ws d n).trans (h2 ws d n)
end
def joinS : List (List Sta) → List Bool → Sta → List (List Sta)
  | g :: gs, b :: bs, x => if b = true then (g ++ [x]) :: gs else g :: joinS gs bs x
  | gs, _, x => gs ++ [[x]]
structure Grp (E : Sta → Sta → Prop) (pre : List Sta) (acc : List (List Sta)) : Prop where
  ne : ∀ q ∈ acc, q ≠ []
  al : ∀ q ∈ acc, ∀ s ∈ q, ∀ t ∈ q, E s t
  ap : acc.Pairwise fun q q' => ∀ s ∈ q, ∀ t ∈ q', ¬ E s t
  me : ∀ s, s ∈ pre ↔ ∃ q ∈ acc, s ∈ q
  ln : (acc.map List.length).sum = pre.length
  hd : acc.Pairwise fun q q' => ∀ s ∈ q.head?, ∀ t ∈ q'.head?, stLt s t = true
def hdS (q : List Sta) : Sta := q.headD (0, 0, 0)
theorem hd_mem {q : List Sta} (h : q ≠ []) : hdS q ∈ q ∧ q.head? = some (hdS q) := by
  cases q with
  | nil => exact absurd rfl h
  | cons a l => exact ⟨List.mem_cons_self, rfl⟩
section
variable {E : Sta → Sta → Prop} (rf : ∀ s, E s s) (sy : ∀ {s t}, E s t → E t s) (tr : ∀ {s t u}, E s t → E t u → E s u)
include rf sy tr
theorem Grp.add {pre : List Sta} {acc : List (List Sta)} (G : Grp E pre acc) {x : Sta} (lt : ∀ s ∈ pre, stLt s x = true) {eb : Sta → Sta → Bool} (he : ∀ s t, eb s t = true ↔ E s t) : Grp E (pre ++ [x]) (joinS acc (acc.map fun q => eb (hdS q) x) x) := by
  have key : ∀ (ys xs : List (List Sta)), acc = xs ++ ys → (∀ q ∈ xs, ¬ E (hdS q) x) →
      (∃ z1 q z2, ys = z1 ++ q :: z2 ∧ E (hdS q) x ∧ joinS ys (ys.map fun q => eb (hdS q) x) x = z1 ++ (q ++ [x]) :: z2) ∨ ((∀ q ∈ ys, ¬ E (hdS q) x) ∧ joinS ys (ys.map fun q => eb (hdS q) x) x = ys ++ [[x]]) := by
    intro ys
    induction ys with
    | nil => intro xs _ _; exact .inr ⟨fun q hq => (by cases hq), rfl⟩
    | cons q ys ih =>
      intro xs e hx
      by_cases c : E (hdS q) x
      · refine .inl ⟨[], q, ys, rfl, c, ?_⟩
        show (if eb (hdS q) x = true then _ else _) = _
        rw [if_pos ((he _ _).mpr c)]
        rfl
      · have hb : eb (hdS q) x = false := by
          cases h : eb (hdS q) x with
          | false => rfl
          | true => exact absurd ((he _ _).mp h) c
        have ej : joinS (q :: ys) ((q :: ys).map fun q => eb (hdS q) x) x = q :: joinS ys (ys.map fun q => eb (hdS q) x) x := by
          show (if eb (hdS q) x = true then _ else _) = _
          rw [hb]
          rfl
        rcases ih (xs ++ [q]) (by rw [e]; simp) (fun p hp => by
          rcases List.mem_append.mp hp with hp | hp
          · exact hx p hp
          · rw [List.mem_singleton.mp hp]; exact c) with ⟨z1, p, z2, a1, a2, a3⟩ | ⟨a1, a2⟩
        · exact .inl ⟨q :: z1, p, z2, by rw [a1]; rfl, a2, by rw [ej, a3]; rfl⟩
        · refine .inr ⟨fun p hp => ?_, by rw [ej, a2]; rfl⟩
          rcases List.mem_cons.mp hp with hp | hp
          · rw [hp]; exact c
          · exact a1 p hp
  rcases key acc [] rfl (fun q hq => (by cases hq)) with ⟨z1, q, z2, e, c, ej⟩ | ⟨no, ej⟩
  · rw [ej]
    subst e
    have qm : q ∈ z1 ++ q :: z2 := by simp
    have qne := G.ne q qm
    have hm := hd_mem qne
    have inq : ∀ {p : List Sta}, p ∈ z1 ++ (q ++ [x]) :: z2 → p = q ++ [x] ∨ p ∈ z1 ++ q :: z2 := fun {p} hp => by
      rcases List.mem_append.mp hp with hp | hp
      · exact .inr (List.mem_append_left _ hp)
      · rcases List.mem_cons.mp hp with hp | hp
        · exact .inl hp
        · exact .inr (List.mem_append_right _ (List.mem_cons_of_mem _ hp))
    have qx : ∀ s ∈ q ++ [x], E s (hdS q) := fun s hs => by
      rcases List.mem_append.mp hs with hs | hs
      · exact G.al q qm s hs _ hm.1
      · rw [List.mem_singleton.mp hs]; exact sy c
    have qq : ∀ s ∈ q ++ [x], ∀ t ∈ q ++ [x], E s t := fun s hs t ht => tr (qx s hs) (sy (qx t ht))
    have pw := G.ap
    rw [List.pairwise_append, List.pairwise_cons] at pw
    have ph := G.hd
    rw [List.pairwise_append, List.pairwise_cons] at ph
    have hdq : (q ++ [x]).head? = q.head? := by
      cases q with
      | nil => exact absurd rfl qne
      | cons a l => rfl
    refine ⟨fun p hp => ?_, fun p hp s hs t ht => ?_, ?_, fun s => ?_, ?_, ?_⟩
    · rcases inq hp with hp | hp
      · rw [hp]; simp
      · exact G.ne p hp
    · rcases inq hp with hp | hp
      · subst hp; exact qq s hs t ht
      · exact G.al p hp s hs t ht
    · rw [List.pairwise_append, List.pairwise_cons]
      refine ⟨pw.1, ⟨fun p hp s hs t ht z => pw.2.1.1 p hp (hdS q) hm.1 t ht (tr (sy (qx s hs)) z), pw.2.1.2⟩, fun p hp p' hp' s hs t ht z => ?_⟩
      rcases List.mem_cons.mp hp' with hp' | hp'
      · subst hp'
        exact pw.2.2 p hp q List.mem_cons_self s hs (hdS q) hm.1 (tr z (qx t ht))
      · exact pw.2.2 p hp p' (List.mem_cons_of_mem _ hp') s hs t ht z
    · constructor
      · intro hs
        rcases List.mem_append.mp hs with hs | hs
        · obtain ⟨p, hp, hsp⟩ := (G.me s).mp hs
          rcases List.mem_append.mp hp with hp | hp
          · exact ⟨p, List.mem_append_left _ hp, hsp⟩
          · rcases List.mem_cons.mp hp with hp | hp
            · subst hp; exact ⟨p ++ [x], by simp, List.mem_append_left _ hsp⟩
            · exact ⟨p, List.mem_append_right _ (List.mem_cons_of_mem _ hp), hsp⟩
        · exact ⟨q ++ [x], by simp, List.mem_append_right _ hs⟩
      · rintro ⟨p, hp, hsp⟩
        rcases inq hp with hp | hp
        · subst hp
          rcases List.mem_append.mp hsp with hsp | hsp
          · exact List.mem_append_left _ ((G.me s).mpr ⟨q, qm, hsp⟩)
          · exact List.mem_append_right _ hsp
        · exact List.mem_append_left _ ((G.me s).mpr ⟨p, hp, hsp⟩)
    · have := G.ln
      rw [List.map_append, List.sum_append, List.map_cons, List.sum_cons] at this ⊢
      rw [List.length_append, List.length_append]
      simp
      omega
    · rw [List.pairwise_append, List.pairwise_cons]
      refine ⟨ph.1, ⟨fun p hp => by rw [hdq]; exact ph.2.1.1 p hp, ph.2.1.2⟩, fun p hp p' hp' => ?_⟩
      rcases List.mem_cons.mp hp' with hp' | hp'
      · rw [hp', hdq]
        exact ph.2.2 p hp q List.mem_cons_self
      · exact ph.2.2 p hp p' (List.mem_cons_of_mem _ hp')
  · rw [ej]
    refine ⟨fun p hp => ?_, fun p hp s hs t ht => ?_, ?_, fun s => ?_, ?_, ?_⟩
    · rcases List.mem_append.mp hp with hp | hp
      · exact G.ne p hp
      · rw [List.mem_singleton.mp hp]; simp
    · rcases List.mem_append.mp hp with hp | hp
      · exact G.al p hp s hs t ht
      · rw [List.mem_singleton.mp hp] at hs ht
        rw [List.mem_singleton.mp hs, List.mem_singleton.mp ht]
        exact rf x
    · rw [List.pairwise_append]
      refine ⟨G.ap, by simp, fun p hp p' hp' s hs t ht z => ?_⟩
      rw [List.mem_singleton.mp hp'] at ht
      rw [List.mem_singleton.mp ht] at z
      exact no p hp (tr (G.al p hp _ (hd_mem (G.ne p hp)).1 s hs) z)
    · constructor
      · intro hs
        rcases List.mem_append.mp hs with hs | hs
        · obtain ⟨p, hp, hsp⟩ := (G.me s).mp hs
          exact ⟨p, List.mem_append_left _ hp, hsp⟩
        · exact ⟨[x], by simp, hs⟩
      · rintro ⟨p, hp, hsp⟩
        rcases List.mem_append.mp hp with hp | hp
        · exact List.mem_append_left _ ((G.me s).mpr ⟨p, hp, hsp⟩)
        · rw [List.mem_singleton.mp hp] at hsp
          exact List.mem_append_right _ hsp
    · have := G.ln
      rw [List.map_append, List.sum_append, List.length_append]
      simp
      omega
    · rw [List.pairwise_append]
      refine ⟨G.hd, by simp, fun p hp p' hp' s hs t ht => ?_⟩
      rw [List.mem_singleton.mp hp'] at ht
      cases ht
      exact lt s ((G.me s).mpr ⟨p, hp, by
        cases p with
        | nil => cases hs
        | cons a l => cases hs; exact List.mem_cons_self⟩)
end
theorem Grp.zero {E : Sta → Sta → Prop} : Grp E [] [] := ⟨fun q hq => (by cases hq), fun q hq => (by cases hq), .nil, fun s => by simp, rfl, .nil⟩
end HC
namespace HC
open PySem PySem.Spec PyProof.Rows L2
local macro_rules | `(tactic| walk_at "ds") => `(tactic| try simp only [endD, startD, startT, endLaw, startLaw, List.map_cons, List.map_nil, List.length_cons, List.length_nil, List.replicate, List.cons_append, List.nil_append, Nat.reduceSub, Nat.reduceAdd, sSeq, sRet, sIf, sNil, sAsg, sUnp, sExpr, sPar2, sPar3, xCons, xNil, xVal, xOwn, bTest, bNot, bAnd, bOr, wVar, wPeek, slot, wC, wOp2, wB, wM, wCons, wNil, wTup, wLst, wIf, wAnd, wOr, wNot, wNeg, wCall, wCallT, wSl, wPart, wNoPart, List.set, ex1, gT_t, gT_st, gT_pr, gC_c, gN_c, gNil_c, sRaise, wChain, sFrz, frz, wIsi, wTabIn, wTabAt, sAug, wipeD, En.lp, loopW_nil, d_WEATHERS, ds_WEATHERS, wDisp1, wNewT, wComp, iSeq, iRange, gList_l, sFor, Bool.false_eq_true, if_false, if_true,
  fAdd_i, fAdd_s, fAdd_l, fAdd_t, fAddL_l, fSub_i, fLt_i, fLe_i, fGt_i, fGe_i, fEq_i, fNe_i, fIs_b, fIsN_b, fIs_nn, fIs_in, fIs_ln, fIs_tn, fIsN_nn, fIsN_in, fIsN_ln, fIsN_tn, gMin_2, gMax_2, gLen_l, gLen_t, fIx_rm0, fIx_rm1, fIx_rm2, fIx_st0, fIx_st1, fIx_st2, fIx_rg0, fIx_rg1, fIx_rg2, fSl_rg, fEq_gap, fEq_stay, fEq_late, fEq_look, fEq_lean])
def follD (r : Rm) (g : Rg) (sg : Int) (s : Sta) : D := .list ([1, 2, 3].map fun w => .tuple [encMark sg (tick r g s w), encSt (tick r g s w)])
def eyJ1 (lb k d : D) : Prop := match lb with
  | .tuple [a, b, .int sg, _, _] => d = follD (rmOf a) (rgOf b) sg (stOf k)
  | _ => False
def sp_Eye_begun : SpD := fun ds Q _ => ∃ (r : Rm) (gd sd : D) (d1 d2 : List D), ds = [eyL r.enc gd sd d1 d2] ∧ Q (.tuple [encSt (first r)])
theorem mo_Eye_begun : MonoSp 1 sp_Eye_begun := ⟨fun hq _ ⟨r, gd, sd, d1, d2, e, q⟩ => ⟨r, gd, sd, d1, d2, e, hq _ q⟩, fun ⟨_, _, _, _, _, e, _⟩ => by rw [e]; rfl⟩
def t_Eye_begun : TSD :=
  sRet (wTup (wCons (wCall sp_first_state (wCons (wFldO 0 0) wNil)) wNil))
theorem sem_Eye_begun : ∀ lb ds Q, sp_Eye_begun (lb :: ds) Q (fun _ => False) → t_Eye_begun (endD Q fun _ => False) (startO lb 1 ds) := by
  rintro lb ds Q ⟨r, gd, sd, d1, d2, e, q⟩
  cases e
  unfold t_Eye_begun startO
  unfold wFldO eyL
  walk_at "ds"
  exact in_first q
def sp_Eye_following : SpD := fun ds Q _ => ∃ (r : Rm) (g : Rg) (sg : Int) (d1 d2 : List D) (s : Sta), ds = [eyL r.enc g.enc (.int sg) d1 d2, encSt s] ∧ g.Ok r.top ∧ encSt s ∈ d1 ∧ d1.length < 1000000 ∧ Q (follD r g sg s)
theorem mo_Eye_following : MonoSp 2 sp_Eye_following := ⟨fun hq _ ⟨r, g, sg, d1, d2, s, e, a, b, c, q⟩ => ⟨r, g, sg, d1, d2, s, e, a, b, c, hq _ q⟩, fun ⟨_, _, _, _, _, _, e, _⟩ => by rw [e]; rfl⟩
def t_Eye_following : TSD :=
  sMemo false eyJ1 1 (sAsg 2 (xVal (wComp [3] (iSeq (wC d_WEATHERS)) (gN 3) bYes (wCall sp_step (wCons (wFldO 0 0) (wCons (wFldO 0 1) (wCons (wVar 1) (wCons (wVar 3) wNil)))))))) (wComp [4] (iSeq (wVar 2)) (gN 4) bYes (wTup (wCons (wCall sp_mark_of (wCons (wVar 4) (wCons (wFldO 0 2) wNil))) (wCons (wVar 4) wNil))))
theorem eyJ1_is {r : Rm} {g : Rg} {sg : Int} {d1 d2 : List D} {s : Sta} (gk : g.Ok r.top) {d : D} : eyJ1 (eyL r.enc g.enc (.int sg) d1 d2) (encSt s) d ↔ d = follD r g sg s := by
  show d = follD (rmOf r.enc) (rgOf g.enc) sg (stOf (encSt s)) ↔ _
  rw [(rg_enc gk).2, show rmOf r.enc = r from rfl, show stOf (encSt s) = s from rfl]
theorem sem_Eye_following : ∀ lb ds Q, sp_Eye_following (lb :: ds) Q (fun _ => False) → t_Eye_following (endD Q fun _ => False) (startO lb 5 ds) := by
  rintro lb ds Q ⟨r, g, sg, d1, d2, s, e, gk, hm, few, q⟩
  cases e
  refine ⟨r.enc, g.enc, .int sg, d1, d2, [.num s.1, .num s.2.1, .num s.2.2], rfl, rfl, stK_depth s, hm, few, fun d jd => ?_, ?_⟩
  · have : d = follD r g sg s := (eyJ1_is gk).mp jd
    rw [this]
    exact q
  · unfold startO
    unfold wFldO eyL
    walk_at "ds"
    refine ⟨le1000 (by show 3 ≤ 1000; decide), ?_⟩
    refine comp_enc D.int (fun w => encSt (tick r g s w)) [1, 2, 3] (fun w hw => ⟨_, rfl, fun Q' q' => ?_⟩) ?_
    · walk_at "ds"
      exact in_step q'
    refine ⟨trivial, by first | trivial | rfl, ?_⟩
    walk_at "ds"
    refine ⟨le1000 (by show 3 ≤ 1000; decide), ?_⟩
    refine comp_enc encSt (fun t => .tuple [encMark sg t, encSt t]) ([1, 2, 3].map fun w => tick r g s w) (fun t ht => ⟨_, rfl, fun Q' q' => ?_⟩) ?_
    · walk_at "ds"
      exact in_mark_of q'
    exact (eyJ1_is gk).mpr rfl
end HC
namespace HC
open PySem PySem.Spec PyProof.Rows L2
abbrev Mrk := Int × Int
def mEq (sg : Int) (m : Mrk) (t : Sta) : Bool := if sg = 0 then decide (t.2.1 = m.1) else decide (t.2.1 = m.1 ∧ t.1 = m.2)
def layT (r : Rm) (g : Rg) (sg : Int) (m : Mrk) (s : Sta) (n : Int) (F : List (Sta × Int)) (w : Int) : List (Sta × Int) := if mEq sg m (tick r g s w) = true then putL F (tick r g s w) ((lkp F (tick r g s w)).getD 0 + n) else F
end HC
namespace HC
open PySem PySem.Spec PyProof.Rows L2
structure LayOk (r : Rm) (g : Rg) (L : List (Sta × Int)) : Prop where
  nd : (L.map (·.1)).Nodup
  ky : ∀ s ∈ L.map (·.1), s ∈ keysL r g
theorem mem_putK {L : List (Sta × Int)} {a s : Sta} {v : Int} (h : s ∈ (putL L a v).map (·.1)) : s = a ∨ s ∈ L.map (·.1) := by
  by_cases c : a = s
  · exact .inl c.symm
  · refine .inr (Classical.byContradiction fun z => ?_)
    have h1 : lkp (putL L a v) s = none := by rw [lkp_putL, if_neg c]; exact lkp_none.mpr z
    exact lkp_none.mp h1 h
theorem LayOk.put {r : Rm} {g : Rg} {L : List (Sta × Int)} (h : LayOk r g L) {a : Sta} (ha : a ∈ keysL r g) (v : Int) : LayOk r g (putL L a v) := ⟨putL_nd h.nd, fun s hs => by
  rcases mem_putK hs with z | z
  · rw [z]; exact ha
  · exact h.ky s z⟩
theorem LayOk.few {r : Rm} {g : Rg} {L : List (Sta × Int)} (ok : r.Ok) (gk : g.Ok r.top) (h : LayOk r g L) : L.length ≤ 61 := by
  have := sub_len (L.map (·.1)) (keysL r g) h.nd h.ky
  rw [List.length_map] at this
  exact Nat.le_trans this (keys_len ok gk)
theorem LayOk.tick {r : Rm} {g : Rg} (ok : r.Ok) (gk : g.Ok r.top) {F : List (Sta × Int)} (h : LayOk r g F) {sg : Int} {m : Mrk} {s : Sta} {n w : Int} (hs : s ∈ keysL r g) (w1 : 1 ≤ w) (w3 : w ≤ 3) : LayOk r g (layT r g sg m s n F w) := by
  unfold layT
  split
  · exact h.put (rows_closed ok gk hs w1 w3) _
  · exact h
end HC
namespace HC
open PySem PySem.Spec PyProof.Rows L2
def eyLb (r : Rm) (g : Rg) (sg : Int) (d2 : List D) : D := eyL r.enc g.enc (.int sg) ((keysL r g).map encSt) d2
theorem at_foll {r : Rm} {g : Rg} {sg : Int} {d2 : List D} {s : Sta} {Q : D → Prop} {E : Addr → Prop} (ok : r.Ok) (gk : g.Ok r.top) (hs : s ∈ keysL r g) (q : Q (follD r g sg s)) : sp_Eye_following [eyLb r g sg d2, encSt s] Q E :=
  ⟨r, g, sg, (keysL r g).map encSt, d2, s, rfl, gk, List.mem_map.mpr ⟨s, hs, rfl⟩, by rw [List.length_map]; have := keys_len ok gk; omega, q⟩
end HC
namespace HC
open PySem PySem.Spec PyProof.Rows L2
theorem pss_lock {X : Cx} {sts : List Stmt} {t : TS} (h : PSs X sts t) : PSs X sts (fun De σ H => ∃ d u, H d = some u ∧ Mut (some u) ∧ ∀ od, t De σ (upd H d (.frz od u))) := by
  refine ⟨fun pins s σ H D I hw => ?_⟩
  obtain ⟨d, u, hd, mu, hw⟩ := hw
  obtain ⟨od, I1⟩ := I.lock hd mu
  exact h.run pins s σ _ _ I1 (hw od)
theorem Sim.lockK {C : Ct} {M : Addr → Prop} {r : Env} {σ : L2.St} {H : Hp} (S : Sim C M r σ H) {i : Nat} {kvs : List (NestedKey × D)} (hr : r[i]? = some (.own (.dict kvs))) :
    ∃ a ks, H a = some (.dK ks) ∧ ∀ od, ∃ M', Stp M H M' (upd H a (.frz od (.dK ks))) ∧ Sim C M' (r.set i (.val (.kdict kvs))) σ (upd H a (.frz od (.dK ks))) := by
  obtain ⟨a, e1, m, h0, m0, tp⟩ := S.own i _ hr
  have hi : i < r.length := (List.getElem?_eq_some_iff.mp hr).1
  cases tp with
  | @dctK ks _ ea rk =>
    refine ⟨a, ks, ea, fun od => ?_⟩
    have st : Stp M H (fun b => M b ∧ b ≠ a) (upd H a (.frz od (.dK ks))) := fun b o e n => ⟨by rw [upd_ne (show b ≠ a from fun z => n (by rw [z]; exact m))]; exact e, fun z => n z.1⟩
    refine ⟨fun b => M b ∧ b ≠ a, st, ?_⟩
    refine ⟨by rw [List.length_set]; exact S.len, fun j e q => ?_, fun j e q => ?_, fun j b x y c q1 q2 q3 q4 => ?_, fun j q => ?_, ⟨fun b o n e => ?_, ?_⟩, fun b mb => ⟨S.m0 b mb, fun z => m0 (z ▸ mb)⟩, fun b mb => by rw [upd_ne mb.2]; exact S.dom b mb.1, S.inm⟩
    · by_cases hj : i = j
      · subst hj
        rw [List.getElem?_set_self hi] at q
        cases q
        exact ⟨_, e1, .dctL (fun z => z.2 rfl) upd_same (RpK.step st rk)⟩
      · rw [List.getElem?_set_ne hj] at q
        obtain ⟨v, h1, h2⟩ := S.val j e q
        exact ⟨v, h1, h2.step st⟩
    · by_cases hj : i = j
      · subst hj
        rw [List.getElem?_set_self hi] at q; cases q
      · rw [List.getElem?_set_ne hj] at q
        obtain ⟨b, h1, h2, h3, h4, h5⟩ := S.own j e q
        have ne : b ≠ a := fun y => hj (S.sep i j _ e a hr q e1 (y ▸ h1))
        exact ⟨b, h1, ⟨h2, ne⟩, h3, h4, h5.step st fun o z => by rw [upd_ne ne]; exact z⟩
    · have ne : ∀ {j x}, (r.set i (.val (.kdict kvs)))[j]? = some (.own x) → i ≠ j := fun {j x} q z => by
        subst z
        rw [List.getElem?_set_self hi] at q; cases q
      rw [List.getElem?_set_ne (ne q1)] at q1
      rw [List.getElem?_set_ne (ne q2)] at q2
      exact S.sep j b x y c q1 q2 q3 q4
    · by_cases hj : i = j
      · subst hj
        rw [List.getElem?_set_self hi] at q; cases q; exact trivial
      · rw [List.getElem?_set_ne hj] at q
        exact S.tk j q
    · rw [upd_ne (fun z => by rw [z, h0] at e; cases e)]
      exact S.base.keep b o n e
    · exact tok_step st (fun b hb => by rw [upd_ne (show b ≠ a from fun z => m0 (by rw [← z]; exact S.inm b hb))]) S.base.tok
def lockTo (n : Env → Prop) (i : Nat) (r : Env) : Prop := match slot r i with
  | .own (.dict kvs) => n (r.set i (.val (.kdict kvs)))
  | _ => False
def sThenL (i : Nat) (t : TSD) : TSD := fun e r => t { e with nx := lockTo e.nx i } r
theorem lockTo.imp {n n' : Env → Prop} {i : Nat} {r : Env} (h : ∀ r, n r → n' r) (q : lockTo n i r) : lockTo n' i r := by
  unfold lockTo at q ⊢
  split at q
  · exact h _ q
  · exact q
section
variable {X : Cx} {C : Ct} {W : XW} {k : Nat}
theorem pre_lock (i : Nat) {pre : List Stmt} {t : TSD} (hp : Pre X C W pre t) : Pre X C W pre (sThenL i t) := ⟨fun U rest h2 =>
  (hp.run _ rest (pss_lock h2)).imp fun De σ H ⟨M, r, e, S, f, q⟩ => ⟨M, r, { e with nx := lockTo e.nx i }, S, ⟨fun M' r' σ' H' s S' z => (by
    have z : lockTo e.nx i r' := z
    unfold lockTo at z
    split at z
    · rename_i kvs hsl
      obtain ⟨a, ks, ea, h⟩ := S'.lockK (slot_get hsl (by simp))
      exact ⟨a, _, ea, trivial, fun od => let ⟨M'', s2, S''⟩ := h od; f.nx M'' _ σ' _ (s.trans s2) S'' z⟩
    · exact z.elim), f.rt, f.bk, f.ct, f.ex⟩, q⟩, ⟨fun {e e' r} h q => hp.mo.imp (e := { e with nx := lockTo e.nx i }) (e' := { e' with nx := lockTo e'.nx i }) ⟨fun r' z => z.imp h.nx, h.rt, h.bk, h.ct, h.ex⟩ q⟩⟩
end
def iKeysD (t : TP) : TPA := fun r Q E => t r (fun d => match d with
  | .kdict kvs => Q (kvs.map fun p => keyD p.1)
  | _ => False) E
theorem mono_ikeys {t : TP} (h : Mono t) : MonoI (iKeysD t) := ⟨fun hq he q => h.imp (fun d z => by
  split at z
  · exact hq _ z
  · exact z) he q⟩
theorem rpk_at {K : PySem.W.Frag} {P : Program} {w : World} {M : Addr → Prop} {H : Hp} : ∀ {ks : List (Key × V)} {ds : List (NestedKey × D)}, RpK K P w M H ks ds → ∀ {i : Nat} {k : Key} {v : V}, ks[i]? = some (k, v) → ∃ d, ds[i]? = some (kN k, d) ∧ Rp K P w M H v d
  | _, _, .nil, i, k, v, h => by cases h
  | _, _, .cons a b, 0, k, v, h => by cases h; exact ⟨_, rfl, a⟩
  | _, _, .cons a b, i + 1, k, v, h => rpk_at b (by simpa using h)
theorem rp_kV {K : PySem.W.Frag} {P : Program} {w : World} {M : Addr → Prop} {H : Hp} (k : Key) : Rp K P w M H (kV k) (keyD (kN k)) := by
  cases k with
  | inl n => exact .int n
  | inr x => exact .str x
theorem yields_K {C : Ct} {M : Addr → Prop} {H : Hp} {a : Addr} {o : Obj} {ks : List (Key × V)} {kvs : List (NestedKey × D)} (m : ¬ M a) (ea : H a = some (.frz o (.dK ks))) (rn : RpK C.K C.P C.w M H ks kvs) :
    Yields C M H (Itk a o ks) (kvs.map fun p => keyD p.1) := by
  have hl := rpk_len rn
  refine ⟨fun i M1 H1 st hi => ⟨(st a _ ea m).1, ?_⟩, fun i M1 H1 x H2 st dm hi ⟨e, kk, v, hb, hx⟩ => ?_, fun i M1 H1 st hi => ⟨(st a _ ea m).1, ?_⟩⟩
  · rw [List.length_map] at hi
    omega
  · subst e hx
    obtain ⟨d, hp, rp⟩ := rpk_at rn hb
    exact ⟨keyD (kN kk), by rw [List.getElem?_map, hp]; rfl, Same.refl', rp_kV kk⟩
  · rw [List.length_map] at hi
    omega
section
variable {X : Cx} {C : Ct} {W : XW} {e tg : Expr} {t : TP} {pos : Pos} {k : Nat}
theorem di_keysK (G : Good X C W k) (he : DV X C W e t) : DI X C W tg e (iKeysD t) := by
  refine ⟨(pi_keys he.pe).imp fun σ H R ⟨M, r, E, S, hW, q⟩ => ⟨M, r, E, S, hW, he.mo.imp (fun d z v H1 k1 S1 p1 => ?_) (fun _ z => z) q⟩, mono_ikeys he.mo⟩
  cases d with
  | kdict kvs =>
    cases p1 with
    | @dctL a o ks _ m ea rk => exact ⟨a, o, rfl, .inl ⟨ks, ea, z _ H1 k1 S1 (yields_K m ea rk)⟩⟩
  | _ => exact z.elim
end
def fIxL : B2 := fun x y Q => match x, y with
  | .kdict kvs, .int n => ∃ d, kvGet kvs (.num n) = some d ∧ Q d
  | _, _ => False
theorem mo_ixL : Mo2 fIxL := by
  refine ⟨fun {x y Q Q'} hq h => ?_⟩
  unfold fIxL at h ⊢
  split at h
  · exact let ⟨d, a, q⟩ := h; ⟨d, a, hq _ q⟩
  · exact h
section
variable {X : Cx} {C : Ct} {W : XW} {k : Nat}
theorem dv_ixL {a b : Expr} {ta tb : TP} {pos : Pos} (G : Good X C W k) (ha : DE X C W a ta) (hb : DE X C W b tb) (hs : NoSl b := by exact fun _ _ => rfl) : DV X C W (.Subscript a b pos) (wOp2 fIxL ta tb) := by
  refine ⟨(pe_dget G.hu1 ha.pe hb.pe hs).imp fun σ H Q h => lP_imp ha.mo (run_op2 ha hb h mo_ixL) fun x H1 h1 => lP_imp hb.mo h1 fun y H2 ⟨M, d1, d2, r1, r2, dm, hf⟩ => ?_, mono_op2 mo_ixL ha.mo hb.mo⟩
  unfold fIxL at hf
  split at hf
  · rename_i kvs n
    obtain ⟨d, eg, q⟩ := hf
    have hy := rq_int r2
    rcases r1 with h | ⟨_, _, _, h⟩
    · cases h with
      | @dctL a o ks _ m ea rk =>
        rcases rpk_num n rk with ⟨_, z⟩ | ⟨v, d', hv, hd, rv⟩
        · rw [eg] at z; cases z
        · rw [eg] at hd
          cases hd
          subst hy
          exact ⟨a, v, rfl, .inl ⟨ks, .inl n, .inr ⟨o, ea⟩, rfl, hv.symm⟩, q v H2 Same.refl' rv⟩
    · cases h
  · exact hf.elim
end
def prKI (q : Int × D) : D := .tuple [.int q.1, q.2]
def gDictK : Bn := fun ds Q => match ds with
  | [.list ds] => ∃ kvs : List (Int × D), ds = kvs.map prKI ∧ (kvs.map (·.1)).Nodup ∧ Q (.dict (kvs.map fun q => (.num q.1, q.2)))
  | _ => False
theorem mo_dictK : MoB gDictK := ⟨fun {ds Q Q'} hq h => by
  unfold gDictK at h ⊢
  split at h
  · obtain ⟨kvs, a, b, d⟩ := h
    exact ⟨kvs, a, b, hq _ d⟩
  · exact h⟩
theorem merge_nd : ∀ (ks acc : List (Key × V)), ((acc ++ ks).map (·.1)).Nodup → mergeK acc ks = acc ++ ks
  | [], acc, _ => by rw [List.append_nil]; rfl
  | (k, v) :: ks, acc, h => by
    show mergeK (putK acc k v) ks = _
    have hn : (acc.any fun kv => decide (kv.1 = k)) = false := by
      rw [List.map_append, List.map_cons, List.nodup_append] at h
      rw [List.any_eq_false]
      intro x hx
      have := h.2.2 x.1 (List.mem_map_of_mem hx) k List.mem_cons_self
      simpa using this
    have ep : putK acc k v = acc ++ [(k, v)] := by
      unfold putK
      rw [hn]
      rfl
    rw [ep, merge_nd ks (acc ++ [(k, v)]) (by rw [List.append_assoc]; exact h), List.append_assoc]
    rfl
section
variable {X : Cx} {C : Ct} {W : XW} {k : Nat}
theorem pairs_rk {H : Hp} {M : Addr → Prop} : ∀ {kvs : List (Int × D)} {xs : List V}, RpA X.K X.prog X.w M H xs (kvs.map prKI) → ∃ (ps : List Addr) (vs : List (Key × V)), xs = ps.map V.ref ∧ Paired (fun p kv => SqT X.K H p [kV kv.1, kv.2]) ps vs ∧ vs.map (·.1) = kvs.map (fun q => (.inl q.1 : Key)) ∧ RpK X.K X.prog X.w M H vs (kvs.map fun q => (.num q.1, q.2))
  | [], _, .nil => ⟨[], [], rfl, .nil, rfl, .nil⟩
  | q :: kvs, v :: xs, .cons a b => by
    obtain ⟨ps, vs, e1, e2, e3, e4⟩ := pairs_rk b
    obtain ⟨T, ys, rfl, sq, pa⟩ := (Rp.q (C := ⟨X.K, X.prog, X.w, none, fun _ => False, fun _ => none⟩) a).tup
    cases pa with
    | cons pk pr =>
      cases pr with
      | cons pv pn =>
        cases pn
        rename_i vk vv
        cases pk
        exact ⟨T :: ps, (.inl q.1, vv) :: vs, by rw [e1]; rfl, .cons sq e2, by rw [List.map_cons, List.map_cons, e3], .cons pv e4⟩
theorem b_dictK (G : Good X C W k) : Blt X C (.type "dict") gDictK := by
  refine ⟨?_, mo_dictK⟩
  refine fit_cases (X := X) (motive := fun C => CallR X (.type "dict") (rDn C gDictK)) (fun T M0 H0 => ?_) C G.fit
  refine (call_dictP G.calm).imp fun xs H Q ⟨M, ds, rq, dm, h⟩ => ?_
  unfold gDictK at h
  split at h
  · obtain ⟨kvs, rfl, nd, q⟩ := h
    obtain ⟨v, rfl, r1⟩ := rq1 rq
    obtain ⟨a, ys, rfl, ea, pa⟩ := r1.lst
    obtain ⟨ps, vs, e1, e2, e3, e4⟩ := pairs_rk pa
    subst e1
    refine ⟨a, ps, vs, rfl, SqL.of ea, e2, fun p hp => ?_⟩
    have em : mergeK [] vs = vs := by
      refine merge_nd vs [] ?_
      rw [List.nil_append, e3]
      have : (kvs.map fun q => (.inl q.1 : Key)) = (kvs.map (·.1)).map Sum.inl := by rw [List.map_map]; rfl
      rw [this]
      exact List.Pairwise.map _ (fun a b hne e => hne (by injection e)) nd
    rw [em]
    have sm := same_upd (o := .dK vs) hp
    exact q (.ref p) _ sm (.dctK (fun z => dm p z hp) (.inl upd_same) (RpK.step (Stp.grow sm) e4))
  · exact h.elim
end
end HC
namespace HC
open PySem PySem.Spec PyProof.Rows L2
theorem asc_st : ∀ (l m : List Sta), l.Pairwise (fun s t => stLt s t = true) → m.Pairwise (fun s t => stLt s t = true) → (∀ k, k ∈ l ↔ k ∈ m) → l = m
  | [], [], _, _, _ => rfl
  | [], b :: m, _, _, h => by have := (h b).mpr List.mem_cons_self; cases this
  | a :: l, [], _, _, h => by have := (h a).mp List.mem_cons_self; cases this
  | a :: l, b :: m, h1, h2, h => by
    obtain ⟨a1, l1⟩ := List.pairwise_cons.mp h1
    obtain ⟨b1, m1⟩ := List.pairwise_cons.mp h2
    have e : a = b := by
      rcases List.mem_cons.mp ((h a).mp List.mem_cons_self) with z | z
      · exact z
      · rcases List.mem_cons.mp ((h b).mpr List.mem_cons_self) with y | y
        · exact y.symm
        · have := stLt_tr (a1 b y) (b1 a z)
          rw [stLt_irr] at this
          cases this
    subst e
    rw [asc_st l m l1 m1 fun k => ?_]
    constructor
    · intro hk
      rcases List.mem_cons.mp ((h k).mp (List.mem_cons_of_mem _ hk)) with z | z
      · subst z
        have := a1 k hk
        rw [stLt_irr] at this
        cases this
      · exact z
    · intro hk
      rcases List.mem_cons.mp ((h k).mpr (List.mem_cons_of_mem _ hk)) with z | z
      · subst z
        have := b1 k hk
        rw [stLt_irr] at this
        cases this
      · exact z
def dedS : List Sta → List Sta
  | [] => []
  | a :: l => if a ∈ l then dedS l else a :: dedS l
theorem mem_dedS : ∀ {l : List Sta} {s : Sta}, s ∈ dedS l ↔ s ∈ l
  | [], s => Iff.rfl
  | a :: l, s => by
    unfold dedS
    split
    · rw [mem_dedS, List.mem_cons]
      constructor
      · exact .inr
      · rintro (rfl | z)
        · assumption
        · exact z
    · rw [List.mem_cons, List.mem_cons, mem_dedS]
theorem nd_dedS : ∀ {l : List Sta}, (dedS l).Nodup
  | [] => List.nodup_nil
  | a :: l => by
    unfold dedS
    split
    · exact nd_dedS
    · exact List.nodup_cons.mpr ⟨fun z => by rw [mem_dedS] at z; contradiction, nd_dedS⟩
def ascS (l : List Sta) : List Sta := srtS (dedS l)
theorem ascS_asc {l : List Sta} : (ascS l).Pairwise fun s t => stLt s t = true := srtS_asc nd_dedS
theorem mem_ascS {l : List Sta} {s : Sta} : s ∈ ascS l ↔ s ∈ l := by
  unfold ascS srtS
  rw [(List.mergeSort_perm _ _).mem_iff, mem_dedS]
theorem ascS_of {l m : List Sta} (h : l.Pairwise fun s t => stLt s t = true) (e : ∀ s, s ∈ l ↔ s ∈ m) : l = ascS m := asc_st _ _ h ascS_asc fun s => (e s).trans mem_ascS.symm
theorem code_lt {a b : Sta} (h : TS.code 64 (trip a) ≤ TS.code 64 (trip b)) (ne : a ≠ b) (ba : TS.Bd 64 (trip a)) (bb : TS.Bd 64 (trip b)) : stLt a b = true := by
  obtain ⟨x, y, z⟩ := a
  obtain ⟨x', y', z'⟩ := b
  have h1 : x * 64 ^ 2 + (y * 64 ^ 1 + (z * 64 ^ 0 + 0)) ≤ x' * 64 ^ 2 + (y' * 64 ^ 1 + (z' * 64 ^ 0 + 0)) := h
  have a1 := ba x (by simp [trip])
  have a2 := ba y (by simp [trip])
  have a3 := ba z (by simp [trip])
  have b1 := bb x' (by simp [trip])
  have b2 := bb y' (by simp [trip])
  have b3 := bb z' (by simp [trip])
  have ne' : ¬ (x = x' ∧ y = y' ∧ z = z') := fun q => ne (by rw [q.1, q.2.1, q.2.2])
  unfold stLt
  simp only [Bool.or_eq_true, Bool.and_eq_true, decide_eq_true_eq]
  omega
theorem code_asc {r : Rm} {g : Rg} (ok : r.Ok) (gk : g.Ok r.top) {l : List Sta} (nd : l.Nodup) (hl : ∀ s ∈ l, Lim r g s) (h : l.Pairwise (fun a b => TS.code 64 (trip a) ≤ TS.code 64 (trip b))) : l.Pairwise fun s t => stLt s t = true := by
  refine ((List.Pairwise.and h nd).imp_of_mem fun {a b} ha hb q => ?_)
  exact code_lt q.1 q.2 (lim_bd ok gk (hl a ha)) (lim_bd ok gk (hl b hb))
section
variable {κ : Type} [DecidableEq κ]
def grpT (f : Sta → κ) (F : List (κ × List Sta)) (t : Sta) : List (κ × List Sta) := putL F (f t) ((lkp F (f t)).getD [] ++ [t])
def grpM (f : Sta → κ) (ts : List Sta) : List (κ × List Sta) := ts.foldl (grpT f) []
theorem grpM_snoc (f : Sta → κ) (ts : List Sta) (t : Sta) : grpM f (ts ++ [t]) = grpT f (grpM f ts) t := by
  unfold grpM
  rw [List.foldl_append]
  rfl
theorem grpM_nd (f : Sta → κ) (ts : List Sta) : ((grpM f ts).map (·.1)).Nodup := by
  refine list_snoc_ind (P := fun ts => ((grpM f ts).map (·.1)).Nodup) List.nodup_nil (fun l t ih => ?_) ts
  rw [grpM_snoc]
  exact putL_nd ih
theorem grpM_lkp (f : Sta → κ) (ts : List Sta) (m : κ) : lkp (grpM f ts) m = if (ts.filter fun t => decide (f t = m)) = [] then none else some (ts.filter fun t => decide (f t = m)) := by
  refine list_snoc_ind (P := fun ts => lkp (grpM f ts) m = if (ts.filter fun t => decide (f t = m)) = [] then none else some (ts.filter fun t => decide (f t = m))) rfl (fun l t ih => ?_) ts
  rw [grpM_snoc]
  unfold grpT
  rw [lkp_putL, List.filter_append]
  by_cases c : f t = m
  · rw [if_pos c, c, ih, List.filter_cons_of_pos (by simpa using c), List.filter_nil, if_neg (show ¬ (l.filter (fun t => decide (f t = m)) ++ [t]) = [] from fun z => by cases (List.append_eq_nil_iff.mp z).2)]
    generalize (l.filter fun t => decide (f t = m)) = X
    by_cases e : X = []
    · rw [if_pos e, e]; rfl
    · rw [if_neg e]; rfl
  · rw [if_neg c, ih, List.filter_cons_of_neg (by simpa using c), List.filter_nil, List.append_nil]
theorem grpM_len (f : Sta → κ) (ts : List Sta) : (grpM f ts).length ≤ ts.length := by
  refine list_snoc_ind (P := fun ts => (grpM f ts).length ≤ ts.length) (Nat.le_refl _) (fun l t ih => ?_) ts
  rw [grpM_snoc, List.length_append]
  unfold grpT putL
  split
  · rw [List.length_map]; omega
  · rw [List.length_append]; show _ + 1 ≤ _ + 1; omega
end
def tks (r : Rm) (g : Rg) (ss : List Sta) : List Sta := (ss.map fun s => [1, 2, 3].map fun w => tick r g s w).flatten
theorem tks_snoc {r : Rm} {g : Rg} {ss : List Sta} {s : Sta} : tks r g (ss ++ [s]) = tks r g ss ++ [1, 2, 3].map fun w => tick r g s w := by
  unfold tks
  rw [List.map_append, List.flatten_append]
  rfl
theorem mem_tks {r : Rm} {g : Rg} {ss : List Sta} {t : Sta} : t ∈ tks r g ss ↔ ∃ s ∈ ss, ∃ w : Int, (1 ≤ w ∧ w ≤ 3) ∧ t = tick r g s w := by
  unfold tks
  rw [List.mem_flatten]
  constructor
  · rintro ⟨l, hl, ht⟩
    obtain ⟨s, hs, rfl⟩ := List.mem_map.mp hl
    obtain ⟨w, hw, rfl⟩ := List.mem_map.mp ht
    refine ⟨s, hs, w, ?_, rfl⟩
    simp at hw
    omega
  · rintro ⟨s, hs, w, hw, rfl⟩
    refine ⟨_, List.mem_map.mpr ⟨s, hs, rfl⟩, List.mem_map.mpr ⟨w, ?_, rfl⟩⟩
    simp
    omega
theorem tks_len (r : Rm) (g : Rg) : ∀ ss : List Sta, (tks r g ss).length = 3 * ss.length
  | [] => rfl
  | s :: ss => by
    show ([1, 2, 3].map (fun w => tick r g s w) ++ tks r g ss).length = _
    rw [List.length_append, tks_len r g ss, List.length_cons]
    show 3 + _ = _
    omega
def setD (l : List Sta) : D := .tuple (l.map encSt)
def prKy (m : Int × Int) : NestedKey := .tup [.num m.1, .num m.2]
theorem prKy_inj (a b : Int × Int) (h : prKy a = prKy b) : a = b := by
  unfold prKy at h
  injection h with h
  injection h with h1 h2
  injection h2 with h2 h3
  injection h1 with h1
  injection h2 with h2
  exact Prod.ext h1 h2
theorem numK_inj (a b : Int) (h : NestedKey.num a = NestedKey.num b) : a = b := by injection h
def afD (r : Rm) (g : Rg) (sg : Int) (ss : List Sta) : D :=
  if sg = 0 then .dict (encL NestedKey.num (fun l => setD (ascS l)) (grpM (fun t : Sta => t.2.1) (tks r g ss)))
  else .tdict (encL prKy (fun l => setD (ascS l)) (grpM (fun t : Sta => (t.2.1, t.1)) (tks r g ss)))
theorem keys_few {r : Rm} {g : Rg} (ok : r.Ok) (gk : g.Ok r.top) {l : List Sta} (nd : l.Nodup) (h : ∀ s ∈ l, s ∈ keysL r g) : l.length ≤ 61 := Nat.le_trans (sub_len l (keysL r g) nd h) (keys_len ok gk)
theorem sts_depth (l : List Sta) : (NestedKey.tup (l.map stK)).depth ≤ 8 := by
  have : ∀ l : List Sta, NestedKey.depthAll (l.map stK) ≤ 1 := by
    intro l
    induction l with
    | nil => exact Nat.zero_le _
    | cons s l ih =>
      show max (stK s).depth (NestedKey.depthAll (l.map stK)) ≤ 1
      have : (stK s).depth = 1 := rfl
      omega
  show NestedKey.depthAll (l.map stK) + 1 ≤ 8
  have := this l
  omega
theorem stsK_keys : ∀ l : List Sta, keysD (l.map stK) = l.map encSt
  | [] => rfl
  | s :: l => by
    show keyD (stK s) :: keysD (l.map stK) = _
    rw [stsK_keys l]
    rfl
end HC
namespace HC
open PySem PySem.Spec PyProof.Rows L2
local macro_rules | `(tactic| walk_at "ds") => `(tactic| try simp only [endD, startD, startT, endLaw, startLaw, List.map_cons, List.map_nil, List.length_cons, List.length_nil, List.replicate, List.cons_append, List.nil_append, Nat.reduceSub, Nat.reduceAdd, sSeq, sRet, sIf, sNil, sAsg, sUnp, sExpr, sPar2, sPar3, xCons, xNil, xVal, xOwn, bTest, bNot, bAnd, bOr, wVar, wPeek, slot, wC, wOp2, wB, wM, wCons, wNil, wTup, wLst, wIf, wAnd, wOr, wNot, wNeg, wCall, wCallT, wSl, wPart, wNoPart, List.set, ex1, gT_t, gT_st, gT_pr, gC_c, gN_c, gNil_c, sRaise, wChain, sFrz, frz, wIsi, wTabIn, wTabAt, sAug, wipeD, En.lp, loopW_nil, d_WEATHERS, ds_WEATHERS, wDisp1, wNewT, wComp, iSeq, iRange, gList_l, sFor, Bool.false_eq_true, if_false, if_true,
  fAdd_i, fAdd_s, fAdd_l, fAdd_t, fAddL_l, fSub_i, fLt_i, fLe_i, fGt_i, fGe_i, fEq_i, fNe_i, fIs_b, fIsN_b, fIs_nn, fIs_in, fIs_ln, fIs_tn, fIsN_nn, fIsN_in, fIsN_ln, fIsN_tn, gMin_2, gMax_2, gLen_l, gLen_t, fIx_rm0, fIx_rm1, fIx_rm2, fIx_st0, fIx_st1, fIx_st2, fIx_rg0, fIx_rg1, fIx_rg2, fSl_rg, fEq_gap, fEq_stay, fEq_late, fEq_look, fEq_lean])
def stsOf : D → List Sta
  | .tuple ds => ds.map stOf
  | _ => []
def eyJ2 (lb k d : D) : Prop := match lb with
  | .tuple [a, b, .int sg, _, _] => d = afD (rmOf a) (rgOf b) sg (stsOf k)
  | _ => False
theorem stsOf_set (l : List Sta) : stsOf (setD l) = l := by
  show (l.map encSt).map stOf = l
  rw [List.map_map]
  conv => rhs; rw [← List.map_id l]
  exact List.map_congr_left fun s _ => rfl
theorem eyJ2_is {r : Rm} {g : Rg} {sg : Int} {d1 d2 : List D} {ss : List Sta} (gk : g.Ok r.top) {d : D} : eyJ2 (eyL r.enc g.enc (.int sg) d1 d2) (setD ss) d ↔ d = afD r g sg ss := by
  show d = afD (rmOf r.enc) (rgOf g.enc) sg (stsOf (setD ss)) ↔ _
  rw [(rg_enc gk).2, show rmOf r.enc = r from rfl, stsOf_set]
def sp_Eye_after : SpD := fun ds Q _ => ∃ (r : Rm) (g : Rg) (sg : Int) (d2 : List D) (ss : List Sta), ds = [eyLb r g sg d2, setD ss] ∧ r.Ok ∧ g.Ok r.top ∧ ss.Nodup ∧ (∀ s ∈ ss, s ∈ keysL r g) ∧ setD ss ∈ d2 ∧ d2.length < 1000000 ∧ Q (afD r g sg ss)
theorem mo_Eye_after : MonoSp 2 sp_Eye_after := ⟨fun hq _ ⟨r, g, sg, d2, ss, e, a, b, c, d, f, h, q⟩ => ⟨r, g, sg, d2, ss, e, a, b, c, d, f, h, hq _ q⟩, fun ⟨_, _, _, _, _, e, _⟩ => by rw [e]; rfl⟩
def eyJ : Bool → D → D → D → Prop
  | false => eyJ1
  | true => eyJ2
def tA1p : TSD := (sSeq (sAsg 2 (xOwn wNewT))
    (sFor (iSeq (wVar 1)) (gN 3) (sFor (iSeq (wMethO 0 sp_Eye_following (wCons (wVar 3) wNil))) (gT (gCons' (gN 4) (gCons' (gN 5) gNil'))) (sSet 2 (wOp2 fAdd (wGet (wPeek 2) (wPeek 4) (wLst wNil)) (wLst (wCons (wVar 5) wNil))) (wPeek 4)))))
def tA0p : TSD := (sSeq (sAsg 2 (xOwn wNewK))
    (sFor (iSeq (wVar 1)) (gN 3) (sFor (iSeq (wMethO 0 sp_Eye_following (wCons (wVar 3) wNil))) (gT (gCons' (gN 4) (gCons' (gN 5) gNil'))) (sSetK 2 (wOp2 fAdd (wGetK (wPeek 2) (wPeek 4) (wLst wNil)) (wLst (wCons (wVar 5) wNil))) (wPeek 4)))))
def t_Eye_after : TSD :=
  sOr (sMemo true (eyJ true) 1 (sThenF 2 (sSeq (sAsg 2 (xOwn wNewT))
    (sFor (iSeq (wVar 1)) (gN 3) (sFor (iSeq (wMethO 0 sp_Eye_following (wCons (wVar 3) wNil))) (gT (gCons' (gN 4) (gCons' (gN 5) gNil'))) (sSet 2 (wOp2 fAdd (wGet (wPeek 2) (wPeek 4) (wLst wNil)) (wLst (wCons (wVar 5) wNil))) (wPeek 4)))))) (wB gDictP (wCons (wComp [4] (iSeq (wVar 2)) (gN 4) bYes (wTup (wCons (wVar 4) (wCons (wB gTuple (wCons (wSortSetT (wOp2 fIx (wPeek 2) (wPeek 4))) wNil)) wNil)))) wNil)))
  (sMemo true (eyJ true) 1 (sThenL 2 (sSeq (sAsg 2 (xOwn wNewK))
    (sFor (iSeq (wVar 1)) (gN 3) (sFor (iSeq (wMethO 0 sp_Eye_following (wCons (wVar 3) wNil))) (gT (gCons' (gN 4) (gCons' (gN 5) gNil'))) (sSetK 2 (wOp2 fAdd (wGetK (wPeek 2) (wPeek 4) (wLst wNil)) (wLst (wCons (wVar 5) wNil))) (wPeek 4)))))) (wB gDictK (wCons (wComp [4] (iKeysD (wVar 2)) (gN 4) bYes (wTup (wCons (wVar 4) (wCons (wB gTuple (wCons (wSortSetT (wOp2 fIxL (wPeek 2) (wPeek 4))) wNil)) wNil)))) wNil)))
theorem tick_key {r : Rm} {g : Rg} (ok : r.Ok) (gk : g.Ok r.top) {ss : List Sta} (hs : ∀ s ∈ ss, s ∈ keysL r g) {t : Sta} (ht : t ∈ tks r g ss) : t ∈ keysL r g := by
  obtain ⟨s', h1, w, h2, rfl⟩ := mem_tks.mp ht
  exact rows_closed ok gk (hs s' h1) h2.1 h2.2
theorem grpM_get {κ : Type} [DecidableEq κ] (f : Sta → κ) (ts : List Sta) (m : κ) : ((lkp (grpM f ts) m).getD []).length ≤ ts.length := by
  rw [grpM_lkp]
  split
  · exact Nat.zero_le _
  · exact List.length_filter_le _ _
theorem loopA1 {r : Rm} {g : Rg} {sg : Int} {d2 : List D} {ss : List Sta} (ok : r.Ok) (gk : g.Ok r.top) (hs : ∀ s ∈ ss, s ∈ keysL r g) (l61 : ss.length ≤ 61) (s1 : ¬ sg = 0) {e : En}
    (q : ∀ s3 s4 s5, e.nx [.obj (eyLb r g sg d2), .val (setD ss), .own (.tdict (encL prKy encSts (grpM (fun t : Sta => (t.2.1, t.1)) (tks r g ss)))), s3, s4, s5]) :
    tA1p e [.obj (eyLb r g sg d2), .val (setD ss), .un, .un, .un, .un] := by
  unfold tA1p
  refine seq_g fun n1 h1 => ?_
  walk_at "ds"
  refine h1 _ ?_
  clear h1
  refine for_seqT (α := Sta) encSt ss (fun Q E q => q) (fun rest env => ∃ pre s3 s4 s5, ss = pre ++ rest ∧ env = [.obj (eyLb r g sg d2), .val (setD ss), .own (.tdict (encL prKy encSts (grpM (fun t : Sta => (t.2.1, t.1)) (tks r g pre)))), s3, s4, s5]) ⟨[], _, _, _, rfl, rfl⟩ ?_ ?_
  · rintro _ ⟨pre, s3, s4, s5, e, rfl⟩
    rw [List.append_nil] at e
    subst e
    exact q _ _ _
  · rintro s rest _ nx ⟨pre, s3, s4, s5, e, rfl⟩ go
    refine ⟨_, rfl, ?_⟩
    have pl := congrArg List.length e
    rw [List.length_append] at pl
    have hk : s ∈ keysL r g := hs s (by rw [e]; simp)
    refine for_seqT (α := Int) (fun w => .tuple [encMark sg (tick r g s w), encSt (tick r g s w)]) [1, 2, 3] (fun Q E q => by
        unfold iSeq wMethO
        walk_at "ds"
        exact at_foll ok gk hk q) (fun ws env => ∃ dn s4 s5, [1, 2, 3] = dn ++ ws ∧ env = [.obj (eyLb r g sg d2), .val (setD ss), .own (.tdict (encL prKy encSts (grpM (fun t : Sta => (t.2.1, t.1)) (tks r g pre ++ dn.map fun w => tick r g s w)))), .val (encSt s), s4, s5]) ⟨[], _, _, rfl, by rw [List.map_nil, List.append_nil]; rfl⟩ ?_ ?_
    · rintro _ ⟨dn, s4, s5, ew, rfl⟩
      rw [List.append_nil] at ew
      refine go _ ⟨pre ++ [s], .val (encSt s), s4, s5, by rw [e]; simp, ?_⟩
      rw [tks_snoc, ew]
    · rintro w ws _ nx3 ⟨dn, s4, s5, ew, rfl⟩ go3
      have dl := congrArg List.length ew
      rw [List.length_append] at dl
      have dl2 : dn.length ≤ 3 := by
        have : ([1, 2, 3] : List Int).length = 3 := rfl
        omega
      refine ⟨_, rfl, ?_⟩
      refine sSet_tdG (kvs := encL prKy encSts (grpM (fun t : Sta => (t.2.1, t.1)) (tks r g pre ++ dn.map fun w => tick r g s w))) rfl ?_
      have em : encMark sg (tick r g s w) = .tuple (keysD [.num (tick r g s w).2.1, .num (tick r g s w).1]) := by
        unfold encMark
        rw [if_neg s1]
        rfl
      unfold wGet
      walk_at "ds"
      rw [em]
      refine ⟨[.num (tick r g s w).2.1, .num (tick r g s w).1], rfl, by show 1 ≤ 8; decide, ?_⟩
      have eg : (kvGet (encL prKy encSts (grpM (fun t : Sta => (t.2.1, t.1)) (tks r g pre ++ dn.map fun w => tick r g s w))) (.tup [.num (tick r g s w).2.1, .num (tick r g s w).1])).getD (.list []) = encSts ((lkp (grpM (fun t : Sta => (t.2.1, t.1)) (tks r g pre ++ dn.map fun w => tick r g s w)) ((tick r g s w).2.1, (tick r g s w).1)).getD []) := by
        rw [show NestedKey.tup [.num (tick r g s w).2.1, .num (tick r g s w).1] = prKy ((tick r g s w).2.1, (tick r g s w).1) from rfl, get_encL prKy_inj]
        cases lkp (grpM (fun t : Sta => (t.2.1, t.1)) (tks r g pre ++ dn.map fun w => tick r g s w)) ((tick r g s w).2.1, (tick r g s w).1) <;> rfl
      rw [eg]
      unfold encSts
      walk_at "ds"
      refine ⟨le1000 ?_, [.num (tick r g s w).2.1, .num (tick r g s w).1], rfl, by show 1 ≤ 8; decide, small1000 ?_, ?_⟩
      · rw [List.length_map]
        have h1 := grpM_get (fun t : Sta => (t.2.1, t.1)) (tks r g pre ++ dn.map fun w => tick r g s w) ((tick r g s w).2.1, (tick r g s w).1)
        rw [List.length_append, tks_len, List.length_map] at h1
        omega
      · unfold encL
        rw [List.length_map]
        have h1 := grpM_len (fun t : Sta => (t.2.1, t.1)) (tks r g pre ++ dn.map fun w => tick r g s w)
        rw [List.length_append, tks_len, List.length_map] at h1
        omega
      · refine go3 _ ⟨dn ++ [w], .val (.tuple (keysD [.num (tick r g s w).2.1, .num (tick r g s w).1])), .val (encSt (tick r g s w)), by rw [ew]; simp, ?_⟩
        have ep := put_encL (g := encSts) prKy_inj (grpM (fun t : Sta => (t.2.1, t.1)) (tks r g pre ++ dn.map fun w => tick r g s w)) ((tick r g s w).2.1, (tick r g s w).1) ((lkp (grpM (fun t : Sta => (t.2.1, t.1)) (tks r g pre ++ dn.map fun w => tick r g s w)) ((tick r g s w).2.1, (tick r g s w).1)).getD [] ++ [tick r g s w])
        rw [List.map_append, ← List.append_assoc, List.map_cons, List.map_nil, grpM_snoc]
        unfold grpT
        rw [← ep]
        unfold encSts
        rw [List.map_append]
        rfl
end HC
namespace HC
open PySem PySem.Spec PyProof.Rows L2
local macro_rules | `(tactic| walk_at "ds") => `(tactic| try simp only [endD, startD, startT, endLaw, startLaw, List.map_cons, List.map_nil, List.length_cons, List.length_nil, List.replicate, List.cons_append, List.nil_append, Nat.reduceSub, Nat.reduceAdd, sSeq, sRet, sIf, sNil, sAsg, sUnp, sExpr, sPar2, sPar3, xCons, xNil, xVal, xOwn, bTest, bNot, bAnd, bOr, wVar, wPeek, slot, wC, wOp2, wB, wM, wCons, wNil, wTup, wLst, wIf, wAnd, wOr, wNot, wNeg, wCall, wCallT, wSl, wPart, wNoPart, List.set, ex1, gT_t, gT_st, gT_pr, gC_c, gN_c, gNil_c, sRaise, wChain, sFrz, frz, wIsi, wTabIn, wTabAt, sAug, wipeD, En.lp, loopW_nil, d_WEATHERS, ds_WEATHERS, wDisp1, wNewT, wComp, iSeq, iRange, gList_l, sFor, Bool.false_eq_true, if_false, if_true,
  fAdd_i, fAdd_s, fAdd_l, fAdd_t, fAddL_l, fSub_i, fLt_i, fLe_i, fGt_i, fGe_i, fEq_i, fNe_i, fIs_b, fIsN_b, fIs_nn, fIs_in, fIs_ln, fIs_tn, fIsN_nn, fIsN_in, fIsN_ln, fIsN_tn, gMin_2, gMax_2, gLen_l, gLen_t, fIx_rm0, fIx_rm1, fIx_rm2, fIx_st0, fIx_st1, fIx_st2, fIx_rg0, fIx_rg1, fIx_rg2, fSl_rg, fEq_gap, fEq_stay, fEq_late, fEq_look, fEq_lean])
theorem sSetK_G {i : Nat} {t tj : TP} {e : En} {r : Env} {kvs : List (NestedKey × D)} (h : slot r i = .own (.dict kvs)) (q : t r (fun d => tj r (fun j => ∃ n, j = .int n ∧ kvs.length < sizeLine ∧ e.nx (r.set i (.own (.dict (kvPut kvs (.num n) d))))) (e.ex r)) (e.ex r)) : sSetK i t tj e r := by
  unfold sSetK
  rw [h]
  exact q
theorem loopA0 {r : Rm} {g : Rg} {sg : Int} {d2 : List D} {ss : List Sta} (ok : r.Ok) (gk : g.Ok r.top) (hs : ∀ s ∈ ss, s ∈ keysL r g) (l61 : ss.length ≤ 61) (s1 : sg = 0) {e : En}
    (q : ∀ s3 s4 s5, e.nx [.obj (eyLb r g sg d2), .val (setD ss), .own (.dict (encL NestedKey.num encSts (grpM (fun t : Sta => t.2.1) (tks r g ss)))), s3, s4, s5]) :
    tA0p e [.obj (eyLb r g sg d2), .val (setD ss), .un, .un, .un, .un] := by
  unfold tA0p
  refine seq_g fun n1 h1 => ?_
  walk_at "ds"
  refine h1 _ ?_
  clear h1
  refine for_seqT (α := Sta) encSt ss (fun Q E q => q) (fun rest env => ∃ pre s3 s4 s5, ss = pre ++ rest ∧ env = [.obj (eyLb r g sg d2), .val (setD ss), .own (.dict (encL NestedKey.num encSts (grpM (fun t : Sta => t.2.1) (tks r g pre)))), s3, s4, s5]) ⟨[], _, _, _, rfl, rfl⟩ ?_ ?_
  · rintro _ ⟨pre, s3, s4, s5, e, rfl⟩
    rw [List.append_nil] at e
    subst e
    exact q _ _ _
  · rintro s rest _ nx ⟨pre, s3, s4, s5, e, rfl⟩ go
    refine ⟨_, rfl, ?_⟩
    have pl := congrArg List.length e
    rw [List.length_append] at pl
    have hk : s ∈ keysL r g := hs s (by rw [e]; simp)
    refine for_seqT (α := Int) (fun w => .tuple [encMark sg (tick r g s w), encSt (tick r g s w)]) [1, 2, 3] (fun Q E q => by
        unfold iSeq wMethO
        walk_at "ds"
        exact at_foll ok gk hk q) (fun ws env => ∃ dn s4 s5, [1, 2, 3] = dn ++ ws ∧ env = [.obj (eyLb r g sg d2), .val (setD ss), .own (.dict (encL NestedKey.num encSts (grpM (fun t : Sta => t.2.1) (tks r g pre ++ dn.map fun w => tick r g s w)))), .val (encSt s), s4, s5]) ⟨[], _, _, rfl, by rw [List.map_nil, List.append_nil]; rfl⟩ ?_ ?_
    · rintro _ ⟨dn, s4, s5, ew, rfl⟩
      rw [List.append_nil] at ew
      refine go _ ⟨pre ++ [s], .val (encSt s), s4, s5, by rw [e]; simp, ?_⟩
      rw [tks_snoc, ew]
    · rintro w ws _ nx3 ⟨dn, s4, s5, ew, rfl⟩ go3
      have dl := congrArg List.length ew
      rw [List.length_append] at dl
      have dl2 : dn.length ≤ 3 := by
        have : ([1, 2, 3] : List Int).length = 3 := rfl
        omega
      refine ⟨_, rfl, ?_⟩
      refine sSetK_G (kvs := encL NestedKey.num encSts (grpM (fun t : Sta => t.2.1) (tks r g pre ++ dn.map fun w => tick r g s w))) rfl ?_
      have em : encMark sg (tick r g s w) = .int (tick r g s w).2.1 := by
        unfold encMark
        rw [if_pos s1]
      unfold wGetK
      walk_at "ds"
      rw [em]
      refine ⟨(tick r g s w).2.1, rfl, ?_⟩
      have eg : (kvGet (encL NestedKey.num encSts (grpM (fun t : Sta => t.2.1) (tks r g pre ++ dn.map fun w => tick r g s w))) (.num (tick r g s w).2.1)).getD (.list []) = encSts ((lkp (grpM (fun t : Sta => t.2.1) (tks r g pre ++ dn.map fun w => tick r g s w)) (tick r g s w).2.1).getD []) := by
        rw [get_encL numK_inj]
        cases lkp (grpM (fun t : Sta => t.2.1) (tks r g pre ++ dn.map fun w => tick r g s w)) (tick r g s w).2.1 <;> rfl
      rw [eg]
      unfold encSts
      walk_at "ds"
      refine ⟨le1000 ?_, (tick r g s w).2.1, rfl, small1000 ?_, ?_⟩
      · rw [List.length_map]
        have h1 := grpM_get (fun t : Sta => t.2.1) (tks r g pre ++ dn.map fun w => tick r g s w) (tick r g s w).2.1
        rw [List.length_append, tks_len, List.length_map] at h1
        omega
      · unfold encL
        rw [List.length_map]
        have h1 := grpM_len (fun t : Sta => t.2.1) (tks r g pre ++ dn.map fun w => tick r g s w)
        rw [List.length_append, tks_len, List.length_map] at h1
        omega
      · refine go3 _ ⟨dn ++ [w], .val (.int (tick r g s w).2.1), .val (encSt (tick r g s w)), by rw [ew]; simp, ?_⟩
        have ep := put_encL (g := encSts) numK_inj (grpM (fun t : Sta => t.2.1) (tks r g pre ++ dn.map fun w => tick r g s w)) (tick r g s w).2.1 ((lkp (grpM (fun t : Sta => t.2.1) (tks r g pre ++ dn.map fun w => tick r g s w)) (tick r g s w).2.1).getD [] ++ [tick r g s w])
        rw [List.map_append, ← List.append_assoc, List.map_cons, List.map_nil, grpM_snoc]
        unfold grpT
        rw [← ep]
        unfold encSts
        rw [List.map_append]
        rfl
theorem sort_set {r : Rm} {g : Rg} (ok : r.Ok) (gk : g.Ok r.top) {fr : List Sta} (hl : ∀ s ∈ fr, s ∈ keysL r g) {Q : D → Prop} (q : Q (encSts (ascS fr))) :
    ∃ (ks m : List (List Int)) (n : Nat) (B : Int), fr.map encSt = ks.map tupD ∧ (∀ k ∈ ks, k ∈ m) ∧ m.length < 63 ∧ 1 ≤ n ∧ (∀ k ∈ ks, k.length = n ∧ TS.Bd B k) ∧
      ∀ out : List (List Int), out.Nodup → (∀ k, k ∈ out ↔ k ∈ ks) → out.Pairwise (fun a b => TS.code B a ≤ TS.code B b) → Q (.list (out.map tupD)) :=
  sort_states ok gk (fun s hs => keys_lim ok gk (hl s hs)) fun l nd me pw => by
    rw [ascS_of (code_asc ok gk nd (fun s hs => keys_lim ok gk (hl s ((me s).mp hs))) pw) me]
    exact q
theorem sem_Eye_after : ∀ lb ds Q, sp_Eye_after (lb :: ds) Q (fun _ => False) → t_Eye_after (endD Q fun _ => False) (startO lb 6 ds) := by
  rintro lb ds Q ⟨r, g, sg, d2, ss, e, ok, gk, nd, hs, hm, few, q⟩
  cases e
  have l61 := keys_few ok gk nd hs
  have tl : (tks r g ss).length ≤ 183 := by rw [tks_len]; omega
  have hk : setD ss = .tuple (keysD (ss.map stK)) := by rw [stsK_keys]; rfl
  unfold t_Eye_after
  by_cases s0 : sg = 0
  · refine .inr ⟨r.enc, g.enc, .int sg, (keysL r g).map encSt, d2, ss.map stK, rfl, by rw [← hk]; rfl, sts_depth ss, by rw [← hk]; exact hm, few, fun d jd => ?_, ?_⟩
    · rw [← hk] at jd
      have : d = afD r g sg ss := (eyJ2_is (d1 := (keysL r g).map encSt) (d2 := d2) gk).mp jd
      rw [this]
      exact q
    · rw [← hk]
      refine loopA0 (d2 := d2) ok gk hs l61 s0 fun s3 s4 s5 => ?_
      refine ⟨rfl, rfl, ?_⟩
      unfold iKeysD
      walk_at "ds"
      rw [List.map_map]
      unfold encL
      rw [List.map_map]
      have gl := grpM_len (fun t : Sta => t.2.1) (tks r g ss)
      refine ⟨le1000 (by rw [List.length_map]; omega), ?_⟩
      refine comp_enc (α := Int × List Sta) (fun p => .int p.1) (fun p => .tuple [.int p.1, setD (ascS p.2)]) (grpM (fun t : Sta => t.2.1) (tks r g ss)) (fun p hp => ⟨_, rfl, fun Q' q' => ?_⟩) ?_
      · have hlk : lkp (grpM (fun t : Sta => t.2.1) (tks r g ss)) p.1 = some p.2 := lkp_of (grpM_nd _ _) hp
        have hlk2 := hlk
        rw [grpM_lkp] at hlk2
        have hsub : ∀ s ∈ p.2, s ∈ keysL r g := fun s hs' => by
          by_cases c : ((tks r g ss).filter fun t => decide (t.2.1 = p.1)) = []
          · rw [if_pos c] at hlk2; cases hlk2
          · rw [if_neg c] at hlk2
            injection hlk2 with hlk2
            rw [← hlk2] at hs'
            exact tick_key ok gk hs (List.mem_filter.mp hs').1
        unfold wSortSetT
        walk_at "ds"
        refine ⟨encSts p.2, by rw [show (List.map (fun p : Int × List Sta => (NestedKey.num p.1, encSts p.2)) (grpM (fun t : Sta => t.2.1) (tks r g ss))) = encL NestedKey.num encSts (grpM (fun t : Sta => t.2.1) (tks r g ss)) from rfl, get_encL numK_inj, hlk]; rfl, ?_⟩
        refine sort_set (Q := fun d => gTuple [d] fun d => Q' (.tuple [.int p.1, d])) ok gk hsub ?_
        exact q'
      · refine ⟨(grpM (fun t : Sta => t.2.1) (tks r g ss)).map fun p => (p.1, setD (ascS p.2)), by rw [List.map_map]; rfl, by rw [List.map_map]; exact grpM_nd _ _, ?_⟩
        refine (eyJ2_is (d1 := (keysL r g).map encSt) (d2 := d2) gk).mpr ?_
        unfold afD encL
        rw [if_pos s0, List.map_map]
        rfl
  · refine .inl ⟨r.enc, g.enc, .int sg, (keysL r g).map encSt, d2, ss.map stK, rfl, by rw [← hk]; rfl, sts_depth ss, by rw [← hk]; exact hm, few, fun d jd => ?_, ?_⟩
    · rw [← hk] at jd
      have : d = afD r g sg ss := (eyJ2_is (d1 := (keysL r g).map encSt) (d2 := d2) gk).mp jd
      rw [this]
      exact q
    · rw [← hk]
      refine loopA1 (d2 := d2) ok gk hs l61 s0 fun s3 s4 s5 => ?_
      refine ⟨rfl, rfl, ?_⟩
      walk_at "ds"
      unfold encL
      rw [List.map_map]
      have gl := grpM_len (fun t : Sta => (t.2.1, t.1)) (tks r g ss)
      refine ⟨le1000 (by rw [List.length_map]; omega), ?_⟩
      refine comp_enc (α := (Int × Int) × List Sta) (fun p => keyD (prKy p.1)) (fun p => .tuple [keyD (prKy p.1), setD (ascS p.2)]) (grpM (fun t : Sta => (t.2.1, t.1)) (tks r g ss)) (fun p hp => ⟨_, rfl, fun Q' q' => ?_⟩) ?_
      · have hlk : lkp (grpM (fun t : Sta => (t.2.1, t.1)) (tks r g ss)) p.1 = some p.2 := lkp_of (grpM_nd _ _) hp
        have hlk2 := hlk
        rw [grpM_lkp] at hlk2
        have hsub : ∀ s ∈ p.2, s ∈ keysL r g := fun s hs' => by
          by_cases c : ((tks r g ss).filter fun t => decide ((t.2.1, t.1) = p.1)) = []
          · rw [if_pos c] at hlk2; cases hlk2
          · rw [if_neg c] at hlk2
            injection hlk2 with hlk2
            rw [← hlk2] at hs'
            exact tick_key ok gk hs (List.mem_filter.mp hs').1
        unfold wSortSetT
        walk_at "ds"
        refine ⟨[.num p.1.1, .num p.1.2], encSts p.2, rfl, by show 1 ≤ 8; decide, by rw [show (List.map (fun p : (Int × Int) × List Sta => (prKy p.1, encSts p.2)) (grpM (fun t : Sta => (t.2.1, t.1)) (tks r g ss))) = encL prKy encSts (grpM (fun t : Sta => (t.2.1, t.1)) (tks r g ss)) from rfl, show NestedKey.tup [.num p.1.1, .num p.1.2] = prKy p.1 from rfl, get_encL prKy_inj, hlk]; rfl, ?_⟩
        refine sort_set (Q := fun d => gTuple [d] fun d => Q' (.tuple [keyD (prKy p.1), d])) ok gk hsub ?_
        exact q'
      · refine ⟨(grpM (fun t : Sta => (t.2.1, t.1)) (tks r g ss)).map fun p => ([.num p.1.1, .num p.1.2], setD (ascS p.2)), by rw [List.map_map]; rfl, ?_, ?_, ?_⟩
        · rw [List.map_map]
          have : ((grpM (fun t : Sta => (t.2.1, t.1)) (tks r g ss)).map ((·.1) ∘ fun p : (Int × Int) × List Sta => ([NestedKey.num p.1.1, .num p.1.2], setD (ascS p.2)))) = ((grpM (fun t : Sta => (t.2.1, t.1)) (tks r g ss)).map (·.1)).map fun m : Int × Int => [NestedKey.num m.1, .num m.2] := by rw [List.map_map]; rfl
          rw [this]
          exact List.Pairwise.map _ (fun a b hne e => hne (prKy_inj a b (by unfold prKy; rw [e]))) (grpM_nd (fun t : Sta => (t.2.1, t.1)) (tks r g ss))
        · intro q' hq'
          obtain ⟨p, _, rfl⟩ := List.mem_map.mp hq'
          show 1 ≤ 8
          decide
        · refine (eyJ2_is (d1 := (keysL r g).map encSt) (d2 := d2) gk).mpr ?_
          unfold afD encL
          rw [if_neg s0, List.map_map]
          rfl
end HC
namespace HC
open PySem PySem.Spec PyProof.Rows L2
structure MkOk (top sg : Int) (m : Mrk) : Prop where
  a0 : 0 ≤ m.1
  a1 : m.1 ≤ 1
  b0 : 0 ≤ m.2
  b1 : m.2 ≤ top
  z : sg = 0 → m.2 = 0
end HC
namespace HC
open PySem PySem.Spec PyProof.Rows L2
theorem no_own {r : Env} (h : (r.all fun s => match s with | .own _ => false | .tok => false | _ => true) = true) : noOwn r ∧ noTok r := by
  rw [List.all_eq_true] at h
  refine ⟨fun m d e => ?_, fun m e => ?_⟩
  · have := h _ (List.mem_of_getElem? e)
    cases this
  · have := h _ (List.mem_of_getElem? e)
    cases this
end HC
namespace HC
open PySem PySem.Spec PyProof.Rows L2
local macro_rules | `(tactic| walk_at "ds") => `(tactic| try simp only [endD, startD, startT, endLaw, startLaw, List.map_cons, List.map_nil, List.length_cons, List.length_nil, List.replicate, List.cons_append, List.nil_append, Nat.reduceSub, Nat.reduceAdd, sSeq, sRet, sIf, sNil, sAsg, sUnp, sExpr, sPar2, sPar3, xCons, xNil, xVal, xOwn, bTest, bNot, bAnd, bOr, wVar, wPeek, slot, wC, wOp2, wB, wM, wCons, wNil, wTup, wLst, wIf, wAnd, wOr, wNot, wNeg, wCall, wCallT, wSl, wPart, wNoPart, List.set, ex1, gT_t, gT_st, gT_pr, gC_c, gN_c, gNil_c, sRaise, wChain, sFrz, frz, wIsi, wTabIn, wTabAt, sAug, wipeD, En.lp, loopW_nil, d_WEATHERS, ds_WEATHERS, wDisp1, wNewT, wComp, iSeq, iRange, gList_l, sFor, Bool.false_eq_true, if_false, if_true,
  fAdd_i, fAdd_s, fAdd_l, fAdd_t, fAddL_l, fSub_i, fLt_i, fLe_i, fGt_i, fGe_i, fEq_i, fNe_i, fIs_b, fIsN_b, fIs_nn, fIs_in, fIs_ln, fIs_tn, fIsN_nn, fIsN_in, fIsN_ln, fIsN_tn, gMin_2, gMax_2, gLen_l, gLen_t, fIx_rm0, fIx_rm1, fIx_rm2, fIx_st0, fIx_st1, fIx_st2, fIx_rg0, fIx_rg1, fIx_rg2, fSl_rg, fEq_gap, fEq_stay, fEq_late, fEq_look, fEq_lean])
structure Clo (r : Rm) (g1 g2 : Rg) (Z : List (List Sta)) : Prop where
  fst : [first r] ∈ Z
  nd : ∀ ss ∈ Z, ss.Nodup
  k1 : ∀ ss ∈ Z, ∀ s ∈ ss, s ∈ keysL r g1
  k2 : ∀ ss ∈ Z, ∀ s ∈ ss, s ∈ keysL r g2
  eq : ∀ ss ∈ Z, tks r g2 ss = tks r g1 ss
  nx : ∀ ss ∈ Z, ∀ p ∈ grpM (fun t : Sta => (t.2.1, t.1)) (tks r g1 ss), ascS p.2 ∈ Z
  few : ∀ ss ∈ Z, (tks r g1 ss).length < 63
  len : Z.length ≤ 5000
def sp_marks_apart : SpD := fun ds Q _ => ∃ (r : Rm) (g1 g2 : Rg) (b : Bool) (Z : List (List Sta)), ds = [r.enc, g1.enc, g2.enc, .int 1, .bool b] ∧ r.Ok ∧ g1.Ok r.top ∧ g2.Ok r.top ∧ Clo r g1 g2 Z ∧ Q .none
theorem mo_marks_apart : MonoSp 5 sp_marks_apart := ⟨fun hq _ ⟨r, g1, g2, b, Z, e, h1, h2, h3, h4, q⟩ => ⟨r, g1, g2, b, Z, e, h1, h2, h3, h4, hq _ q⟩, fun ⟨_, _, _, _, _, e, _⟩ => by rw [e]; rfl⟩
def t_marks_apart : TSD :=
  sEyes 5 (wCons (wVar 0) (wCons (wVar 1) (wCons (wVar 3) wNil))) (wCons (wVar 0) (wCons (wVar 2) (wCons (wVar 3) wNil)))
    (sSeq (sPar2 6 7 (xCons (xOwn (wLst (wCons (wTup (wCons (wMethE 5 0 sp_Eye_begun wNil) (wCons (wMethE 5 1 sp_Eye_begun wNil) (wCons (wLst wNil) wNil)))) wNil))) (xCons (xVal (wC (.int 0))) xNil)))
    (sSeq (sAsg 8 (xOwn (wDisp1 (wSl (wOp2 fIx (wPeek 6) (wC (.int 0))) wNoPart (wPart (wC (.int 2)))) (wC (.int 0)))))
    (sSeq (sWhile (bTest (wOp2 fLt (wPeek 7) (wB gLen (wCons (wPeek 6) wNil)))) (sSeq (sUnp (wOp2 fIx (wPeek 6) (wPeek 7)) (gT (gCons' (gN 9) (gCons' (gN 10) (gCons' (gN 11) gNil')))))
    (sSeq (sAsg 12 (xVal (wTup (wCons (wMethE 5 0 sp_Eye_after (wCons (wVar 9) wNil)) (wCons (wMethE 5 1 sp_Eye_after (wCons (wVar 10) wNil)) wNil)))))
    (sSeq (sFor (iSeq (wSortSetT (wOp2 fAdd (wB gListT (wCons (wOp2 fIx (wPeek 12) (wC (.int 0))) wNil)) (wIf (bTest (wPeek 4)) (wB gListT (wCons (wOp2 fIx (wPeek 12) (wC (.int 1))) wNil)) (wLst wNil))))) (gN 13) (sSeq (sIf (bOr (bTest (wOp2 fNotIn (wPeek 13) (wOp2 fIx (wPeek 12) (wC (.int 0))))) (bTest (wOp2 fNotIn (wPeek 13) (wOp2 fIx (wPeek 12) (wC (.int 1)))))) (sRet (wTup (wCons (wOp2 fAdd (wPeek 11) (wLst (wCons (wVar 13) wNil))) (wCons (wIf (bTest (wOp2 fIn (wPeek 13) (wOp2 fIx (wPeek 12) (wC (.int 0))))) (wC (.int 0)) (wC (.int 1))) wNil)))) sNil)
    (sSeq (sAsg 14 (xVal (wTup (wCons (wOp2 fIx (wOp2 fIx (wPeek 12) (wC (.int 0))) (wPeek 13)) (wCons (wOp2 fIx (wOp2 fIx (wPeek 12) (wC (.int 1))) (wPeek 13)) wNil)))))
    (sIf (bTest (wOp2 fNotIn (wPeek 14) (wPeek 8))) (sSeq (sSet 8 (wC (.int 0)) (wPeek 14))
    (sApp 6 (wOp2 fAdd (wPeek 14) (wTup (wCons (wOp2 fAdd (wPeek 11) (wLst (wCons (wVar 13) wNil))) wNil))))) sNil))))
    (sAug 7 (wC (.int 1)))))))
    (sRet (wC .none)))))
def sK (ss : List Sta) : NestedKey := .tup (ss.map stK)
theorem sK_inj (a b : List Sta) (h : sK a = sK b) : a = b := by
  unfold sK at h
  injection h with h
  exact List.map_inj_right (fun x y e => stK_inj x y e) |>.mp h
def dK (ss : List Sta) : NestedKey := .tup [sK ss, sK ss]
theorem dK_inj (a b : List Sta) (h : dK a = dK b) : a = b := by
  unfold dK at h
  injection h with h
  injection h with h _
  exact sK_inj a b h
theorem keyD_sK (ss : List Sta) : keyD (sK ss) = setD ss := by
  show D.tuple (keysD (ss.map stK)) = _
  rw [stsK_keys]
  rfl
theorem sK_depth (ss : List Sta) : (sK ss).depth ≤ 2 := by
  have h : ∀ l : List Sta, NestedKey.depthAll (l.map stK) ≤ 1 := by
    intro l
    induction l with
    | nil => exact Nat.zero_le _
    | cons t l ih =>
      show max (stK t).depth (NestedKey.depthAll (l.map stK)) ≤ 1
      have : (stK t).depth = 1 := rfl
      omega
  have := h ss
  show NestedKey.depthAll (ss.map stK) + 1 ≤ 2
  omega
theorem dK_depth (ss : List Sta) : (dK ss).depth ≤ 8 := by
  have h := sK_depth ss
  show max (sK ss).depth (max (sK ss).depth 0) + 1 ≤ 8
  omega
def encZZ (l : List (List Sta)) : D := .tdict (encL dK (fun _ : Unit => D.int 0) (l.map fun s => (s, ())))
theorem fNotIn_z {l : List (List Sta)} {a : List Sta} {Q : D → Prop} (q : Q (.bool (!decide (a ∈ l)))) : fNotIn (.tuple [setD a, setD a]) (encZZ l) Q := by
  refine ⟨[sK a, sK a], ?_, dK_depth a, ?_⟩
  · show _ = D.tuple [keyD (sK a), keyD (sK a)]
    rw [keyD_sK]
  · show Q (.bool (!(kvGet (encL dK (fun _ : Unit => D.int 0) (l.map fun s => (s, ()))) (dK a)).isSome))
    rw [get_encL dK_inj, Option.isSome_map]
    by_cases h : a ∈ l
    · have e : lkp (l.map fun s => (s, ())) a ≠ none := fun z => by
        rw [lkp_none, List.map_map] at z
        exact z (List.mem_map.mpr ⟨a, h, rfl⟩)
      cases hl : lkp (l.map fun s => (s, ())) a with
      | none => exact absurd hl e
      | some u => simpa [h] using q
    · have e : lkp (l.map fun s => (s, ())) a = none := by
        rw [lkp_none, List.map_map]
        intro z
        obtain ⟨b, hb, rfl⟩ := List.mem_map.mp z
        exact h hb
      rw [e]
      simpa [h] using q
theorem put_z {l : List (List Sta)} {a : List Sta} (h : a ∉ l) : D.tdict (kvPut (encL dK (fun _ : Unit => D.int 0) (l.map fun s => (s, ()))) (.tup [sK a, sK a]) (.int 0)) = encZZ (l ++ [a]) := by
  have := put_encL (g := fun _ : Unit => D.int 0) dK_inj (l.map fun s => (s, ())) a ()
  rw [show NestedKey.tup [sK a, sK a] = dK a from rfl, this, putL_new (lkp_none.mp (by
    rw [lkp_none, List.map_map]
    intro z
    obtain ⟨b, hb, rfl⟩ := List.mem_map.mp z
    exact h hb))]
  show D.tdict _ = D.tdict _
  rw [List.map_append]
  rfl
def encT (p : List Sta × List D) : D := .tuple [setD p.1, setD p.1, .list p.2]
structure InvZ (Z : List (List Sta)) (l : List (List Sta × List D)) : Prop where
  nd : (l.map (·.1)).Nodup
  mem : ∀ p ∈ l, p.1 ∈ Z
  ms : ∀ p ∈ l, p.2.length ≤ l.length
theorem InvZ.len {Z : List (List Sta)} {l : List (List Sta × List D)} (I : InvZ Z l) : l.length ≤ Z.length := by
  have h := sub_len (l.map (·.1)) Z I.nd fun s hs => by
    obtain ⟨p, hp, rfl⟩ := List.mem_map.mp hs
    exact I.mem p hp
  rw [List.length_map] at h
  exact h
theorem InvZ.new {Z : List (List Sta)} {l : List (List Sta × List D)} {a : List Sta} {ms : List D} (I : InvZ Z l) (ha : a ∈ Z) (hn : a ∉ l.map (·.1)) (hm : ms.length ≤ l.length + 1) : InvZ Z (l ++ [(a, ms)]) := by
  refine ⟨?_, fun p hp => ?_, fun p hp => ?_⟩
  · rw [List.map_append, List.nodup_append]
    refine ⟨I.nd, by simp, fun x hx y hy e => ?_⟩
    simp only [List.map_cons, List.map_nil, List.mem_singleton] at hy
    subst hy e
    exact hn hx
  · rcases List.mem_append.mp hp with hp | hp
    · exact I.mem p hp
    · rw [List.mem_singleton.mp hp]; exact ha
  · rw [List.length_append, List.length_cons, List.length_nil]
    rcases List.mem_append.mp hp with hp | hp
    · have := I.ms p hp; omega
    · rw [List.mem_singleton.mp hp]; exact hm
def mzEnv (r : Rm) (g1 g2 : Rg) (b : Bool) (Z : List (List Sta)) (l : List (List Sta × List D)) (here : Nat) (s9 s10 s11 s12 s13 s14 : Sl) : Env := [.val r.enc, .val g1.enc, .val g2.enc, .val (.int 1), .val (.bool b), .obj (.tuple [eyLb r g1 1 (Z.map setD), eyLb r g2 1 (Z.map setD)]), .own (.list (l.map encT)), .val (.int here), .own (encZZ (l.map (·.1))), s9, s10, s11, s12, s13, s14]
section
variable {r : Rm} {g1 g2 : Rg} {b : Bool} {Z : List (List Sta)}
theorem at_afterZ {g : Rg} {ss : List Sta} {Q : D → Prop} {E : Addr → Prop} (ok : r.Ok) (gk : g.Ok r.top) (nd : ss.Nodup) (hk : ∀ s ∈ ss, s ∈ keysL r g) (hz : ss ∈ Z) (hl : Z.length ≤ 5000) (q : Q (afD r g 1 ss)) : sp_Eye_after [eyLb r g 1 (Z.map setD), setD ss] Q E :=
  ⟨r, g, 1, Z.map setD, ss, rfl, ok, gk, nd, hk, List.mem_map.mpr ⟨ss, hz, rfl⟩, by rw [List.length_map]; omega, q⟩
def mzBody : TSD := (sSeq (sIf (bOr (bTest (wOp2 fNotIn (wPeek 13) (wOp2 fIx (wPeek 12) (wC (.int 0))))) (bTest (wOp2 fNotIn (wPeek 13) (wOp2 fIx (wPeek 12) (wC (.int 1)))))) (sRet (wTup (wCons (wOp2 fAdd (wPeek 11) (wLst (wCons (wVar 13) wNil))) (wCons (wIf (bTest (wOp2 fIn (wPeek 13) (wOp2 fIx (wPeek 12) (wC (.int 0))))) (wC (.int 0)) (wC (.int 1))) wNil)))) sNil)
    (sSeq (sAsg 14 (xVal (wTup (wCons (wOp2 fIx (wOp2 fIx (wPeek 12) (wC (.int 0))) (wPeek 13)) (wCons (wOp2 fIx (wOp2 fIx (wPeek 12) (wC (.int 1))) (wPeek 13)) wNil)))))
    (sIf (bTest (wOp2 fNotIn (wPeek 14) (wPeek 8))) (sSeq (sSet 8 (wC (.int 0)) (wPeek 14))
    (sApp 6 (wOp2 fAdd (wPeek 14) (wTup (wCons (wOp2 fAdd (wPeek 11) (wLst (wCons (wVar 13) wNil))) wNil))))) sNil)))
abbrev kvZ (r : Rm) (g : Rg) (ss : List Sta) : List ((Int × Int) × List Sta) := grpM (fun t : Sta => (t.2.1, t.1)) (tks r g ss)
theorem afD_1 {g : Rg} {ss : List Sta} : afD r g 1 ss = .tdict (encL prKy (fun l => setD (ascS l)) (kvZ r g ss)) := by
  unfold afD
  rw [if_neg (by decide)]
theorem in_af {g : Rg} {ss : List Sta} {p : (Int × Int) × List Sta} (hp : p ∈ kvZ r g ss) : kvGet (encL prKy (fun l => setD (ascS l)) (kvZ r g ss)) (prKy p.1) = some (setD (ascS p.2)) := by
  rw [get_encL prKy_inj, lkp_of (grpM_nd _ _) (a := p.1) (b := p.2) hp]
  rfl
theorem notIn_af {g : Rg} {ss : List Sta} {p : (Int × Int) × List Sta} (hp : p ∈ kvZ r g ss) {Q : D → Prop} (q : Q (.bool false)) : fNotIn (tupD [p.1.1, p.1.2]) (afD r g 1 ss) Q := by
  rw [afD_1]
  refine ⟨[.num p.1.1, .num p.1.2], rfl, by show 1 ≤ 8; decide, ?_⟩
  show Q (.bool (!(kvGet _ (prKy p.1)).isSome))
  rw [in_af hp]
  exact q
theorem ix_af {g : Rg} {ss : List Sta} {p : (Int × Int) × List Sta} (hp : p ∈ kvZ r g ss) {Q : D → Prop} (q : Q (setD (ascS p.2))) : fIx (afD r g 1 ss) (tupD [p.1.1, p.1.2]) Q := by
  rw [afD_1]
  exact ⟨[.num p.1.1, .num p.1.2], _, rfl, by show 1 ≤ 8; decide, in_af hp, q⟩
theorem mz_step {l : List (List Sta × List D)} {here : Nat} {ss : List Sta} {ms : List D} {p : (Int × Int) × List Sta} {s14 : Sl} {e : En} (C : Clo r g1 g2 Z) (hz : ss ∈ Z) (I : InvZ Z l) (hms : ms.length ≤ l.length) (hp : p ∈ kvZ r g1 ss)
    (q : ∀ l' s14, InvZ Z l' → l.length ≤ l'.length → e.nx (mzEnv r g1 g2 b Z l' here (.val (setD ss)) (.val (setD ss)) (.val (.list ms)) (.val (.tuple [afD r g1 1 ss, afD r g1 1 ss])) (.val (tupD [p.1.1, p.1.2])) s14)) :
    mzBody e (mzEnv r g1 g2 b Z l here (.val (setD ss)) (.val (setD ss)) (.val (.list ms)) (.val (.tuple [afD r g1 1 ss, afD r g1 1 ss])) (.val (tupD [p.1.1, p.1.2])) s14) := by
  have il := I.len
  have zl := C.len
  unfold mzBody mzEnv
  refine seq_g fun nx h => ?_
  walk_at "ds"
  refine ⟨_, rfl, ?_⟩
  refine notIn_af hp ?_
  walk_at "ds"
  refine ⟨_, rfl, ?_⟩
  refine notIn_af hp ?_
  walk_at "ds"
  refine h _ ?_
  clear h
  refine seq_g fun nx h => ?_
  walk_at "ds"
  refine ⟨_, rfl, ?_⟩
  refine ix_af hp ?_
  refine ⟨_, rfl, ?_⟩
  refine ix_af hp ?_
  refine h _ ?_
  clear h
  walk_at "ds"
  refine fNotIn_z ?_
  have ha := C.nx ss hz p hp
  by_cases hk : ascS p.2 ∈ l.map (·.1)
  · refine ite_f (by simp [hk]) ?_
    exact q l _ I (Nat.le_refl _)
  · refine ite_t (by simp [hk]) ?_
    refine sSet_tdG (kvs := encL dK (fun _ : Unit => D.int 0) ((l.map (·.1)).map fun s => (s, ()))) rfl ?_
    walk_at "ds"
    refine ⟨[sK (ascS p.2), sK (ascS p.2)], ?_, dK_depth _, big2 (by unfold encL; rw [List.length_map, List.length_map, List.length_map]; omega), ?_⟩
    · show _ = D.tuple [keyD (sK (ascS p.2)), keyD (sK (ascS p.2))]
      rw [keyD_sK]
    rw [put_z hk]
    unfold sApp
    walk_at "ds"
    refine ⟨big1 (by omega), ?_⟩
    refine ⟨big1 (by decide), ?_⟩
    refine ⟨big2 (by rw [List.length_map]; omega), ?_⟩
    have := q (l ++ [(ascS p.2, ms ++ [tupD [p.1.1, p.1.2]])]) (.val (.tuple [setD (ascS p.2), setD (ascS p.2)])) (I.new ha hk (by rw [List.length_append]; exact Nat.succ_le_succ hms)) (by rw [List.length_append]; omega)
    unfold mzEnv at this
    rw [List.map_append, List.map_append] at this
    exact this
theorem kv_of {g : Rg} {ss : List Sta} {p : (Int × Int) × List Sta} (hp : p ∈ kvZ r g ss) : ∃ t ∈ tks r g ss, (t.2.1, t.1) = p.1 := by
  have hl : lkp (kvZ r g ss) p.1 = some p.2 := lkp_of (grpM_nd _ _) hp
  rw [grpM_lkp] at hl
  cases hf : (tks r g ss).filter fun t => decide ((t.2.1, t.1) = p.1) with
  | nil => rw [if_pos hf] at hl; cases hl
  | cons t ts =>
    have hm : t ∈ (tks r g ss).filter fun t => decide ((t.2.1, t.1) = p.1) := by rw [hf]; exact List.mem_cons_self
    obtain ⟨h1, h2⟩ := List.mem_filter.mp hm
    exact ⟨t, h1, of_decide_eq_true h2⟩
theorem kv_bd {ss : List Sta} (ok : r.Ok) (gk : g1.Ok r.top) (hs : ∀ s ∈ ss, s ∈ keysL r g1) {p : (Int × Int) × List Sta} (hp : p ∈ kvZ r g1 ss) : TS.Bd 64 [p.1.1, p.1.2] := by
  obtain ⟨t, ht, e⟩ := kv_of hp
  have st := (keys_lim ok gk (tick_key ok gk hs ht)).st
  have t10 := ok.t10
  rw [← e]
  intro m hm
  simp only [List.mem_cons, List.not_mem_nil, or_false] at hm
  have h0 := st.h0
  have h1 := st.ht
  have h2 := st.sw
  rcases hm with rfl | rfl
  · omega
  · omega
theorem gl_af {g : Rg} {ss : List Sta} {Q : D → Prop} (q : Q (.list (((kvZ r g ss).map (fun m => [m.1.1, m.1.2])).map tupD))) : gListT [afD r g 1 ss] Q := by
  rw [afD_1]
  show Q (D.list ((encL prKy (fun l => setD (ascS l)) (kvZ r g ss)).map fun p => keyD p.1))
  unfold encL
  rw [List.map_map]
  rw [List.map_map] at q
  exact q
theorem mz_keys {ss : List Sta} (ok : r.Ok) (gk1 : g1.Ok r.top) (C : Clo r g1 g2 Z) (pz : ss ∈ Z) (b : Bool) {Q : D → Prop} {env : Env} {E : Addr → Prop} (h12 : slot env 12 = .val (.tuple [afD r g1 1 ss, afD r g1 1 ss])) (h4 : slot env 4 = .val (.bool b))
    (q : ∀ out : List (List Int), (∀ k ∈ out, ∃ m ∈ kvZ r g1 ss, k = [m.1.1, m.1.2]) → Q (.list (out.map tupD))) :
    wSortSetT (wOp2 fAdd (wB gListT (wCons (wOp2 fIx (wPeek 12) (wC (.int 0))) wNil)) (wIf (bTest (wPeek 4)) (wB gListT (wCons (wOp2 fIx (wPeek 12) (wC (.int 1))) wNil)) (wLst wNil))) env Q E := by
  have kl : (kvZ r g1 ss).length < 63 := Nat.lt_of_le_of_lt (grpM_len _ _) (C.few _ pz)
  have me' : ∀ k, k ∈ (kvZ r g1 ss).map (fun m => [m.1.1, m.1.2]) → ∃ m ∈ kvZ r g1 ss, k = [m.1.1, m.1.2] := fun k hk => by
    obtain ⟨m, hm, rfl⟩ := List.mem_map.mp hk
    exact ⟨m, hm, rfl⟩
  have key : ∀ ks : List (List Int), (∀ k ∈ ks, k ∈ (kvZ r g1 ss).map (fun m => [m.1.1, m.1.2])) →
      ∃ (ks' m : List (List Int)) (n : Nat) (B : Int), ks.map tupD = ks'.map tupD ∧ (∀ k ∈ ks', k ∈ m) ∧ m.length < 63 ∧ 1 ≤ n ∧ (∀ k ∈ ks', k.length = n ∧ TS.Bd B k) ∧ ∀ out : List (List Int), out.Nodup → (∀ k, k ∈ out ↔ k ∈ ks') → out.Pairwise (fun a b => TS.code B a ≤ TS.code B b) → Q (.list (out.map tupD)) := fun ks hks =>
    ⟨ks, (kvZ r g1 ss).map (fun m => [m.1.1, m.1.2]), 2, 64, rfl, hks, by rw [List.length_map]; exact kl, by decide, fun k hk => by
      obtain ⟨m, hm, rfl⟩ := me' k (hks k hk)
      exact ⟨rfl, kv_bd ok gk1 (C.k1 _ pz) hm⟩, fun out _ hm _ => q out fun k hk => me' k (hks k ((hm k).mp hk))⟩
  simp only [wSortSetT, wOp2, wB, wCons, wNil, wPeek, wC, wIf, bTest, wLst, h12, h4]
  refine ⟨_, rfl, ?_⟩
  refine gl_af ?_
  cases b with
  | true =>
    rw [if_pos rfl]
    refine ⟨_, rfl, ?_⟩
    refine gl_af ?_
    rw [fAdd_l]
    refine ⟨big1 (by simp only [List.length_map]; omega), ?_⟩
    rw [← List.map_append]
    exact key _ fun k hk => (List.mem_append.mp hk).elim (fun h => h) fun h => h
  | false =>
    rw [if_neg Bool.false_ne_true]
    show fAdd _ (.list []) _
    rw [fAdd_l]
    refine ⟨big1 (by simp only [List.length_map, List.length_nil]; omega), ?_⟩
    rw [List.append_nil]
    exact key _ fun k hk => hk
theorem t_here {env : Env} {n : Nat} {ds : List D} (h7 : slot env 7 = .val (.int (n : Int))) (h6 : slot env 6 = .own (.list ds)) {Q : Bool → Prop} {E : Addr → Prop} (q : Q (decide ((n : Int) < (ds.length : Int)))) : bTest (wOp2 fLt (wPeek 7) (wB gLen (wCons (wPeek 6) wNil))) env Q E := by
  simp only [bTest, wOp2, wB, wCons, wNil, wPeek, h7, h6, gLen_l, fLt_i]
  exact q
theorem sem_marks_apart : ∀ ds Q E, sp_marks_apart ds Q E → t_marks_apart (endD Q E) (startD 15 ds) := by
  rintro _ Q E ⟨r, g1, g2, b, Z, rfl, ok, gk1, gk2, C, q⟩
  have zl := C.len
  refine ⟨no_own rfl, ?_⟩
  refine ⟨r.enc, g1.enc, .int 1, (keysL r g1).map encSt, Z.map setD, rfl, ?_⟩
  refine ⟨r.enc, g2.enc, .int 1, (keysL r g2).map encSt, Z.map setD, rfl, ?_⟩
  refine seq_g fun nx h => ?_
  unfold wMethE
  walk_at "ds"
  refine ⟨r, g1.enc, .int 1, _, _, rfl, ?_⟩
  refine ⟨r, g2.enc, .int 1, _, _, rfl, ?_⟩
  refine h _ ?_
  clear h
  refine seq_g fun nx h => ?_
  walk_at "ds"
  rw [fIx_l]
  refine ⟨_, rfl, ?_⟩
  rw [fSl_t]
  refine ⟨[sK [first r], sK [first r]], ?_, dK_depth _, h _ ?_⟩
  · show _ = D.tuple [keyD (sK [first r]), keyD (sK [first r])]
    rw [keyD_sK]
    rfl
  clear h
  show sSeq _ _ _ (mzEnv r g1 g2 b Z [([first r], [])] 0 .un .un .un .un .un .un)
  refine seq_g fun nx h => ?_
  unfold sWhile
  refine ⟨fun m env => ∃ (l : List (List Sta × List D)) (here : Nat) (s9 s10 s11 s12 s13 s14 : Sl), m = 5001 - here ∧ here ≤ l.length ∧ InvZ Z l ∧ env = mzEnv r g1 g2 b Z l here s9 s10 s11 s12 s13 s14,
    ⟨5001, [([first r], [])], 0, .un, .un, .un, .un, .un, .un, rfl, by simp, ⟨by simp, fun p hp => by rw [List.mem_singleton.mp hp]; exact C.fst, fun p hp => by rw [List.mem_singleton.mp hp]; exact Nat.zero_le _⟩, rfl⟩, ?_⟩
  rintro m env ⟨l, here, s9, s10, s11, s12, s13, s14, hm, hh, I, rfl⟩
  have il := I.len
  refine t_here (n := here) (ds := l.map encT) rfl rfl ?_
  rw [List.length_map]
  by_cases hc : here < l.length
  · refine ite_t (decide_eq_true (by omega)) ?_
    obtain ⟨p, hp⟩ : ∃ p, l[here]? = some p := ⟨_, List.getElem?_eq_getElem hc⟩
    have pm := List.mem_of_getElem? hp
    have pz := I.mem p pm
    have pl := I.ms p pm
    refine seq_g fun n1 h1 => ?_
    unfold mzEnv
    walk_at "ds"
    rw [fIx_l]
    refine ⟨encT p, atI_of (by rw [List.getElem?_map, hp]; rfl), _, rfl, h1 _ ?_⟩
    clear h1
    refine seq_g fun n1 h1 => ?_
    unfold wMethE
    walk_at "ds"
    refine at_afterZ ok gk1 (C.nd _ pz) (C.k1 _ pz) pz zl ?_
    refine at_afterZ ok gk2 (C.nd _ pz) (C.k2 _ pz) pz zl ?_
    have ea : afD r g2 1 p.1 = afD r g1 1 p.1 := by unfold afD; rw [C.eq _ pz]
    rw [ea]
    refine h1 _ ?_
    clear h1
    refine seq_g fun n1 h1 => ?_
    unfold sFor iSeq
    refine mz_keys ok gk1 C pz b (by rfl) (by rfl) fun out ho => ?_
    refine loop_gen tupD (fun rest env => (∀ k ∈ rest, ∃ m ∈ kvZ r g1 p.1, k = [m.1.1, m.1.2]) ∧ ∃ l' s13 s14, InvZ Z l' ∧ l.length ≤ l'.length ∧ env = mzEnv r g1 g2 b Z l' here (.val (setD p.1)) (.val (setD p.1)) (.val (.list p.2)) (.val (.tuple [afD r g1 1 p.1, afD r g1 1 p.1])) s13 s14) out _ ⟨ho, l, s13, s14, I, Nat.le_refl _, rfl⟩ ?_ ?_
    · rintro _ ⟨_, l', s13, s14, I', hl', rfl⟩
      refine h1 _ ?_
      unfold mzEnv
      walk_at "ds"
      exact ⟨5001 - (here + 1), by omega, l', here + 1, _, _, _, _, _, _, rfl, by omega, I', rfl⟩
    · rintro k rest _ ⟨hk, l', s13, s14, I', hl', rfl⟩
      obtain ⟨m', hm', rfl⟩ := hk k List.mem_cons_self
      refine ⟨_, rfl, fun go => ?_⟩
      refine mz_step (l := l') (here := here) (ms := p.2) C pz I' (by omega) hm' fun l2 s14 I2 hl2 => ?_
      exact go _ ⟨fun k hk' => hk k (List.mem_cons_of_mem _ hk'), l2, _, s14, I2, by omega, rfl⟩
  · refine ite_f (decide_eq_false (by omega)) (h _ ?_)
    walk_at "ds"
    exact q
end
end HC
namespace HC
open PySem PySem.Spec PyProof.Rows L2
abbrev eyC (a : Addr) : EyC := ⟨a, eyJ1, eyJ2⟩
theorem eyF_none {m : Str} (h1 : (m == ("room" : Str)) = false) (h2 : (m == ("regulator" : Str)) = false) (h3 : (m == ("sight" : Str)) = false) (h4 : (m == ("steps" : Str)) = false) (h5 : (m == ("sets" : Str)) = false) : ∀ vr vg vs p q, (eyF vr vg vs p q).lookup m = none := fun vr vg vs p q => by
  unfold eyF
  rw [List.lookup_cons, h1, List.lookup_cons, h2, List.lookup_cons, h3, List.lookup_cons, h4, List.lookup_cons, h5]
  rfl
end HC
namespace HC
open PySem PySem.Spec PyProof.Rows L2
local macro_rules | `(tactic| walk_at "ds") => `(tactic| try simp only [endD, startD, startT, endLaw, startLaw, List.map_cons, List.map_nil, List.length_cons, List.length_nil, List.replicate, List.cons_append, List.nil_append, Nat.reduceSub, Nat.reduceAdd, sSeq, sRet, sIf, sNil, sAsg, sUnp, sExpr, sPar2, sPar3, xCons, xNil, xVal, xOwn, bTest, bNot, bAnd, bOr, wVar, wPeek, slot, wC, wOp2, wB, wM, wCons, wNil, wTup, wLst, wIf, wAnd, wOr, wNot, wNeg, wCall, wCallT, wSl, wPart, wNoPart, List.set, ex1, gT_t, gT_st, gT_pr, gC_c, gN_c, gNil_c, sRaise, wChain, sFrz, frz, wIsi, wTabIn, wTabAt, sAug, wipeD, En.lp, loopW_nil, d_WEATHERS, ds_WEATHERS, wDisp1, wNewT, wComp, iSeq, iRange, gList_l, sFor, Bool.false_eq_true, if_false, if_true,
  fAdd_i, fAdd_s, fAdd_l, fAdd_t, fAddL_l, fSub_i, fLt_i, fLe_i, fGt_i, fGe_i, fEq_i, fNe_i, fIs_b, fIsN_b, fIs_nn, fIs_in, fIs_ln, fIs_tn, fIsN_nn, fIsN_in, fIsN_ln, fIsN_tn, gMin_2, gMax_2, gLen_l, gLen_t, fIx_rm0, fIx_rm1, fIx_rm2, fIx_st0, fIx_st1, fIx_st2, fIx_rg0, fIx_rg1, fIx_rg2, fSl_rg, fEq_gap, fEq_stay, fEq_late, fEq_look, fEq_lean])
def sp_spoken_classes (x : Xc) : SpD := fun ds Q E => ∃ (a b c : D), ds = [a, b, c] ∧ (a.plain = true ∧ b.plain = true ∧ c.plain = true) ∧ (∀ r gs i, GivenF r gs → a = r.enc → b = .list (gs.map Rg.enc) → c = .int i → 0 ≤ i → i ≤ 1 → i = 1 ∧ ∀ g ∈ gs, ∀ g' ∈ gs, ∃ Z, Clo r g g' Z) ∧
  outE Q E (onFam x a b fun r gs => onNum x c 0 1 fun _ => .ok (.list [encNs (List.range gs.length)]))
theorem mo_spoken_classes (x : Xc) : MonoSp 3 (sp_spoken_classes x) := ⟨fun hq he ⟨a, b, c, e, p, h, q⟩ => ⟨a, b, c, e, p, h, by
  cases hr : onFam x a b fun r gs => onNum x c 0 1 fun _ => .ok (.list [encNs (List.range gs.length)]) with
  | ok d => rw [hr] at q; exact hq _ q
  | error c => rw [hr] at q; exact he _ q⟩, fun ⟨a, b, c, e, _⟩ => by rw [e]; rfl⟩
def t_spoken_classes (x : Xc) : TSD :=
  sSeq (sExpr (wCall (sp_check_family x) (wCons (wVar 0) (wCons (wVar 1) wNil))))
    (sSeq (sExpr (wCall (sp_check_sight x) (wCons (wVar 2) wNil)))
    (sSeq (sAsg 3 (xOwn (wLst wNil)))
    (sSeq (sGroup 3 6 7 4 (iEnumD (wVar 1)) (gT (gCons' (gN 4) (gCons' (gN 5) gNil'))) (bTest (wOp2 fIs (wCall sp_marks_apart (wCons (wVar 0) (wCons (wOp2 fIx (wPeek 1) (wOp2 fIx (wPeek 7) (wC (.int 0)))) (wCons (wVar 5) (wCons (wVar 2) (wCons (wC (.bool true)) wNil)))))) (wC .none))))
    (sFrz 3 (sRet (wVar 3))))))
section
variable {r : Rm} {gs : List Rg}
def scEnv (r : Rm) (gs : List Rg) (s4 s5 : Sl) : Env := [.val r.enc, .val (.list (gs.map Rg.enc)), .val (.int 1), .un, s4, s5, .un, .un]
def scAcc (n : Nat) : List (List D) := if n = 0 then [] else [(List.range n).map fun (k : Nat) => D.int (k : Int)]
theorem sc_grp (ok : r.Ok) (gk : ∀ g ∈ gs, g.Ok r.top) (hC : ∀ g ∈ gs, ∀ g' ∈ gs, ∃ Z, Clo r g g' Z) (l8 : gs.length ≤ 8) {fin : Env → Prop} (hf : ∀ s4 s5, fin ((scEnv r gs s4 s5).set 3 (.own (.list ((scAcc gs.length).map D.list))))) :
    ∀ (rest pre : List Rg) (s4 s5 : Sl), gs = pre ++ rest → grpL 3 6 7 4 (gT (gCons' (gN 4) (gCons' (gN 5) gNil'))) (bTest (wOp2 fIs (wCall sp_marks_apart (wCons (wVar 0) (wCons (wOp2 fIx (wPeek 1) (wOp2 fIx (wPeek 7) (wC (.int 0)))) (wCons (wVar 5) (wCons (wVar 2) (wCons (wC (.bool true)) wNil)))))) (wC .none))) fin (enumD pre.length (rest.map Rg.enc)) (scAcc pre.length) (scEnv r gs s4 s5)
  | [], pre, s4, s5, e => by
    rw [List.append_nil] at e
    subst e
    exact hf s4 s5
  | g :: rest, pre, s4, s5, e => by
    have hg : g ∈ gs := by rw [e]; simp
    have len : pre.length < gs.length := by rw [e, List.length_append, List.length_cons]; omega
    refine ⟨_, rfl, ⟨rfl, by show 6 < 8; decide, by show 7 < 8; decide⟩, ?_, .int (pre.length : Int), rfl, ?_, ?_, ?_⟩
    · intro m d h
      have : ∀ m : Nat, ([.val r.enc, .val (.list (gs.map Rg.enc)), .val (.int 1), .un, .val (.int (pre.length : Int)), .val g.enc, .un, .un] : Env)[m]? ≠ some (Sl.own d) := by
        intro m
        rcases m with _ | _ | _ | _ | _ | _ | _ | _ | m <;> simp
      exact this m h
    · unfold scAcc; split <;> simp
    · intro q hq
      unfold scAcc at hq
      split at hq
      · cases hq
      · rw [List.mem_singleton.mp hq]
        refine ⟨by rw [List.length_map, List.length_range]; omega, ?_⟩
        exact (sh_list (sh_map (f := fun (k : Nat) => D.int (k : Int)) (fun k => sh_int' 0 (k : Int)) _)).mono (by decide)
    · have nx := sc_grp ok gk hC l8 hf rest (pre ++ [g]) (.val (.int (pre.length : Int))) (.val g.enc) (by rw [e]; simp)
      rw [List.length_append, List.length_cons, List.length_nil] at nx
      cases pre with
      | nil => exact nx
      | cons g0 pre =>
        have hg0 : g0 ∈ gs := by rw [e]; simp
        obtain ⟨Z, C⟩ := hC g0 hg0 g hg
        have ea : scAcc (g0 :: pre).length = [(List.range (pre.length + 1)).map fun (k : Nat) => D.int (k : Int)] := by
          unfold scAcc
          rw [if_neg (by simp)]
          rfl
        have eb : scAcc ((g0 :: pre).length + (0 + 1)) = joinG (scAcc (g0 :: pre).length) [true] (.int ((g0 :: pre).length : Int)) := by
          rw [ea]
          unfold scAcc joinG
          rw [if_neg (by omega), if_pos rfl]
          show [(List.range (pre.length + 1 + 1)).map _] = _
          rw [List.range_succ, List.map_append]
          rfl
        rw [eb] at nx
        rw [ea] at nx ⊢
        show bTest _ _ _ _
        unfold scEnv
        walk_at "ds"
        refine ⟨.int 0, atI_of (k := 0) (by rw [List.getElem?_map, List.getElem?_range (by omega)]; rfl), ?_⟩
        refine ⟨g0.enc, atI_of (k := 0) (by rw [e]; rfl), ?_⟩
        refine ⟨r, g0, g, true, Z, rfl, ok, gk g0 hg0, gk g hg, C, ?_⟩
        simp only [fIs_nn]
        exact nx
end
theorem sem_spoken_classes (x : Xc) : ∀ ds Q E, sp_spoken_classes x ds Q E → t_spoken_classes x (endD Q E) (startD 8 ds) := by
  rintro _ Q E ⟨a, b, c, rfl, ⟨pa, pb, pc⟩, hC, q⟩
  refine seq_g fun nx h => ?_
  walk_at "ds"
  refine on_fam pa pb q fun r gs G ea eb q1 => h _ ?_
  clear h
  subst ea eb
  refine seq_g fun nx h => ?_
  walk_at "ds"
  unfold onNum at q1
  cases hi : isIntF c 0 1 with
  | false =>
    rw [hi, if_neg Bool.false_ne_true] at q1
    exact in_check_sight pc (by rw [hi, if_neg Bool.false_ne_true]; exact q1)
  | true =>
    rw [hi, if_pos rfl] at q1
    refine in_check_sight pc ?_
    rw [hi, if_pos rfl]
    refine h _ ?_
    clear h
    obtain ⟨i, rfl, i0, i1⟩ := isIntF_int hi
    obtain ⟨ei, hC2⟩ := hC r gs i G rfl rfl rfl i0 i1
    subst ei
    refine seq_g fun nx h => ?_
    walk_at "ds"
    refine h _ ?_
    clear h
    refine seq_g fun nx h => ?_
    refine ⟨rfl, ?_, ?_⟩
    · intro m d hh
      have : ∀ m : Nat, ([.val r.enc, .val (.list (gs.map Rg.enc)), .val (.int 1), .un, .un, .un, .un, .un] : Env)[m]? ≠ some (Sl.own d) := by
        intro m
        rcases m with _ | _ | _ | _ | _ | _ | _ | _ | m <;> simp
      exact this m hh
    · show grpL 3 6 7 4 _ _ _ (enumD 0 (gs.map Rg.enc)) [] (scEnv r gs .un .un)
      refine sc_grp G.ok G.gk hC2 G.l8 (fun s4 s5 => h _ ?_) gs [] .un .un rfl
      clear h
      unfold scEnv
      walk_at "ds"
      have l1 := G.l1
      have e : (scAcc gs.length).map D.list = [encNs (List.range gs.length)] := by
        unfold scAcc
        rw [if_neg (by omega)]
        rfl
      rw [e]
      exact q1
end HC
namespace HC
open PySem PySem.Spec PyProof.Rows L2
def M4 (a b c : Bool) (i j : Nat) : Bool :=
  match (if i = 2 then 0 else i), (if j = 2 then 0 else j) with
  | 0, 1 => a
  | 1, 0 => a
  | 0, 3 => b
  | 3, 0 => b
  | 1, 3 => c
  | 3, 1 => c
  | _, _ => true
def Tr (a b c : Bool) : Prop := (a = true → b = true → c = true) ∧ (a = true → c = true → b = true) ∧ (b = true → c = true → a = true)
instance (a b c : Bool) : Decidable (Tr a b c) := inferInstanceAs (Decidable (_ ∧ _ ∧ _))
section
variable {r : Rm} {g1 g2 g3 : Rg}
noncomputable def pn (r : Rm) (g1 g2 : Rg) : Bool := (partL r g1 g2 (first r, first r)).isNone
theorem pn_sym : pn r g1 g2 = pn r g2 g1 := by unfold pn; rw [part_sym]
theorem pn_self : pn r g1 g1 = true := by unfold pn; rw [part_self]; rfl
theorem alkD_iff {gs : List Rg} {i j : Nat} : alkD r gs i j = true ↔ Alk r gs (i, first r) (j, first r) := by
  unfold alkD
  exact @decide_eq_true_iff _ (Classical.propDecidable _)
theorem alkD_pn {gs : List Rg} {i j : Nat} : alkD r gs i j = pn r (rgAt gs i) (rgAt gs j) := by
  rw [Bool.eq_iff_iff, alkD_iff, alk_part]
  unfold pn
  rw [Option.isNone_iff_eq_none]
end
end HC
namespace HC
open PySem PySem.Spec PyProof.Rows L2
def nwR (lo : Int) : Rg := ⟨.lean, lo, lo + 1, 0⟩
def plR (lo : Int) : Rg := ⟨.gap, lo, lo + 1, 0⟩
section
variable {r : Rm} {lo : Int}
theorem nwR_ok (h0 : 0 ≤ lo) (h : lo + 1 ≤ r.top) : (nwR lo).Ok r.top := ⟨h0, by show lo < lo + 1; omega, h, fun h => (by cases h), fun h => (by cases h), fun _ => rfl⟩
theorem plR_ok (h0 : 0 ≤ lo) (h : lo + 1 ≤ r.top) : (plR lo).Ok r.top := ⟨h0, by show lo < lo + 1; omega, h, fun h => (by cases h), fun h => (by cases h), fun _ => rfl⟩
theorem tick_nw {s : Sta} (h : s.2.2 = 0) (w : Int) : tick r (nwR lo) s w = tick r (plR lo) s w := by
  unfold tick setSw nwR plR
  simp only
  rw [h]
  have e : min ((0 : Int) + 1) (lo + 1 - lo - 1) = 0 := by
    have : lo + 1 - lo - 1 = (0 : Int) := by omega
    rw [this]
    decide
  rw [e, Int.sub_zero]
  simp
def Mem0 (acc : Rows) : Prop := ∀ p ∈ acc, p.1.2.2 = 0
theorem visit1_nw {p : Sta × List Int} {acc : Rows} {w : Int} (hp : p.1.2.2 = 0) (h : Mem0 acc) : visit1 r (nwR lo) p acc w = visit1 r (plR lo) p acc w ∧ Mem0 (visit1 r (plR lo) p acc w) := by
  unfold visit1
  rw [tick_nw hp]
  refine ⟨rfl, ?_⟩
  split
  · exact h
  · intro q hq
    rcases List.mem_append.mp hq with hq | hq
    · exact h q hq
    · rw [List.mem_singleton.mp hq]; rfl
theorem bfs_nw : ∀ (n here : Nat) (acc : Rows), Mem0 acc → bfs r (nwR lo) n here acc = bfs r (plR lo) n here acc ∧ Mem0 (bfs r (plR lo) n here acc)
  | 0, _, acc, h => ⟨rfl, h⟩
  | n + 1, here, acc, h => by
    unfold bfs
    cases hp : acc[here]? with
    | none => exact ⟨rfl, h⟩
    | some p =>
      have p0 := h p (List.mem_of_getElem? hp)
      obtain ⟨e1, h1⟩ := visit1_nw (r := r) (lo := lo) (w := 1) p0 h
      obtain ⟨e2, h2⟩ := visit1_nw (r := r) (lo := lo) (w := 2) p0 h1
      obtain ⟨e3, h3⟩ := visit1_nw (r := r) (lo := lo) (w := 3) p0 h2
      have ev : visit r (nwR lo) p acc = visit r (plR lo) p acc := by
        unfold visit
        rw [e1, e2, e3]
      simp only
      rw [ev]
      exact bfs_nw n (here + 1) _ h3
theorem mem0_start : Mem0 [(first r, [])] := fun p hp => by rw [List.mem_singleton.mp hp]; rfl
theorem rows_nw : rowsL r (nwR lo) = rowsL r (plR lo) := (bfs_nw 300 0 _ mem0_start).1
theorem keys_nw : keysL r (nwR lo) = keysL r (plR lo) := by unfold keysL; rw [rows_nw]
theorem keys_m0 {s : Sta} (h : s ∈ keysL r (plR lo)) : s.2.2 = 0 := by
  obtain ⟨p, hp, rfl⟩ := List.mem_map.mp h
  exact (bfs_nw (r := r) (lo := lo) 300 0 _ mem0_start).2 p hp
def M0L (l : List (Sta × Int)) : Prop := ∀ p ∈ l, p.1.2.2 = 0
theorem turn_nw {k : Rk} {l : List (Sta × Int)} (h : M0L l) : turnL r (nwR lo) k l = turnL r (plR lo) k l ∧ M0L (turnL r (plR lo) k l) := by
  unfold turnL
  constructor
  · induction l with
    | nil => rfl
    | cons p l ih =>
      rw [List.flatMap_cons, List.flatMap_cons, ih fun q hq => h q (List.mem_cons_of_mem _ hq)]
      congr 1
      refine List.map_congr_left fun w _ => ?_
      rw [tick_nw (h p List.mem_cons_self)]
  · intro q hq
    obtain ⟨p, _, hq⟩ := List.mem_flatMap.mp hq
    obtain ⟨w, _, rfl⟩ := List.mem_map.mp hq
    rfl
theorem hput_m0 {l : List (Sta × Int)} {s : Sta} {b : Int} (h : M0L l) (hs : s.2.2 = 0) : M0L (hput l s b) := by
  unfold hput
  split
  · intro q hq
    rcases List.mem_append.mp hq with hq | hq
    · exact h q hq
    · rw [List.mem_singleton.mp hq]; exact hs
  · split
    · intro q hq
      obtain ⟨p, hp, rfl⟩ := List.mem_map.mp hq
      split
      · exact h p hp
      · exact h p hp
    · exact h
theorem hfold_m0 : ∀ (ps l : List (Sta × Int)), M0L ps → M0L l → M0L (ps.foldl (fun l p => hput l p.1 p.2) l)
  | [], l, _, h => h
  | p :: ps, l, hp, h => hfold_m0 ps _ (fun q hq => hp q (List.mem_cons_of_mem _ hq)) (hput_m0 h (hp p List.mem_cons_self))
theorem ht_nw {k : Rk} : ∀ t : Nat, htL r (nwR lo) k t = htL r (plR lo) k t ∧ M0L (htL r (plR lo) k t)
  | 0 => ⟨rfl, fun p hp => by rw [List.mem_singleton.mp hp]; rfl⟩
  | t + 1 => by
    obtain ⟨e, h⟩ := ht_nw (k := k) t
    obtain ⟨e1, h1⟩ := turn_nw (r := r) (lo := lo) (k := k) h
    unfold htL
    rw [e, e1]
    exact ⟨rfl, hfold_m0 _ _ h1 (fun q hq => by cases hq)⟩
theorem best_nw {k : Rk} : bestL r (nwR lo) k = bestL r (plR lo) k := by
  unfold bestL
  rw [keys_nw, (ht_nw (k := k) _).1]
  have e : (fun t s => hget (htL r (nwR lo) k t) s) = fun t s => hget (htL r (plR lo) k t) s := funext fun t => funext fun s => by rw [(ht_nw (k := k) t).1]
  rw [e]
theorem aft_nw : ∀ (ws : List Int) (s : Sta), s.2.2 = 0 → (aft (st2 r (nwR lo) (plR lo)) (s, s) ws).1 = (aft (st2 r (nwR lo) (plR lo)) (s, s) ws).2
  | [], s, _ => rfl
  | w :: ws, s, h => by
    show (aft (st2 r (nwR lo) (plR lo)) (tick r (nwR lo) s w, tick r (plR lo) s w) ws).1 = _
    rw [tick_nw h]
    have e : aft (st2 r (nwR lo) (plR lo)) (s, s) (w :: ws) = aft (st2 r (nwR lo) (plR lo)) (tick r (plR lo) s w, tick r (plR lo) s w) ws := by
      show aft (st2 r (nwR lo) (plR lo)) (tick r (nwR lo) s w, tick r (plR lo) s w) ws = _
      rw [tick_nw h]
    rw [e]
    exact aft_nw ws _ rfl
theorem part_nw : partL r (nwR lo) (plR lo) (first r, first r) = none := by
  refine partOf_eq (o := none) fun ws _ _ => ?_
  unfold bad2
  rw [aft_nw ws (first r) rfl]
  simp
theorem pn_nw : pn r (nwR lo) (plR lo) = true := by unfold pn; rw [part_nw]; rfl
theorem cls_nw : clsL r [nwR lo, plR lo] = [[0, 1]] := by
  have e : ∀ i < 2, ∀ j < 2, alkD r [nwR lo, plR lo] i j = true := by
    intro i hi j hj
    rw [alkD_pn]
    have hi' : i = 0 ∨ i = 1 := by omega
    have hj' : j = 0 ∨ j = 1 := by omega
    rcases hi' with rfl | rfl <;> rcases hj' with rfl | rfl
    · exact pn_self
    · exact pn_nw
    · exact pn_sym.trans pn_nw
    · exact pn_self
  unfold clsL
  have e00 := e 0 (by decide) 0 (by decide)
  have e01 := e 0 (by decide) 1 (by decide)
  have e10 := e 1 (by decide) 0 (by decide)
  have e11 := e 1 (by decide) 1 (by decide)
  simp [List.range_succ, e00, e01, e10, e11]
  refine ⟨0, ?_, e00, e10⟩
  simp [List.filter_cons, List.range_succ, e01]
theorem run_nw : ∀ (ws : List Int) (s : Sta), s.2.2 = 0 → runFrom r (nwR lo) s ws = runFrom r (plR lo) s ws
  | [], s, _ => rfl
  | w :: ws, s, h => by
    unfold runFrom
    rw [tick_nw h, run_nw ws _ rfl]
theorem clo_gen {g1 g2 : Rg} (ok : r.Ok) (gk : (plR lo).Ok r.top) (h1 : g1 = nwR lo ∨ g1 = plR lo) (h2 : g2 = nwR lo ∨ g2 = plR lo) : Clo r g1 g2 ((keysL r (plR lo)).map fun s => [s]) := by
  have k : ∀ g, (g = nwR lo ∨ g = plR lo) → keysL r g = keysL r (plR lo) := fun g hg => by
    rcases hg with rfl | rfl
    · exact keys_nw
    · rfl
  have tk : ∀ g, (g = nwR lo ∨ g = plR lo) → ∀ ss ∈ (keysL r (plR lo)).map (fun s => [s]), tks r g ss = tks r (plR lo) ss := fun g hg ss hss => by
    obtain ⟨s, hs, rfl⟩ := List.mem_map.mp hss
    rcases hg with rfl | rfl
    · unfold tks
      simp only [List.map_cons, List.map_nil, tick_nw (keys_m0 hs)]
    · rfl
  refine ⟨List.mem_map.mpr ⟨first r, first_key ok gk, rfl⟩, fun ss hss => ?_, fun ss hss s hs => ?_, fun ss hss s hs => ?_, fun ss hss => by rw [tk g2 h2 ss hss, tk g1 h1 ss hss], fun ss hss p hp => ?_, fun ss hss => ?_, ?_⟩
  · obtain ⟨s, hs, rfl⟩ := List.mem_map.mp hss
    simp
  · obtain ⟨s', hs', rfl⟩ := List.mem_map.mp hss
    rw [List.mem_singleton.mp hs, k g1 h1]
    exact hs'
  · obtain ⟨s', hs', rfl⟩ := List.mem_map.mp hss
    rw [List.mem_singleton.mp hs, k g2 h2]
    exact hs'
  · rw [tk g1 h1 ss hss] at hp
    obtain ⟨s', hs', rfl⟩ := List.mem_map.mp hss
    have hin : ∀ s ∈ [s'], s ∈ keysL r (plR lo) := fun s hs => by rw [List.mem_singleton.mp hs]; exact hs'
    obtain ⟨t, ht, et⟩ := kv_of hp
    have tkey := tick_key ok gk hin ht
    refine List.mem_map.mpr ⟨t, tkey, ?_⟩
    refine ascS_of (List.pairwise_singleton _ _) fun u => ?_
    have hl : lkp (kvZ r (plR lo) [s']) p.1 = some p.2 := lkp_of (grpM_nd _ _) hp
    rw [grpM_lkp] at hl
    split at hl
    · cases hl
    · injection hl with hl
      rw [← hl]
      constructor
      · intro hu
        rw [List.mem_singleton.mp hu]
        exact List.mem_filter.mpr ⟨ht, decide_eq_true et⟩
      · intro hu
        obtain ⟨hu, eu⟩ := List.mem_filter.mp hu
        have eu := of_decide_eq_true eu
        have m1 := keys_m0 tkey
        have m2 := keys_m0 (tick_key ok gk hin hu)
        rw [← et] at eu
        obtain ⟨u1, u2, u3⟩ := u
        obtain ⟨t1, t2, t3⟩ := t
        simp only [Prod.mk.injEq] at eu
        simp only at m1 m2
        rw [List.mem_singleton, eu.2, eu.1, m1, m2]
  · obtain ⟨s', hs', rfl⟩ := List.mem_map.mp hss
    show 3 < 63
    decide
  · rw [List.length_map]
    have := keys_len ok gk
    omega
end
end HC
namespace HC
open PySem PySem.Spec PyProof.Rows L2
section
variable {r : Rm} {g : Rg}
theorem run_0 {s : Sta} {ws : List Int} : (runFrom r g s ws)[0]? = some s := by cases ws <;> rfl
theorem look_at : ∀ (ws : List Int) (s : Sta) (k : Nat), g.kd = .look → g.tk = 3 → ((k : Int) + s.2.2) % 3 = 0 → 0 ≤ s.2.2 → s.2.2 ≤ 2 → ∀ (i : Nat) (a b : Sta), (runFrom r g s ws)[i]? = some a → (runFrom r g s ws)[i + 1]? = some b → ¬ (((k : Int) + i) % 3 = 0) → b.2.1 = a.2.1
  | [], s, k, _, _, _, _, _, i, a, b, _, h2, _ => by
    have : ([s] : List Sta)[i + 1]? = none := by simp
    rw [show runFrom r g s [] = [s] from rfl, this] at h2
    cases h2
  | w :: ws, s, k, hk, ht, hm, m0, m2, i, a, b, h1, h2, hne => by
    rw [show runFrom r g s (w :: ws) = s :: runFrom r g (tick r g s w) ws from rfl] at h1 h2
    have et : (tick r g s w).2 = if 0 < s.2.2 then (s.2.1, s.2.2 - 1) else (decid (warm r s.1 s.2.1 w) g.lo g.hi s.2.1, 2) := by
      unfold tick setSw
      rw [hk, ht]
      rfl
    cases i with
    | zero =>
      cases h1
      rw [List.getElem?_cons_succ, run_0] at h2
      cases h2
      have pos : 0 < s.2.2 := by
        have : ¬ s.2.2 = 0 := fun z => hne (by rw [z] at hm; simpa using hm)
        omega
      rw [et, if_pos pos]
    | succ i =>
      rw [List.getElem?_cons_succ] at h1 h2
      have hnx : (((k + 1 : Nat) : Int) + (tick r g s w).2.2) % 3 = 0 ∧ 0 ≤ (tick r g s w).2.2 ∧ (tick r g s w).2.2 ≤ 2 := by
        rw [et]
        split
        · refine ⟨?_, ?_, ?_⟩
          · show (((k + 1 : Nat) : Int) + (s.2.2 - 1)) % 3 = 0
            omega
          · show 0 ≤ s.2.2 - 1
            omega
          · show s.2.2 - 1 ≤ 2
            omega
        · refine ⟨?_, by show (0 : Int) ≤ 2; decide, by show (2 : Int) ≤ 2; decide⟩
          show (((k + 1 : Nat) : Int) + 2) % 3 = 0
          omega
      exact look_at ws (tick r g s w) (k + 1) hk ht hnx.1 hnx.2.1 hnx.2.2 i a b h1 h2 (by
        intro z
        apply hne
        omega)
theorem stay_keep : ∀ (ws : List Int) (s : Sta), g.kd = .stay → ∀ (i : Nat) (a b : Sta), (i : Int) < s.2.2 → (runFrom r g s ws)[i]? = some a → (runFrom r g s ws)[i + 1]? = some b → b.2.1 = a.2.1
  | [], s, _, i, a, b, _, _, h2 => by
    have : ([s] : List Sta)[i + 1]? = none := by simp
    rw [show runFrom r g s [] = [s] from rfl, this] at h2
    cases h2
  | w :: ws, s, hk, i, a, b, hi, h1, h2 => by
    rw [show runFrom r g s (w :: ws) = s :: runFrom r g (tick r g s w) ws from rfl] at h1 h2
    have pos : 0 < s.2.2 := by omega
    have et : (tick r g s w).2 = (s.2.1, s.2.2 - 1) := by
      unfold tick setSw
      rw [hk]
      simp only
      rw [if_pos pos]
    cases i with
    | zero =>
      cases h1
      rw [List.getElem?_cons_succ, run_0] at h2
      cases h2
      rw [et]
    | succ i =>
      rw [List.getElem?_cons_succ] at h1 h2
      exact stay_keep ws (tick r g s w) hk i a b (by rw [et]; show (i : Int) < s.2.2 - 1; omega) h1 h2
theorem stay_click {s : Sta} {w : Int} (hk : g.kd = .stay) (ht : g.tk = 3) (h : (tick r g s w).2.1 ≠ s.2.1) : (tick r g s w).2.2 = 2 := by
  have et : (tick r g s w).2 = if 0 < s.2.2 then (s.2.1, s.2.2 - 1) else (decid (warm r s.1 s.2.1 w) g.lo g.hi s.2.1, if decid (warm r s.1 s.2.1 w) g.lo g.hi s.2.1 ≠ s.2.1 then 2 else 0) := by
    unfold tick setSw
    rw [hk, ht]
    rfl
  rw [et] at h ⊢
  split at h
  · exact absurd rfl h
  · rename_i hp
    rw [if_neg hp]
    show (if _ then _ else _) = _
    rw [if_pos h]
theorem stay_far : ∀ (ws : List Int) (s : Sta), g.kd = .stay → g.tk = 3 → ∀ (i j : Nat) (a b c d : Sta), (runFrom r g s ws)[i]? = some a → (runFrom r g s ws)[i + 1]? = some b → (runFrom r g s ws)[j]? = some c → (runFrom r g s ws)[j + 1]? = some d → b.2.1 ≠ a.2.1 → d.2.1 ≠ c.2.1 → i < j → i + 3 ≤ j
  | [], s, _, _, i, j, a, b, c, d, _, h2, _, _, _, _, _ => by
    have : ([s] : List Sta)[i + 1]? = none := by simp
    rw [show runFrom r g s [] = [s] from rfl, this] at h2
    cases h2
  | w :: ws, s, hk, ht, i, j, a, b, c, d, h1, h2, h3, h4, n1, n2, hij => by
    rw [show runFrom r g s (w :: ws) = s :: runFrom r g (tick r g s w) ws from rfl] at h1 h2 h3 h4
    cases j with
    | zero => omega
    | succ j =>
      rw [List.getElem?_cons_succ] at h3 h4
      cases i with
      | succ i =>
        rw [List.getElem?_cons_succ] at h1 h2
        have := stay_far ws (tick r g s w) hk ht i j a b c d h1 h2 h3 h4 n1 n2 (by omega)
        omega
      | zero =>
        cases h1
        rw [List.getElem?_cons_succ, run_0] at h2
        cases h2
        have m := stay_click hk ht n1
        by_cases hj : 2 ≤ j
        · omega
        · exact absurd (stay_keep ws (tick r g s w) hk j c d (by rw [m]; omega) h3 h4) n2
end
def upR (r : Rm) : Rm := ⟨r.top + 1, r.beg + 1, r.rise⟩
def wideR (r : Rm) : Rm := ⟨r.top + 1, r.beg, r.rise⟩
def upG (g : Rg) : Rg := ⟨g.kd, g.lo + 1, g.hi + 1, g.tk⟩
def upS (s : Sta) : Sta := (s.1 + 1, s.2.1, s.2.2)
def rawH' (r : Rm) (s : Sta) (w : Int) : Int := s.1 - w + if s.2.1 = 1 then r.rise else 0
section
variable {r : Rm} {g : Rg}
theorem decid_up (a lo hi s : Int) : decid (a + 1) (lo + 1) (hi + 1) s = decid a lo hi s := by
  unfold decid
  simp only [Int.add_le_add_iff_right]
theorem setSw_up (b h sw m : Int) : setSw (upG g) (b + 1) (h + 1) sw m = setSw g b h sw m := by
  unfold setSw upG
  cases g.kd with
  | gap => simp only [decid_up]
  | late => simp only [decid_up]
  | lean =>
    simp only
    rw [show g.hi + 1 - m = (g.hi - m) + 1 by omega, decid_up, show g.hi + 1 - (g.lo + 1) - 1 = g.hi - g.lo - 1 by omega]
  | stay => simp only [decid_up]
  | look => simp only [decid_up]
theorem warm_in {s : Sta} {w : Int} (h0 : 0 ≤ rawH' r s w) (h1 : rawH' r s w ≤ r.top) : warm r s.1 s.2.1 w = rawH' r s w := by
  unfold warm
  show min r.top (max 0 (rawH' r s w)) = _
  omega
theorem tick_up {s : Sta} {w : Int} (h0 : 0 ≤ rawH' r s w) (h1 : rawH' r s w ≤ r.top) : tick (upR r) (upG g) (upS s) w = upS (tick r g s w) := by
  have e1 := warm_in h0 h1
  have e2 : warm (upR r) (upS s).1 (upS s).2.1 w = warm r s.1 s.2.1 w + 1 := by
    rw [e1]
    have hr : rawH' (upR r) (upS s) w = rawH' r s w + 1 := by
      show s.1 + 1 - w + (if s.2.1 = 1 then r.rise else 0) = s.1 - w + (if s.2.1 = 1 then r.rise else 0) + 1
      omega
    rw [warm_in (r := upR r) (s := upS s) (by rw [hr]; omega) (by rw [hr]; show _ ≤ r.top + 1; omega), hr]
  unfold tick
  simp only
  rw [e2]
  show (_, setSw (upG g) (s.1 + 1) (warm r s.1 s.2.1 w + 1) s.2.1 s.2.2) = upS (_, setSw g s.1 (warm r s.1 s.2.1 w) s.2.1 s.2.2)
  rw [setSw_up]
  rfl
theorem tick_wide {s : Sta} {w : Int} (h0 : 0 ≤ rawH' r s w) (h1 : rawH' r s w ≤ r.top) : tick (wideR r) g s w = tick r g s w := by
  have e1 := warm_in h0 h1
  have e2 : warm (wideR r) s.1 s.2.1 w = rawH' r s w := warm_in (r := wideR r) (s := s) h0 (by show _ ≤ r.top + 1; exact Int.le_trans h1 (by omega))
  unfold tick
  simp only
  rw [e1, e2]
def FitsB (r : Rm) (g : Rg) : Sta → List Int → Prop
  | _, [] => True
  | s, w :: ws => (0 ≤ rawH' r s w ∧ rawH' r s w ≤ r.top) ∧ FitsB r g (tick r g s w) ws
theorem run_up : ∀ (ws : List Int) (s : Sta), FitsB r g s ws → runFrom (upR r) (upG g) (upS s) ws = (runFrom r g s ws).map upS
  | [], s, _ => rfl
  | w :: ws, s, ⟨h, h'⟩ => by
    show upS s :: runFrom (upR r) (upG g) (tick (upR r) (upG g) (upS s) w) ws = upS s :: (runFrom r g (tick r g s w) ws).map upS
    rw [tick_up h.1 h.2, run_up ws _ h']
theorem run_wide : ∀ (ws : List Int) (s : Sta), FitsB r g s ws → runFrom (wideR r) g s ws = runFrom r g s ws
  | [], s, _ => rfl
  | w :: ws, s, ⟨h, h'⟩ => by
    show s :: runFrom (wideR r) g (tick (wideR r) g s w) ws = s :: runFrom r g (tick r g s w) ws
    rw [tick_wide h.1 h.2, run_wide ws _ h']
theorem run_take : ∀ (ws : List Int) (s : Sta) (n : Nat), n ≤ ws.length → runFrom r g s (ws.take n) = (runFrom r g s ws).take (n + 1)
  | [], s, n, h => by
    have : n = 0 := by simpa using h
    subst this
    rfl
  | w :: ws, s, 0, _ => rfl
  | w :: ws, s, n + 1, h => by
    show s :: runFrom r g (tick r g s w) (ws.take n) = s :: (runFrom r g (tick r g s w) ws).take (n + 1)
    rw [run_take ws _ n (by simpa using h)]
theorem fits_snoc {w : Int} : ∀ (ws : List Int) (s : Sta) (t : Sta), FitsB r g s ws → (runFrom r g s ws)[ws.length]? = some t → 0 ≤ rawH' r t w → rawH' r t w ≤ r.top → FitsB r g s (ws ++ [w])
  | [], s, t, _, ht, h0, h1 => by
    cases ht
    exact ⟨⟨h0, h1⟩, trivial⟩
  | v :: ws, s, t, ⟨h, h'⟩, ht, h0, h1 => ⟨h, fits_snoc ws _ t h' (by
      rw [show runFrom r g s (v :: ws) = s :: runFrom r g (tick r g s v) ws from rfl, List.length_cons, List.getElem?_cons_succ] at ht
      exact ht) h0 h1⟩
end
end HC
namespace HC
open PySem PySem.Spec PyProof.Rows L2
local macro_rules | `(tactic| walk_at "ds") => `(tactic| try simp only [endD, startD, startT, endLaw, startLaw, List.map_cons, List.map_nil, List.length_cons, List.length_nil, List.replicate, List.cons_append, List.nil_append, Nat.reduceSub, Nat.reduceAdd, sSeq, sRet, sIf, sNil, sAsg, sUnp, sExpr, sPar2, sPar3, xCons, xNil, xVal, xOwn, bTest, bNot, bAnd, bOr, wVar, wPeek, slot, wC, wOp2, wB, wM, wCons, wNil, wTup, wLst, wIf, wAnd, wOr, wNot, wNeg, wCall, wCallT, wSl, wPart, wNoPart, List.set, ex1, gT_t, gT_st, gT_pr, gC_c, gN_c, gNil_c, sRaise, wChain, sFrz, frz, wIsi, wTabIn, wTabAt, sAug, wipeD, En.lp, loopW_nil, d_WEATHERS, ds_WEATHERS, wDisp1, wNewT, wComp, iSeq, iRange, gList_l, sFor, Bool.false_eq_true, if_false, if_true,
  fAdd_i, fAdd_s, fAdd_l, fAdd_t, fAddL_l, fSub_i, fLt_i, fLe_i, fGt_i, fGe_i, fEq_i, fNe_i, fIs_b, fIsN_b, fIs_nn, fIs_in, fIs_ln, fIs_tn, fIsN_nn, fIsN_in, fIsN_ln, fIsN_tn, gMin_2, gMax_2, gLen_l, gLen_t, fIx_rm0, fIx_rm1, fIx_rm2, fIx_st0, fIx_st1, fIx_st2, fIx_rg0, fIx_rg1, fIx_rg2, fSl_rg, fEq_gap, fEq_stay, fEq_late, fEq_look, fEq_lean])
def sBrk : TSD := fun e r => e.bk r
theorem ds_brk {X : Cx} {C : Ct} {W : XW} {pos : Pos} : DS X C W (.Break pos) sBrk := ⟨ps_break.imp fun De σ H ⟨M, r, e, S, f, q⟩ => f.bk M r σ H Stp.refl S q, ⟨fun h q => h.bk _ q⟩⟩
def sp__law_narrow (x : Xc) : SpD := spOf (fun a : Rm × Rg × List Int => [a.1.enc, a.2.1.enc, encIs a.2.2]) (fun a => a.1.Ok ∧ a.2.1.Ok a.1.top ∧ a.2.2.length ≤ 60 ∧ Dg a.2.2) (fun _ => .bool true)
theorem mo__law_narrow (x : Xc) : MonoSp 3 (sp__law_narrow x) := mo_spOf fun _ => rfl
def t__law_narrow (x : Xc) : TSD :=
  sSeq (sAsg 3 (xVal (wTup (wCons (wC (.str "lean")) (wCons (wOp2 fIx (wPeek 1) (wC (.int 1))) (wCons (wOp2 fAdd (wOp2 fIx (wPeek 1) (wC (.int 1))) (wC (.int 1))) wNil))))))
    (sSeq (sAsg 4 (xVal (wTup (wCons (wC (.str "gap")) (wCons (wOp2 fIx (wPeek 1) (wC (.int 1))) (wCons (wOp2 fAdd (wOp2 fIx (wPeek 1) (wC (.int 1))) (wC (.int 1))) wNil))))))
    (sSeq (sIf (bOr (bTest (wOp2 fIsN (wCall (sp_same x) (wCons (wVar 0) (wCons (wVar 3) (wCons (wVar 4) wNil)))) (wC (.bool true)))) (bTest (wOp2 fNe (wCall (sp_run x) (wCons (wVar 0) (wCons (wVar 3) (wCons (wVar 2) wNil)))) (wCall (sp_run x) (wCons (wVar 0) (wCons (wVar 4) (wCons (wVar 2) wNil))))))) (sRet (wC (.bool false))) sNil)
    (sSeq (sIf (bOr (bTest (wOp2 fNe (wCall (sp_greatest_share x) (wCons (wVar 0) (wCons (wVar 3) wNil))) (wCall (sp_greatest_share x) (wCons (wVar 0) (wCons (wVar 4) wNil))))) (bTest (wOp2 fNe (wCall (sp_click_share x) (wCons (wVar 0) (wCons (wVar 3) wNil))) (wCall (sp_click_share x) (wCons (wVar 0) (wCons (wVar 4) wNil)))))) (sRet (wC (.bool false))) sNil)
    (sSeq (sIf (bOr (bTest (wOp2 fNe (wCall (sp_classes x) (wCons (wVar 0) (wCons (wLst (wCons (wVar 3) (wCons (wVar 4) wNil))) wNil))) (wLst (wCons (wLst (wCons (wC (.int 0)) (wCons (wC (.int 1)) wNil))) wNil)))) (bTest (wOp2 fNe (wCall (sp_spoken_classes x) (wCons (wVar 0) (wCons (wLst (wCons (wVar 3) (wCons (wVar 4) wNil))) (wCons (wC (.int 1)) wNil)))) (wLst (wCons (wLst (wCons (wC (.int 0)) (wCons (wC (.int 1)) wNil))) wNil))))) (sRet (wC (.bool false))) sNil)
    (sSeq (sAsg 5 (xVal (wTup (wCons (wC (.str "look")) (wCons (wOp2 fIx (wPeek 1) (wC (.int 1))) (wCons (wOp2 fIx (wPeek 1) (wC (.int 2))) (wCons (wC (.int 3)) wNil)))))))
    (sSeq (sAsg 6 (xVal (wOp2 fAdd (wLst (wCons (wC (.int 0)) wNil)) (wCall (sp_run x) (wCons (wVar 0) (wCons (wVar 5) (wCons (wVar 2) wNil)))))))
    (sSeq (sFor (iRange (wCons (wB gLen (wCons (wPeek 2) wNil)) wNil)) (gN 7) (sIf (bAnd (bTest (wOp2 fNe (wOp2 fMod (wPeek 7) (wC (.int 3))) (wC (.int 0)))) (bTest (wOp2 fNe (wOp2 fIx (wPeek 6) (wOp2 fAdd (wPeek 7) (wC (.int 1)))) (wOp2 fIx (wPeek 6) (wPeek 7))))) (sRet (wC (.bool false))) sNil))
    (sSeq (sAsg 8 (xVal (wTup (wCons (wC (.str "stay")) (wCons (wOp2 fIx (wPeek 1) (wC (.int 1))) (wCons (wOp2 fIx (wPeek 1) (wC (.int 2))) (wCons (wC (.int 3)) wNil)))))))
    (sSeq (sAsg 6 (xVal (wOp2 fAdd (wLst (wCons (wC (.int 0)) wNil)) (wCall (sp_run x) (wCons (wVar 0) (wCons (wVar 8) (wCons (wVar 2) wNil)))))))
    (sSeq (sAsg 9 (xVal (wComp [7] (iRange (wCons (wB gLen (wCons (wPeek 2) wNil)) wNil)) (gN 7) (bTest (wOp2 fNe (wOp2 fIx (wPeek 6) (wOp2 fAdd (wPeek 7) (wC (.int 1)))) (wOp2 fIx (wPeek 6) (wPeek 7)))) (wVar 7))))
    (sRet (wOp2 fEq (wComp [7] (iRange (wCons (wC (.int 1)) (wCons (wB gLen (wCons (wPeek 9) wNil)) wNil))) (gN 7) (bTest (wOp2 fLt (wOp2 fSub (wOp2 fIx (wPeek 9) (wPeek 7)) (wOp2 fIx (wPeek 9) (wOp2 fSub (wPeek 7) (wC (.int 1))))) (wC (.int 3)))) (wVar 7)) (wLst wNil)))))))))))))
def t_law (x : Xc) : TSD :=
  sSeq (sAsg 2 (xVal (wCallT 1 sp__law_room wNil)))
    (sSeq (sIf (bTest (wOp2 fEq (wOp2 fIx (wPeek 2) (wC (.int 0))) (wC (.int 10)))) (sAsg 2 (xVal (wTup (wCons (wC (.int 9)) (wCons (wB gMin (wCons (wC (.int 9)) (wCons (wOp2 fIx (wPeek 2) (wC (.int 1))) wNil))) (wCons (wOp2 fIx (wPeek 2) (wC (.int 2))) wNil)))))) sNil)
    (sSeq (sPar2 3 4 (xCons (xVal (wCallT 1 sp__law_regulator (wCons (wVar 2) wNil))) (xCons (xVal (wCallT 1 sp__law_row (wCons (wC (.int 30)) wNil))) xNil)))
    (sSeq (sAsg 5 (xVal (wTup (wCons (wOp2 fAdd (wOp2 fIx (wPeek 2) (wC (.int 0))) (wC (.int 1))) (wCons (wOp2 fAdd (wOp2 fIx (wPeek 2) (wC (.int 1))) (wC (.int 1))) (wCons (wOp2 fIx (wPeek 2) (wC (.int 2))) wNil))))))
    (sSeq (sAsg 6 (xVal (wOp2 fAdd (wTup (wCons (wOp2 fIx (wPeek 3) (wC (.int 0))) (wCons (wOp2 fAdd (wOp2 fIx (wPeek 3) (wC (.int 1))) (wC (.int 1))) (wCons (wOp2 fAdd (wOp2 fIx (wPeek 3) (wC (.int 2))) (wC (.int 1))) wNil)))) (wSl (wPeek 3) (wPart (wC (.int 3))) wNoPart))))
    (sSeq (sAsg 7 (xVal (wCall (sp_states_along x) (wCons (wVar 2) (wCons (wVar 3) (wCons (wVar 4) wNil))))))
    (sSeq (sAsg 8 (xVal (wC (.int 0))))
    (sSeq (sWhile (bTest (wOp2 fLt (wPeek 8) (wB gLen (wCons (wPeek 4) wNil)))) (sSeq (sAsg 9 (xVal (wOp2 fAdd (wOp2 fSub (wOp2 fIx (wOp2 fIx (wPeek 7) (wPeek 8)) (wC (.int 0))) (wOp2 fIx (wPeek 4) (wPeek 8))) (wIf (bTest (wOp2 fEq (wOp2 fIx (wOp2 fIx (wPeek 7) (wPeek 8)) (wC (.int 1))) (wC (.int 1)))) (wOp2 fIx (wPeek 2) (wC (.int 2))) (wC (.int 0))))))
    (sSeq (sIf (bNot (bTest (wChain fLe fLe (wC (.int 0)) (wPeek 9) (wOp2 fIx (wPeek 2) (wC (.int 0)))))) sBrk sNil)
    (sAsg 8 (xVal (wOp2 fAdd (wPeek 8) (wC (.int 1))))))))
    (sSeq (sAsg 10 (xVal (wComp [9, 12, 13] (iSeq (wSl (wPeek 7) wNoPart (wPart (wOp2 fAdd (wPeek 8) (wC (.int 1)))))) (gT (gCons' (gN 9) (gCons' (gN 12) (gCons' (gN 13) gNil')))) bYes (wTup (wCons (wOp2 fAdd (wPeek 9) (wC (.int 1))) (wCons (wVar 12) (wCons (wVar 13) wNil)))))))
    (sSeq (sIf (bOr (bTest (wOp2 fNe (wCall (sp_states_along x) (wCons (wVar 5) (wCons (wVar 6) (wCons (wSl (wPeek 4) wNoPart (wPart (wPeek 8))) wNil)))) (wPeek 10))) (bTest (wOp2 fNe (wCall (sp_run x) (wCons (wVar 5) (wCons (wVar 6) (wCons (wSl (wPeek 4) wNoPart (wPart (wPeek 8))) wNil)))) (wCall (sp_run x) (wCons (wVar 2) (wCons (wVar 3) (wCons (wSl (wPeek 4) wNoPart (wPart (wPeek 8))) wNil))))))) (sRet (wC (.bool false))) sNil)
    (sSeq (sAsg 11 (xVal (wTup (wCons (wOp2 fAdd (wOp2 fIx (wPeek 2) (wC (.int 0))) (wC (.int 1))) (wCons (wOp2 fIx (wPeek 2) (wC (.int 1))) (wCons (wOp2 fIx (wPeek 2) (wC (.int 2))) wNil))))))
    (sSeq (sIf (bTest (wOp2 fNe (wCall (sp_states_along x) (wCons (wVar 11) (wCons (wVar 3) (wCons (wSl (wPeek 4) wNoPart (wPart (wPeek 8))) wNil)))) (wSl (wPeek 7) wNoPart (wPart (wOp2 fAdd (wPeek 8) (wC (.int 1))))))) (sRet (wC (.bool false))) sNil)
    (sRet (wCall (sp__law_narrow x) (wCons (wVar 2) (wCons (wVar 3) (wCons (wVar 4) wNil))))))))))))))))
section
variable {x : Xc} {r : Rm} {g a b : Rg} {Q : D → Prop} {E : Addr → Prop}
theorem at_same2 (ok : r.Ok) (ka : a.Ok r.top) (kb : b.Ok r.top) (q : Q (.bool (partL r a b (first r, first r)).isNone)) : sp_same x [r.enc, a.enc, b.enc] Q E :=
  spEx_ok (a := (r.enc, a.enc, b.enc)) ⟨pl_rm, pl_rg, pl_rg⟩ (by unfold sameEx; exact two_at ok ka kb) q
theorem at_great (ok : r.Ok) (gk : g.Ok r.top) (q : Q (frD (bestL r g .on))) : sp_greatest_share x [r.enc, g.enc] Q E :=
  spEx_ok (a := (r.enc, g.enc)) ⟨pl_rm, pl_rg⟩ (by
    show onRg x r.enc g.enc _ = _
    rw [rg_at ok gk]) q
theorem at_clickS (ok : r.Ok) (gk : g.Ok r.top) (q : Q (frD (bestL r g .clicks))) : sp_click_share x [r.enc, g.enc] Q E :=
  spEx_ok (a := (r.enc, g.enc)) ⟨pl_rm, pl_rg⟩ (by
    show onRg x r.enc g.enc _ = _
    rw [rg_at ok gk]) q
theorem at_cls {gs : List Rg} (G : GivenF r gs) (q : Q (encGrps (clsL r gs))) : sp_classes x [r.enc, .list (gs.map Rg.enc)] Q E :=
  spEx_ok (a := ((r.enc, D.list (gs.map Rg.enc)) : D × D)) ⟨pl_rm, pl_fam gs⟩ (by
    show onFam x r.enc (D.list (gs.map Rg.enc)) _ = _
    rw [fam_at G]) q
theorem at_spoken {gs : List Rg} (G : GivenF r gs) (h : ∀ g ∈ gs, ∀ g' ∈ gs, ∃ Z, Clo r g g' Z) (q : Q (.list [encNs (List.range gs.length)])) : sp_spoken_classes x [r.enc, .list (gs.map Rg.enc), .int 1] Q E := by
  refine ⟨r.enc, .list (gs.map Rg.enc), .int 1, rfl, ⟨pl_rm, pl_fam gs, rfl⟩, fun r' gs' i G' e1 e2 e3 _ _ => ?_, ?_⟩
  · have er : r' = r := by
      have := congrArg rmOf e1
      exact this.symm
    have ei : i = 1 := by injection e3 with e3; exact e3.symm
    refine ⟨ei, ?_⟩
    subst er
    injection e2 with e2
    have back : ∀ l : List Rg, (∀ g ∈ l, g.Ok r'.top) → (l.map Rg.enc).map rgOf = l := fun l hl => by
      rw [List.map_map]
      have : l.map (rgOf ∘ Rg.enc) = l.map id := List.map_congr_left fun g hg => (rg_enc (hl g hg)).2
      rw [this, List.map_id]
    have eg : gs' = gs := by rw [← back gs' G'.gk, ← e2, back gs G.gk]
    rw [eg]
    exact h
  · rw [fam_at G, num_at (by decide) (by decide)]
    exact q
end
def lkR (g : Rg) : Rg := ⟨.look, g.lo, g.hi, 3⟩
def syR (g : Rg) : Rg := ⟨.stay, g.lo, g.hi, 3⟩
theorem lkR_ok {r : Rm} {g : Rg} (gk : g.Ok r.top) : (lkR g).Ok r.top := ⟨gk.l0, gk.lh, gk.ht, fun _ => by show (2 : Int) ≤ 3; decide, fun _ => by show (3 : Int) ≤ 3; decide, fun h => (by cases h)⟩
theorem syR_ok {r : Rm} {g : Rg} (gk : g.Ok r.top) : (syR g).Ok r.top := ⟨gk.l0, gk.lh, gk.ht, fun _ => by show (2 : Int) ≤ 3; decide, fun _ => by show (3 : Int) ≤ 3; decide, fun h => (by cases h)⟩
def swA (r : Rm) (g : Rg) (ws : List Int) : List Int := (along r g ws).map (·.2.1)
theorem swA_is (r : Rm) (g : Rg) (ws : List Int) : 0 :: sws r g ws = swA r g ws := by
  unfold sws swA
  have h : along r g ws = first r :: (along r g ws).tail := by
    unfold along
    cases ws <;> rfl
  rw [h]
  rfl
theorem swA_len (r : Rm) (g : Rg) (ws : List Int) : (swA r g ws).length = ws.length + 1 := by
  unfold swA
  rw [List.length_map]
  exact along_length r g (first r) ws
def ckP (r : Rm) (g : Rg) (ws : List Int) (k : Nat) : Bool := !decide ((swA r g ws)[k + 1]? = (swA r g ws)[k]?)
theorem sw_two {r : Rm} {g : Rg} {ws : List Int} {k : Nat} (hk : k < ws.length) : ∃ a b, (swA r g ws)[k]? = some a ∧ (swA r g ws)[k + 1]? = some b := by
  have := swA_len r g ws
  exact ⟨_, _, List.getElem?_eq_getElem (by omega), List.getElem?_eq_getElem (by omega)⟩
theorem sw_st {r : Rm} {g : Rg} {ws : List Int} {k : Nat} {a : Int} (h : (swA r g ws)[k]? = some a) : ∃ s, (runFrom r g (first r) ws)[k]? = some s ∧ s.2.1 = a := by
  unfold swA at h
  rw [List.getElem?_map] at h
  cases hs : (along r g ws)[k]? with
  | none => rw [hs] at h; cases h
  | some s => rw [hs] at h; injection h with h; exact ⟨s, hs, h⟩
theorem look_ck {r : Rm} {g : Rg} {ws : List Int} {k : Nat} (hk : k < ws.length) (h3 : ¬ ((k : Int) % 3 = 0)) : ckP r (lkR g) ws k = false := by
  obtain ⟨a, b, ha, hb⟩ := sw_two (r := r) (g := lkR g) hk
  obtain ⟨s, hs, es⟩ := sw_st ha
  obtain ⟨t, ht, et⟩ := sw_st hb
  have := look_at (r := r) (g := lkR g) ws (first r) 0 rfl rfl (by show ((0 : Int) + 0) % 3 = 0; decide) (by show (0 : Int) ≤ 0; decide) (by show (0 : Int) ≤ 2; decide) k s t hs ht (by simpa using h3)
  unfold ckP
  rw [ha, hb, ← es, ← et, this]
  simp
theorem stay_ck {r : Rm} {g : Rg} {ws : List Int} {i j : Nat} (hi : i < ws.length) (hj : j < ws.length) (ci : ckP r (syR g) ws i = true) (cj : ckP r (syR g) ws j = true) (h : i < j) : i + 3 ≤ j := by
  obtain ⟨a, b, ha, hb⟩ := sw_two (r := r) (g := syR g) hi
  obtain ⟨c, d, hc, hd⟩ := sw_two (r := r) (g := syR g) hj
  obtain ⟨s, hs, es⟩ := sw_st ha
  obtain ⟨t, ht, et⟩ := sw_st hb
  obtain ⟨u, hu, eu⟩ := sw_st hc
  obtain ⟨v, hv, ev⟩ := sw_st hd
  unfold ckP at ci cj
  rw [ha, hb] at ci
  rw [hc, hd] at cj
  refine stay_far (r := r) (g := syR g) ws (first r) rfl rfl i j s t u v hs ht hu hv (fun z => ?_) (fun z => ?_) h
  · rw [es, et] at z; rw [z] at ci; simp at ci
  · rw [eu, ev] at z; rw [z] at cj; simp at cj
theorem ne_ck {r : Rm} {g : Rg} {ws : List Int} {k : Nat} (hk : k < ws.length) {Q : D → Prop} (q : Q (.bool (ckP r g ws k))) : fIx (encIs (swA r g ws)) (.int ((k : Int) + 1)) fun y => fIx (encIs (swA r g ws)) (.int (k : Int)) fun z => fNe y z Q := by
  obtain ⟨a, b, ha, hb⟩ := sw_two (r := r) (g := g) hk
  refine ⟨.int b, ?_, .int a, ?_, ?_⟩
  · rw [show ((k : Int) + 1) = ((k + 1 : Nat) : Int) by omega]
    exact atI_of (by rw [List.getElem?_map, hb]; rfl)
  · exact atI_of (by rw [List.getElem?_map, ha]; rfl)
  · show fNe (.int b) (.int a) Q
    rw [fNe_i]
    unfold ckP at q
    rw [ha, hb] at q
    simpa using q
theorem add_ok {ds es : List D} {Q : D → Prop} (h : ds.length + es.length ≤ 1000) (q : Q (.list (ds ++ es))) : fAdd (.list ds) (.list es) Q := by
  rw [fAdd_l]
  exact ⟨le1000 h, q⟩
theorem sem__law_narrow (x : Xc) : ∀ ds Q E, sp__law_narrow x ds Q E → t__law_narrow x (endD Q E) (startD 10 ds) := by
  rintro _ Q E ⟨⟨r, g, ws⟩, rfl, ⟨ok, gk, hl, dg⟩, q⟩
  replace ok : r.Ok := ok
  replace gk : g.Ok r.top := gk
  replace hl : ws.length ≤ 60 := hl
  replace dg : Dg ws := dg
  replace q : Q (.bool true) := q
  have l0 := gk.l0
  have lh := gk.lh
  have ht := gk.ht
  have nk := nwR_ok (r := r) l0 (by omega)
  have pk := plR_ok (r := r) l0 (by omega)
  refine seq_g fun nx h => ?_
  walk_at "ds"
  refine h _ ?_
  clear h
  refine seq_g fun nx h => ?_
  walk_at "ds"
  refine h _ ?_
  clear h
  show sSeq _ _ _ [.val r.enc, .val g.enc, .val (encIs ws), .val (nwR g.lo).enc, .val (plR g.lo).enc, .un, .un, .un, .un, .un]
  have Gn : Given r (nwR g.lo) ws := ⟨ok, nk, hl, dg⟩
  have Gp : Given r (plR g.lo) ws := ⟨ok, pk, hl, dg⟩
  refine seq_g fun nx h => ?_
  walk_at "ds"
  refine at_same2 ok nk pk ?_
  rw [part_nw]
  walk_at "ds"
  rw [if_neg (by decide)]
  refine at_run Gn ?_
  refine at_run Gp ?_
  refine fNe_same (by unfold along; rw [run_nw ws (first r) rfl]) (sh_64 (sh_is _)) ?_
  simp only [Bool.false_eq_true, if_false]
  refine h _ ?_
  clear h
  refine seq_g fun nx h => ?_
  walk_at "ds"
  have shF : ∀ p : Int × Int, (frD p).sh 64 := fun p => sh_t64 (n := 0) fun d hd => by
    simp only [List.mem_cons, List.not_mem_nil, or_false] at hd
    rcases hd with rfl | rfl <;> exact sh_int' 0 _
  refine at_great ok nk ?_
  refine at_great ok pk ?_
  refine fNe_same (by rw [best_nw]) (shF _) ?_
  simp only [Bool.false_eq_true, if_false]
  refine at_clickS ok nk ?_
  refine at_clickS ok pk ?_
  refine fNe_same (by rw [best_nw]) (shF _) ?_
  simp only [Bool.false_eq_true, if_false]
  refine h _ ?_
  clear h
  have GF : GivenF r [nwR g.lo, plR g.lo] := ⟨ok, by show 1 ≤ 2; decide, by show 2 ≤ 8; decide, fun g' hg => by
    simp only [List.mem_cons, List.not_mem_nil, or_false] at hg
    rcases hg with rfl | rfl
    · exact nk
    · exact pk⟩
  have sh01 : (D.list [.list [.int 0, .int 1]]).sh 64 := sh_l64 (n := 1) fun d hd => by
    rw [List.mem_singleton.mp hd]
    exact sh_list (n := 0) fun d hd => by
      simp only [List.mem_cons, List.not_mem_nil, or_false] at hd
      rcases hd with rfl | rfl <;> exact sh_int' 0 _
  refine seq_g fun nx h => ?_
  walk_at "ds"
  refine at_cls GF ?_
  rw [cls_nw]
  refine fNe_same rfl sh01 ?_
  simp only [Bool.false_eq_true, if_false]
  refine at_spoken GF (fun a ha b hb => ?_) ?_
  · simp only [List.mem_cons, List.not_mem_nil, or_false] at ha hb
    exact ⟨_, clo_gen ok pk ha hb⟩
  refine fNe_same rfl sh01 ?_
  simp only [Bool.false_eq_true, if_false]
  refine h _ ?_
  clear h
  refine seq_g fun nx h => ?_
  walk_at "ds"
  refine h _ ?_
  clear h
  show sSeq _ _ _ [.val r.enc, .val g.enc, .val (encIs ws), .val (nwR g.lo).enc, .val (plR g.lo).enc, .val (lkR g).enc, .un, .un, .un, .un]
  refine seq_g fun nx h => ?_
  walk_at "ds"
  refine at_run (g := lkR g) ⟨ok, lkR_ok gk, hl, dg⟩ ?_
  have e0 : ∀ g' : Rg, D.list ([.int 0] ++ ((along r g' ws).tail.map (·.2.1)).map D.int) = encIs (swA r g' ws) := fun g' => by
    rw [← swA_is]
    rfl
  have l60 : ∀ g' : Rg, (((along r g' ws).tail.map (·.2.1)).map D.int).length = ws.length := fun g' => by
    rw [List.length_map, List.length_map, List.length_tail]
    have : (along r g' ws).length = ws.length + 1 := along_length r g' (first r) ws
    omega
  refine add_ok (by show 1 + _ ≤ 1000; rw [l60]; omega) ?_
  rw [e0]
  refine h _ ?_
  clear h
  refine seq_g fun nx h => ?_
  refine for_rngT (n := ws.length) (fun Q' E' q' => ?_) (fun k env => ∃ s7, env = [.val r.enc, .val g.enc, .val (encIs ws), .val (nwR g.lo).enc, .val (plR g.lo).enc, .val (lkR g).enc, .val (encIs (swA r (lkR g) ws)), s7, .un, .un]) (by omega) ⟨_, rfl⟩ ?_ ?_
  · walk_at "ds"
    show gLen [encIs ws] Q'
    rw [encIs, gLen_l, List.length_map]
    exact q'
  rotate_left
  · rintro k _ nx' hk ⟨s7, rfl⟩ h'
    refine ⟨_, rfl, ?_⟩
    walk_at "ds"
    rw [fMod_i]
    refine ⟨by decide, ?_⟩
    rw [fNe_i]
    simp only
    by_cases h3 : (k : Int) % 3 = 0
    · rw [if_neg (by simp [h3])]
      exact h' _ ⟨_, rfl⟩
    · rw [if_pos (by simp [h3])]
      refine ne_ck hk ?_
      rw [look_ck hk h3]
      simp only [Bool.false_eq_true, if_false]
      exact h' _ ⟨_, rfl⟩
  rintro _ ⟨s7, rfl⟩
  refine h _ ?_
  clear h
  refine seq_g fun nx h => ?_
  walk_at "ds"
  refine h _ ?_
  clear h
  refine seq_g fun nx h => ?_
  walk_at "ds"
  refine at_run (g := syR g) ⟨ok, syR_ok gk, hl, dg⟩ ?_
  refine add_ok (by show 1 + _ ≤ 1000; rw [l60]; omega) ?_
  rw [e0]
  refine h _ ?_
  clear h
  refine seq_g fun nx h => ?_
  walk_at "ds"
  have hL : gLen [encIs ws] = fun Q' : D → Prop => Q' (.int (ws.length : Int)) := funext fun Q' => by rw [encIs, gLen_l, List.length_map]
  rw [hL]
  refine rng_filt (n := ws.length) (fun (k : Nat) => D.int (k : Int)) (ckP r (syR g) ws) (by omega) (fun k hk => ⟨_, rfl, fun Q' q' => ?_, fun _ Q' q' => q'⟩) ?_
  · walk_at "ds"
    exact ne_ck hk q'
  refine h _ ?_
  clear h
  walk_at "ds"
  generalize hcl : (List.range ws.length).filter (ckP r (syR g) ws) = cl
  have lc : cl.length ≤ 60 := by
    rw [← hcl]
    exact Nat.le_trans (List.length_filter_le _ _) (by rw [List.length_range]; exact hl)
  have far : ∀ i, i + 1 < cl.length → ∃ a b : Nat, cl[i]? = some a ∧ cl[i + 1]? = some b ∧ a + 3 ≤ b := fun i hi => by
    have pw : cl.Pairwise (· < ·) := by
      rw [← hcl]
      exact List.pairwise_lt_range.filter _
    have h1 : cl[i]? = some (cl[i]'(by omega)) := List.getElem?_eq_getElem (by omega)
    have h2 : cl[i + 1]? = some cl[i + 1] := List.getElem?_eq_getElem hi
    have lt := (List.pairwise_iff_getElem.mp pw) i (i + 1) (by omega) hi (by omega)
    have m1 : cl[i]'(by omega) ∈ (List.range ws.length).filter (ckP r (syR g) ws) := by rw [hcl]; exact List.getElem_mem _
    have m2 : cl[i + 1] ∈ (List.range ws.length).filter (ckP r (syR g) ws) := by rw [hcl]; exact List.getElem_mem _
    obtain ⟨a1, a2⟩ := List.mem_filter.mp m1
    obtain ⟨b1, b2⟩ := List.mem_filter.mp m2
    exact ⟨_, _, h1, h2, stay_ck (List.mem_range.mp a1) (List.mem_range.mp b1) a2 b2 lt⟩
  rw [List.length_map]
  have e62 : (2 : Int) ^ 62 = 4611686018427387904 := by decide +kernel
  rw [e62]
  refine ⟨⟨by decide, by decide, by omega, by omega⟩, ?_⟩
  rw [show ((cl.length : Int) - 1).toNat = cl.length - 1 by omega]
  unfold rngD
  refine ⟨le1000 (by rw [List.length_map, List.length_range]; omega), ?_⟩
  refine comp_filt (fun (i : Nat) => D.int (1 + (i : Int))) (fun (i : Nat) => D.int (1 + (i : Int))) (fun _ => false) _ (fun i hi => ⟨_, rfl, fun Q' q' => ?_, fun h => (by cases h)⟩) ?_
  · have hi := List.mem_range.mp hi
    obtain ⟨a, b, h1, h2, h3⟩ := far i (by omega)
    walk_at "ds"
    refine ⟨.int (b : Int), ?_, ?_⟩
    · rw [show (1 : Int) + (i : Int) = ((i + 1 : Nat) : Int) by omega]
      exact atI_of (by rw [List.getElem?_map, h2]; rfl)
    refine ⟨.int (a : Int), ?_, ?_⟩
    · rw [show (1 : Int) + (i : Int) - 1 = (i : Int) by omega]
      exact atI_of (by rw [List.getElem?_map, h1]; rfl)
    show fSub (.int b) (.int a) _
    rw [fSub_i, fLt_i]
    rw [show decide ((b : Int) - (a : Int) < 3) = false from decide_eq_false (by omega)]
    exact q'
  · have e : ((List.range (cl.length - 1)).filter fun _ => false) = [] := by simp
    rw [e]
    exact fEq_same rfl (sh_l64 (n := 0) (fun d hd => by cases hd) (by decide)) q
end HC
namespace HC
open PySem PySem.Spec PyProof.Rows L2
local macro_rules | `(tactic| walk_at "ds") => `(tactic| try simp only [endD, startD, startT, endLaw, startLaw, List.map_cons, List.map_nil, List.length_cons, List.length_nil, List.replicate, List.cons_append, List.nil_append, Nat.reduceSub, Nat.reduceAdd, sSeq, sRet, sIf, sNil, sAsg, sUnp, sExpr, sPar2, sPar3, xCons, xNil, xVal, xOwn, bTest, bNot, bAnd, bOr, wVar, wPeek, slot, wC, wOp2, wB, wM, wCons, wNil, wTup, wLst, wIf, wAnd, wOr, wNot, wNeg, wCall, wCallT, wSl, wPart, wNoPart, List.set, ex1, gT_t, gT_st, gT_pr, gC_c, gN_c, gNil_c, sRaise, wChain, sFrz, frz, wIsi, wTabIn, wTabAt, sAug, wipeD, En.lp, loopW_nil, d_WEATHERS, ds_WEATHERS, wDisp1, wNewT, wComp, iSeq, iRange, gList_l, sFor, Bool.false_eq_true, if_false, if_true,
  fAdd_i, fAdd_s, fAdd_l, fAdd_t, fAddL_l, fSub_i, fLt_i, fLe_i, fGt_i, fGe_i, fEq_i, fNe_i, fIs_b, fIsN_b, fIs_nn, fIs_in, fIs_ln, fIs_tn, fIsN_nn, fIsN_in, fIsN_ln, fIsN_tn, gMin_2, gMax_2, gLen_l, gLen_t, fIx_rm0, fIx_rm1, fIx_rm2, fIx_st0, fIx_st1, fIx_st2, fIx_rg0, fIx_rg1, fIx_rg2, fSl_rg, fEq_gap, fEq_stay, fEq_late, fEq_look, fEq_lean])
def lowR (r : Rm) : Rm := if r.top = 10 then ⟨9, if r.beg < 9 then r.beg else 9, r.rise⟩ else r
theorem lowR_ok {r : Rm} (ok : r.Ok) : (lowR r).Ok ∧ (lowR r).top ≤ 9 := by
  have h1 := ok.t6
  have h2 := ok.t10
  have h3 := ok.b0
  have h4 := ok.bt
  have h5 := ok.r4
  have h6 := ok.r5
  unfold lowR
  split
  · refine ⟨⟨by show (6 : Int) ≤ 9; decide, by show (9 : Int) ≤ 10; decide, ?_, ?_, h5, h6⟩, by show (9 : Int) ≤ 9; decide⟩
    · show 0 ≤ if r.beg < 9 then r.beg else 9
      split <;> omega
    · show (if r.beg < 9 then r.beg else 9) ≤ (9 : Int)
      split <;> omega
  · exact ⟨ok, by omega⟩
theorem upR_ok {r : Rm} (ok : r.Ok) (h : r.top ≤ 9) : (upR r).Ok := by
  have h1 := ok.t6
  have h3 := ok.b0
  have h4 := ok.bt
  exact ⟨by show 6 ≤ r.top + 1; omega, by show r.top + 1 ≤ 10; omega, by show 0 ≤ r.beg + 1; omega, by show r.beg + 1 ≤ r.top + 1; omega, ok.r4, ok.r5⟩
theorem wideR_ok {r : Rm} (ok : r.Ok) (h : r.top ≤ 9) : (wideR r).Ok := by
  have h1 := ok.t6
  have h3 := ok.b0
  have h4 := ok.bt
  exact ⟨by show 6 ≤ r.top + 1; omega, by show r.top + 1 ≤ 10; omega, h3, by show r.beg ≤ r.top + 1; omega, ok.r4, ok.r5⟩
theorem upG_ok {r : Rm} {g : Rg} (gk : g.Ok r.top) : (upG g).Ok (upR r).top := by
  have h1 := gk.l0
  have h2 := gk.lh
  have h3 := gk.ht
  exact ⟨by show 0 ≤ g.lo + 1; omega, by show g.lo + 1 < g.hi + 1; omega, by show g.hi + 1 ≤ r.top + 1; omega, gk.k2, gk.k3, gk.k0⟩
theorem wideG_ok {r : Rm} {g : Rg} (gk : g.Ok r.top) : g.Ok (wideR r).top := ⟨gk.l0, gk.lh, by have := gk.ht; show g.hi ≤ r.top + 1; omega, gk.k2, gk.k3, gk.k0⟩
theorem sl3_rg {g : Rg} {Q : D → Prop} : fSl g.enc (some 3) none Q = Q (.tuple (if g.kd.four = true then [.int g.tk] else [])) := by
  obtain ⟨kd, lo, hi, tk⟩ := g
  cases kd <;> rfl
theorem up_enc {g : Rg} : D.tuple ([.str g.kd.nm, .int (g.lo + 1), .int (g.hi + 1)] ++ if g.kd.four = true then [.int g.tk] else []) = (upG g).enc := by
  obtain ⟨kd, lo, hi, tk⟩ := g
  cases kd <;> rfl
def env22 (r : Rm) (g : Rg) (ws : List Int) (f : Nat) (s9 s10 s11 s12 s13 : Sl) : Env := [.un, .tok, .val r.enc, .val g.enc, .val (encIs ws), .val (upR r).enc, .val (upG g).enc, .val (encSts (along r g ws)), .val (.int (f : Int)), s9, s10, s11, s12, s13]
def sWhole (r : Rm) (g : Rg) (ws : List Int) (f m : Nat) (nx : Env → Prop) (Z : Int) : Prop :=
  fLe (.int 0) (.int Z) fun z =>
    match z with
    | .bool k =>
      if k = true then
        fLe (.int Z) (.int r.top) fun x =>
          match x with
          | .bool k =>
            if (!k) = true then nx (env22 r g ws f (.val (.int Z)) .un .un .un .un)
            else ∃ m', m' < m ∧ ∃ (f1 : Nat) (s9 : Sl), m' = ws.length - f1 ∧ f1 ≤ ws.length ∧ FitsB r g (first r) (ws.take f1) ∧ [Sl.un, Sl.tok, Sl.val r.enc, Sl.val g.enc, Sl.val (encIs ws), Sl.val (upR r).enc, Sl.val (upG g).enc, Sl.val (encSts (along r g ws)), Sl.val (D.int ((f : Int) + 1)), Sl.val (.int Z), Sl.un, Sl.un, Sl.un, Sl.un] = env22 r g ws f1 s9 .un .un .un .un
          | _ => False
      else if (!false) = true then nx (env22 r g ws f (.val (.int Z)) .un .un .un .un)
      else ∃ m', m' < m ∧ ∃ (f1 : Nat) (s9 : Sl), m' = ws.length - f1 ∧ f1 ≤ ws.length ∧ FitsB r g (first r) (ws.take f1) ∧ [Sl.un, Sl.tok, Sl.val r.enc, Sl.val g.enc, Sl.val (encIs ws), Sl.val (upR r).enc, Sl.val (upG g).enc, Sl.val (encSts (along r g ws)), Sl.val (D.int ((f : Int) + 1)), Sl.val (.int Z), Sl.un, Sl.un, Sl.un, Sl.un] = env22 r g ws f1 s9 .un .un .un .un
    | _ => False
theorem upS_first {r : Rm} : first (upR r) = upS (first r) := rfl
theorem sem_law (x : Xc) : t_law x endLaw (startLaw 14) := by
  refine seq_g fun nx h => ?_
  walk_at "ds"
  refine in_room fun r0 ok0 => h _ ?_
  clear h
  obtain ⟨ok, t9⟩ := lowR_ok ok0
  refine seq_g fun nx h => ?_
  have hn := h [.un, .tok, .val (lowR r0).enc, .un, .un, .un, .un, .un, .un, .un, .un, .un, .un, .un]
  clear h
  suffices hh : nx [.un, .tok, .val (lowR r0).enc, .un, .un, .un, .un, .un, .un, .un, .un, .un, .un, .un] by
    clear hn
    walk_at "ds"
    unfold lowR at hh
    by_cases h10 : r0.top = 10
    · rw [if_pos h10] at hh
      rw [if_pos (decide_eq_true h10)]
      exact hh
    · rw [if_neg h10] at hh
      rw [if_neg (by simpa using h10)]
      exact hh
  refine hn ?_
  clear hn nx
  generalize lowR r0 = r at ok t9
  clear ok0 r0
  refine seq_g fun nx h => ?_
  walk_at "ds"
  refine in_regulator ok fun g gk => ?_
  refine in_row (by decide) (by decide) fun ws dg hl => h _ ?_
  clear h
  refine seq_g fun nx h => ?_
  walk_at "ds"
  refine h _ ?_
  clear h
  refine seq_g fun nx h => ?_
  walk_at "ds"
  rw [sl3_rg, fAdd_t, up_enc]
  refine ⟨le1000 (by
    split
    · show 3 + 1 ≤ 1000
      decide
    · show 3 + 0 ≤ 1000
      decide), ?_⟩
  refine h _ ?_
  clear h
  have hl' : ws.length ≤ 60 := by omega
  have G : Given r g ws := ⟨ok, gk, hl', dg⟩
  have al : (along r g ws).length = ws.length + 1 := along_length r g (first r) ws
  refine seq_g fun nx h => ?_
  walk_at "ds"
  refine at_states_along G ?_
  refine h _ ?_
  clear h
  refine seq_g fun nx h => h _ ?_
  clear h nx
  show sSeq _ _ _ (env22 r g ws 0 .un .un .un .un .un)
  refine seq_g fun nx h => ?_
  refine ⟨fun m env => ∃ (f : Nat) (s9 : Sl), m = ws.length - f ∧ f ≤ ws.length ∧ FitsB r g (first r) (ws.take f) ∧ env = env22 r g ws f s9 .un .un .un .un, ⟨ws.length, 0, .un, rfl, Nat.zero_le _, by rw [List.take_zero]; trivial, rfl⟩, ?_⟩
  rintro m env ⟨f, s9, hm, hf, fb, rfl⟩
  unfold env22
  walk_at "ds"
  have hL : gLen [encIs ws] = fun Q' : D → Prop => Q' (.int (ws.length : Int)) := funext fun Q' => by rw [encIs, gLen_l, List.length_map]
  rw [hL]
  have fin : ∀ s9, nx (env22 r g ws f s9 .un .un .un .un) := fun s9 => by
    have lt : (ws.take f).length = f := by rw [List.length_take]; omega
    have dt : Dg (ws.take f) := fun w hw => dg w (List.mem_of_mem_take hw)
    have Gt : Given r g (ws.take f) := ⟨ok, gk, by omega, dt⟩
    have er := run_take (r := r) (g := g) ws (first r) f hf
    have e1 : ((along r g ws).take (f + 1)).map upS = along (upR r) (upG g) (ws.take f) := by
      unfold along
      rw [upS_first, run_up _ _ fb, er]
    have e2 : (along (upR r) (upG g) (ws.take f)).tail.map (·.2.1) = (along r g (ws.take f)).tail.map (·.2.1) := by
      unfold along
      rw [upS_first, run_up _ _ fb, ← List.map_tail, List.map_map]
      rfl
    have e3 : along (wideR r) g (ws.take f) = (along r g ws).take (f + 1) := by
      unfold along
      rw [show first (wideR r) = first r from rfl, run_wide _ _ fb, er]
    have slw : ∀ Q' : D → Prop, fSl (encIs ws) none (some (f : Int)) Q' = Q' (encIs (ws.take f)) := fun Q' => by
      rw [encIs, fSl_l, cutL_take, ← List.map_take]
      rfl
    have sls : ∀ Q' : D → Prop, fSl (encSts (along r g ws)) none (some ((f : Int) + 1)) Q' = Q' (encSts ((along r g ws).take (f + 1))) := fun Q' => by
      rw [show (f : Int) + 1 = ((f + 1 : Nat) : Int) by omega, encSts, fSl_l, cutL_take, ← List.map_take]
      rfl
    refine h _ ?_
    clear h
    refine seq_g fun nx h => ?_
    unfold env22
    walk_at "ds"
    rw [sls]
    refine ⟨le1000 (by rw [List.length_map, List.length_take]; omega), ?_⟩
    refine comp_enc encSt (fun s => encSt (upS s)) _ (fun s _ => ⟨_, rfl, fun Q' q' => ?_⟩) ?_
    · walk_at "ds"
      exact q'
    rw [show (fun s => encSt (upS s)) = encSt ∘ upS from rfl, ← List.map_map, e1]
    refine h _ ?_
    clear h
    refine seq_g fun nx h => ?_
    walk_at "ds"
    rw [slw]
    refine at_states_along (r := upR r) (g := upG g) (ws := ws.take f) ⟨upR_ok ok t9, upG_ok gk, by omega, dt⟩ ?_
    refine fNe_same rfl (sh_64 (sh_sts _)) ?_
    simp only [Bool.false_eq_true, if_false]
    rw [slw]
    refine at_run (r := upR r) (g := upG g) (ws := ws.take f) ⟨upR_ok ok t9, upG_ok gk, by omega, dt⟩ ?_
    rw [slw]
    refine at_run Gt ?_
    refine fNe_same (by rw [e2]) (sh_64 (sh_is _)) ?_
    simp only [Bool.false_eq_true, if_false]
    refine h _ ?_
    clear h
    refine seq_g fun nx h => ?_
    walk_at "ds"
    refine h _ ?_
    clear h
    refine seq_g fun nx h => ?_
    walk_at "ds"
    rw [slw]
    refine at_states_along (r := wideR r) (g := g) (ws := ws.take f) ⟨wideR_ok ok t9, wideG_ok gk, by omega, dt⟩ ?_
    rw [sls]
    refine fNe_same (by rw [e3]) (sh_64 (sh_sts _)) ?_
    simp only [Bool.false_eq_true, if_false]
    refine h _ ?_
    clear h
    walk_at "ds"
    exact ⟨(r, g, ws), rfl, ⟨ok, gk, hl', dg⟩, rfl⟩
  by_cases hc : f < ws.length
  · refine ite_t (decide_eq_true (by omega)) ?_
    obtain ⟨w, hw⟩ : ∃ w, ws[f]? = some w := ⟨_, List.getElem?_eq_getElem hc⟩
    obtain ⟨s, hs⟩ : ∃ s, (along r g ws)[f]? = some s := ⟨_, List.getElem?_eq_getElem (by omega)⟩
    have ixs : ∀ Q' : D → Prop, Q' (encSt s) → fIx (encSts (along r g ws)) (.int (f : Int)) Q' := fun Q' q' => ⟨encSt s, atI_of (by rw [List.getElem?_map, hs]; rfl), q'⟩
    have ixw : ∀ Q' : D → Prop, Q' (.int w) → fIx (encIs ws) (.int (f : Int)) Q' := fun Q' q' => ⟨.int w, atI_of (by rw [List.getElem?_map, hw]; rfl), q'⟩
    have lt : (ws.take f).length = f := by rw [List.length_take]; omega
    have sn : 0 ≤ rawH' r s w → rawH' r s w ≤ r.top → FitsB r g (first r) (ws.take (f + 1)) := fun h0 h1 => by
      rw [List.take_succ, hw]
      refine fits_snoc (ws.take f) (first r) s fb ?_ h0 h1
      rw [lt, run_take ws (first r) f hf, List.getElem?_take, if_pos (by omega)]
      exact hs
    refine ixs _ ?_
    rw [fIx_st0]
    refine ixw _ ?_
    rw [fSub_i]
    refine ixs _ ?_
    rw [fIx_st1, fEq_i]
    have cut : ∀ Z : Int, Z = rawH' r s w → sWhole r g ws f m nx Z := fun Z ez => by
      subst ez
      unfold sWhole
      rw [fLe_i]
      by_cases h0 : 0 ≤ rawH' r s w
      · rw [decide_eq_true h0]
        simp only [if_true]
        rw [fLe_i]
        by_cases h1 : rawH' r s w ≤ r.top
        · rw [decide_eq_true h1]
          simp only [Bool.not_true, Bool.false_eq_true, if_false]
          exact ⟨_, by omega, f + 1, _, rfl, by omega, sn h0 h1, rfl⟩
        · rw [decide_eq_false h1]
          simp only [Bool.not_false, if_true]
          exact fin _
      · rw [decide_eq_false h0]
        simp only [Bool.not_false, Bool.false_eq_true, if_false, if_true]
        exact fin _
    by_cases h1 : s.2.1 = 1
    · rw [decide_eq_true h1]
      simp only [if_true]
      rw [fAdd_i]
      exact cut _ (by unfold rawH'; rw [if_pos h1])
    · rw [decide_eq_false h1]
      simp only [Bool.false_eq_true, if_false]
      rw [fAdd_i]
      exact cut _ (by unfold rawH'; rw [if_neg h1])
  · refine ite_f (decide_eq_false (by omega)) ?_
    exact fin s9
end HC
namespace HL
open PySem PySem.Spec PyProof.Rows L2 HC
/-! ### the text -/
def topS (i : Nat) : Stmt := PySem.Challenge.pw_heatclicks_k22_whole_shifted.main.body.getD i (.Pass ⟨0, 0, 0, 0⟩)
abbrev s__law_start : Stmt := topS 56
theorem sc__law_start : FnScope ["script"] ["script"] (defScope s__law_start) := ⟨rfl, rfl, rfl, by decide +kernel, rfl, by decide +kernel, by decide +kernel⟩
abbrev s__law_draw : Stmt := topS 57
theorem sc__law_draw : FnScope ["draws", "limit", "numbers", "at", "cell", "mixed"] ["draws", "limit"] (defScope s__law_draw) := ⟨rfl, rfl, rfl, by decide +kernel, rfl, by decide +kernel, by decide +kernel⟩
abbrev s__law_room : Stmt := topS 59
theorem sc__law_room : FnScope ["draws", "top"] ["draws"] (defScope s__law_room) := ⟨rfl, rfl, rfl, by decide +kernel, rfl, by decide +kernel, by decide +kernel⟩
abbrev s_is_int : Stmt := topS 6
theorem sc_is_int : FnScope ["value", "low", "high"] ["value", "low", "high"] (defScope s_is_int) := ⟨rfl, rfl, rfl, by decide +kernel, rfl, by decide +kernel, by decide +kernel⟩
abbrev s_is_room : Stmt := topS 13
theorem sc_is_room : FnScope ["value"] ["value"] (defScope s_is_room) := ⟨rfl, rfl, rfl, by decide +kernel, rfl, by decide +kernel, by decide +kernel⟩
abbrev s_check_room : Stmt := topS 14
theorem sc_check_room : FnScope ["value"] ["value"] (defScope s_check_room) := ⟨rfl, rfl, rfl, by decide +kernel, rfl, by decide +kernel, by decide +kernel⟩
abbrev s_is_for : Stmt := topS 20
theorem sc_is_for : FnScope ["value", "top"] ["value", "top"] (defScope s_is_for) := ⟨rfl, rfl, rfl, by decide +kernel, rfl, by decide +kernel, by decide +kernel⟩
abbrev s_check_regulator : Stmt := topS 21
theorem sc_check_regulator : FnScope ["room", "value"] ["room", "value"] (defScope s_check_regulator) := ⟨rfl, rfl, rfl, by decide +kernel, rfl, by decide +kernel, by decide +kernel⟩
abbrev s_is_weather : Stmt := topS 15
theorem sc_is_weather : FnScope ["value"] ["value"] (defScope s_is_weather) := ⟨rfl, rfl, rfl, by decide +kernel, rfl, by decide +kernel, by decide +kernel⟩
abbrev s_is_row : Stmt := topS 16
theorem sc_is_row : FnScope ["value", "one"] ["value"] (defScope s_is_row) := ⟨rfl, rfl, rfl, by decide +kernel, rfl, by decide +kernel, by decide +kernel⟩
abbrev s_check_row : Stmt := topS 17
theorem sc_check_row : FnScope ["value"] ["value"] (defScope s_check_row) := ⟨rfl, rfl, rfl, by decide +kernel, rfl, by decide +kernel, by decide +kernel⟩
abbrev s_first_state : Stmt := topS 25
theorem sc_first_state : FnScope ["room"] ["room"] (defScope s_first_state) := ⟨rfl, rfl, rfl, by decide +kernel, rfl, by decide +kernel, by decide +kernel⟩
abbrev s_warmed : Stmt := topS 26
theorem sc_warmed : FnScope ["room", "heat", "switch", "weather"] ["room", "heat", "switch", "weather"] (defScope s_warmed) := ⟨rfl, rfl, rfl, by decide +kernel, rfl, by decide +kernel, by decide +kernel⟩
abbrev s_decided : Stmt := topS 27
theorem sc_decided : FnScope ["heat", "low", "high", "switch"] ["heat", "low", "high", "switch"] (defScope s_decided) := ⟨rfl, rfl, rfl, by decide +kernel, rfl, by decide +kernel, by decide +kernel⟩
abbrev s_set_switch : Stmt := topS 28
theorem sc_set_switch : FnScope ["regulator", "before", "heat", "switch", "memory", "kind", "low", "high", "after"] ["regulator", "before", "heat", "switch", "memory"] (defScope s_set_switch) := ⟨rfl, rfl, rfl, by decide +kernel, rfl, by decide +kernel, by decide +kernel⟩
abbrev s_step : Stmt := topS 29
theorem sc_step : FnScope ["room", "regulator", "state", "weather", "before", "switch", "memory", "heat"] ["room", "regulator", "state", "weather"] (defScope s_step) := ⟨rfl, rfl, rfl, by decide +kernel, rfl, by decide +kernel, by decide +kernel⟩
abbrev s_states_of : Stmt := topS 32
theorem sc_states_of : FnScope ["room", "regulator", "row", "found", "weather"] ["room", "regulator", "row"] (defScope s_states_of) := ⟨rfl, rfl, rfl, by decide +kernel, rfl, by decide +kernel, by decide +kernel⟩
abbrev s_states_along : Stmt := topS 33
theorem sc_states_along : FnScope ["room", "regulator", "row"] ["room", "regulator", "row"] (defScope s_states_along) := ⟨rfl, rfl, rfl, by decide +kernel, rfl, by decide +kernel, by decide +kernel⟩
abbrev s_run : Stmt := topS 34
theorem sc_run : FnScope ["room", "regulator", "row", "state"] ["room", "regulator", "row"] (defScope s_run) := ⟨rfl, rfl, rfl, by decide +kernel, rfl, by decide +kernel, by decide +kernel⟩
abbrev s_check_two : Stmt := topS 23
theorem sc_check_two : FnScope ["room", "one", "other"] ["room", "one", "other"] (defScope s_check_two) := ⟨rfl, rfl, rfl, by decide +kernel, rfl, by decide +kernel, by decide +kernel⟩
abbrev s_parting_of : Stmt := topS 38
theorem sc_parting_of : FnScope ["room", "one", "other", "found", "here", "known", "mine", "yours", "row", "weather", "after"] ["room", "one", "other"] (defScope s_parting_of) := ⟨rfl, rfl, rfl, by decide +kernel, rfl, by decide +kernel, by decide +kernel⟩
abbrev s_same : Stmt := topS 39
theorem sc_same : FnScope ["room", "one", "other"] ["room", "one", "other"] (defScope s_same) := ⟨rfl, rfl, rfl, by decide +kernel, rfl, by decide +kernel, by decide +kernel⟩
abbrev s_heights_of : Stmt := topS 51
theorem sc_heights_of : FnScope ["table", "first", "found", "turn", "fresh", "state", "count", "after", "weather", "best"] ["table", "first"] (defScope s_heights_of) := ⟨rfl, rfl, rfl, by decide +kernel, rfl, by decide +kernel, by decide +kernel⟩
abbrev s_is_less : Stmt := topS 50
theorem sc_is_less : FnScope ["one", "other"] ["one", "other"] (defScope s_is_less) := ⟨rfl, rfl, rfl, by decide +kernel, rfl, by decide +kernel, by decide +kernel⟩
abbrev s_lowest : Stmt := topS 9
theorem sc_lowest : FnScope ["top", "bottom", "one", "other"] ["top", "bottom"] (defScope s_lowest) := ⟨rfl, rfl, rfl, by decide +kernel, rfl, by decide +kernel, by decide +kernel⟩
abbrev s_greatest_of : Stmt := topS 52
theorem sc_greatest_of : FnScope ["table", "first", "many", "heights", "best", "state", "least", "turn", "own"] ["table", "first"] (defScope s_greatest_of) := ⟨rfl, rfl, rfl, by decide +kernel, rfl, by decide +kernel, by decide +kernel⟩
abbrev s_rows_of : Stmt := topS 36
theorem sc_rows_of : FnScope ["room", "regulator", "found", "order", "here", "weather", "after"] ["room", "regulator"] (defScope s_rows_of) := ⟨rfl, rfl, rfl, by decide +kernel, rfl, by decide +kernel, by decide +kernel⟩
abbrev s_roads_of : Stmt := topS 49
theorem sc_roads_of : FnScope ["room", "regulator", "kind", "found", "state", "weather", "after", "counts"] ["room", "regulator", "kind"] (defScope s_roads_of) := ⟨rfl, rfl, rfl, by decide +kernel, rfl, by decide +kernel, by decide +kernel⟩
abbrev s_greatest_share : Stmt := topS 53
theorem sc_greatest_share : FnScope ["room", "regulator"] ["room", "regulator"] (defScope s_greatest_share) := ⟨rfl, rfl, rfl, by decide +kernel, rfl, by decide +kernel, by decide +kernel⟩
abbrev s_click_share : Stmt := topS 54
theorem sc_click_share : FnScope ["room", "regulator"] ["room", "regulator"] (defScope s_click_share) := ⟨rfl, rfl, rfl, by decide +kernel, rfl, by decide +kernel, by decide +kernel⟩
abbrev s_check_family : Stmt := topS 22
theorem sc_check_family : FnScope ["room", "value", "one"] ["room", "value"] (defScope s_check_family) := ⟨rfl, rfl, rfl, by decide +kernel, rfl, by decide +kernel, by decide +kernel⟩
abbrev s_sorts_of : Stmt := topS 40
theorem sc_sorts_of : FnScope ["room", "family", "spots", "behind", "sorts", "place", "regulator", "state", "many", "shapes", "fresh", "spot", "shape", "after", "weather"] ["room", "family"] (defScope s_sorts_of) := ⟨rfl, rfl, rfl, by decide +kernel, rfl, by decide +kernel, by decide +kernel⟩
abbrev s_groups_by : Stmt := topS 41
theorem sc_groups_by : FnScope ["things", "found", "place", "one", "other"] ["things"] (defScope s_groups_by) := ⟨rfl, rfl, rfl, by decide +kernel, rfl, by decide +kernel, by decide +kernel⟩
abbrev s_classes : Stmt := topS 42
theorem sc_classes : FnScope ["room", "family", "sorts", "place"] ["room", "family"] (defScope s_classes) := ⟨rfl, rfl, rfl, by decide +kernel, rfl, by decide +kernel, by decide +kernel⟩
abbrev s_check_number : Stmt := topS 7
theorem sc_check_number : FnScope ["value", "low", "high"] ["value", "low", "high"] (defScope s_check_number) := ⟨rfl, rfl, rfl, by decide +kernel, rfl, by decide +kernel, by decide +kernel⟩
abbrev s_check_sight : Stmt := topS 8
theorem sc_check_sight : FnScope ["value"] ["value"] (defScope s_check_sight) := ⟨rfl, rfl, rfl, by decide +kernel, rfl, by decide +kernel, by decide +kernel⟩
abbrev s_Eye___init__ : Stmt := inClass (topS 44) 0
theorem sc_Eye___init__ : FnScope ["self", "room", "regulator", "sight"] ["self", "room", "regulator", "sight"] (defScope s_Eye___init__) := ⟨rfl, rfl, rfl, by decide +kernel, rfl, by decide +kernel, by decide +kernel⟩
abbrev s_mark_of : Stmt := topS 30
theorem sc_mark_of : FnScope ["state", "sight"] ["state", "sight"] (defScope s_mark_of) := ⟨rfl, rfl, rfl, by decide +kernel, rfl, by decide +kernel, by decide +kernel⟩
abbrev s_Eye_following : Stmt := inClass (topS 44) 2
theorem sc_Eye_following : FnScope ["self", "state", "found", "weather", "after"] ["self", "state"] (defScope s_Eye_following) := ⟨rfl, rfl, rfl, by decide +kernel, rfl, by decide +kernel, by decide +kernel⟩
abbrev s_Eye_after : Stmt := inClass (topS 44) 3
theorem sc_Eye_after : FnScope ["self", "states", "found", "state", "mark", "later"] ["self", "states"] (defScope s_Eye_after) := ⟨rfl, rfl, rfl, by decide +kernel, rfl, by decide +kernel, by decide +kernel⟩
abbrev s_Eye_begun : Stmt := inClass (topS 44) 1
theorem sc_Eye_begun : FnScope ["self"] ["self"] (defScope s_Eye_begun) := ⟨rfl, rfl, rfl, by decide +kernel, rfl, by decide +kernel, by decide +kernel⟩
abbrev s_marks_apart : Stmt := topS 46
theorem sc_marks_apart : FnScope ["room", "one", "other", "sight", "both", "eyes", "found", "here", "known", "mine", "yours", "marks", "nexts", "mark", "after"] ["room", "one", "other", "sight", "both"] (defScope s_marks_apart) := ⟨rfl, rfl, rfl, by decide +kernel, rfl, by decide +kernel, by decide +kernel⟩
abbrev s_spoken_classes : Stmt := topS 47
theorem sc_spoken_classes : FnScope ["room", "family", "sight", "found", "place", "one", "alike", "group"] ["room", "family", "sight"] (defScope s_spoken_classes) := ⟨rfl, rfl, rfl, by decide +kernel, rfl, by decide +kernel, by decide +kernel⟩
abbrev s__law_narrow : Stmt := topS 62
theorem sc__law_narrow : FnScope ["room", "regulator", "row", "narrow", "plain", "look", "switches", "k", "stay", "clicks"] ["room", "regulator", "row"] (defScope s__law_narrow) := ⟨rfl, rfl, rfl, by decide +kernel, rfl, by decide +kernel, by decide +kernel⟩
abbrev s__law_pick : Stmt := topS 58
theorem sc__law_pick : FnScope ["draws", "choices"] ["draws", "choices"] (defScope s__law_pick) := ⟨rfl, rfl, rfl, by decide +kernel, rfl, by decide +kernel, by decide +kernel⟩
abbrev s__law_regulator : Stmt := topS 60
theorem sc__law_regulator : FnScope ["draws", "room", "low", "wide", "kind", "found"] ["draws", "room"] (defScope s__law_regulator) := ⟨rfl, rfl, rfl, by decide +kernel, rfl, by decide +kernel, by decide +kernel⟩
abbrev s__law_row : Stmt := topS 61
theorem sc__law_row : FnScope ["draws", "longest", "found", "most"] ["draws", "longest"] (defScope s__law_row) := ⟨rfl, rfl, rfl, by decide +kernel, rfl, by decide +kernel, by decide +kernel⟩
abbrev s_law : Stmt := topS 63
theorem sc_law : FnScope ["script", "draws", "room", "regulator", "row", "higher", "other", "along", "fits", "heat", "shifted", "roomy", "switch", "memory"] ["script"] (defScope s_law) := ⟨rfl, rfl, rfl, by decide +kernel, rfl, by decide +kernel, by decide +kernel⟩
/-! ### facts of the top -/
structure Mf (K : PySem.W.Frag) (w : World) (mg : Str → Option Value) (x : Xc) (ds : Str → Addr) (ec : Addr) : Prop where
  ek : EyK K (eyC ec)
  m_list : mg "list" = none
  m_len : mg "len" = none
  m_isinstance : mg "isinstance" = none
  m_int : mg "int" = none
  m_bool : mg "bool" = none
  m_tuple : mg "tuple" = none
  m_str : mg "str" = none
  m_all : mg "all" = none
  m_min : mg "min" = none
  m_max : mg "max" = none
  m_range : mg "range" = none
  m_abs : mg "abs" = none
  m_enumerate : mg "enumerate" = none
  m_dict : mg "dict" = none
  m_sorted : mg "sorted" = none
  m_set : mg "set" = none
  x_BadRoom : XCls K mg "BadRoom" x.badRoom
  x_BadRegulator : XCls K mg "BadRegulator" x.badRegulator
  x_BadWeather : XCls K mg "BadWeather" x.badWeather
  x_BadNumber : XCls K mg "BadNumber" x.badNumber
  k_SIZES : mg "SIZES" = some (.ref (ds "SIZES")) ∧ KTab K w (ds "SIZES") l_SIZES
  c_MOST_ROW : ∃ u, mg "MOST_ROW" = some u ∧ RelV (.int 60) u
  c_WEATHERS : KFlat K mg "WEATHERS" ds_WEATHERS
section
variable {P : Program} {w : World} {K : PySem.W.Frag} {mg : Str → Option Value} {base : Heap} {x : Xc} {ds : Str → Addr} {ec : Addr}
theorem same_none {H H1 : Hp} {p : Addr} (sm : Same H H1) (h : H1 p = none) : H p = none := by
  cases e : H p with
  | none => rfl
  | some o => rw [sm p o e] at h; cases h
theorem fd__law_start {f : Addr} {fd : FuncData} (F : Fun K "_law_start" "_law_start" s__law_start f fd) (ml : mg "list" = none) : FnOk P w K mg base (L2.CX P w) 1 f fd ["script"] (spStart K) := by
  refine F.okX sc__law_start (fun vs H Q E h => ?_) (fun cdv A outer s H vs Q E hr h => ?_)
  · obtain ⟨a, ns, rfl, _⟩ := h
    rfl
  · obtain ⟨a, ns, rfl, hS, hl, q⟩ := h
    refine ⟨_, pss_one (ps_ret (pe_lst (pa_cons (pe_ifExp (pt_cmpR (L2.op_neD hr.units) (pv 0) (pe_lst pa_nil) (nomark _)) (pe_callTy call_list_of rfl ml boot_list (pa_cons (pv 0) pa_nil)) (pe_lst (pa_cons pe_int pa_nil))) (pa_cons pe_int pa_nil)))), ?_⟩
    refine ⟨.ref a, rfl, Nat.zero_le _, fun e ne => ?_⟩
    have s1 : Same H (upd H e (.lst [])) := same_upd ne
    have sh : (D.list (ns.map D.int)).sh 64 := sh_list (n := 63) fun d hd => by
      obtain ⟨i, _, rfl⟩ := List.mem_map.mp hd
      exact sh_int' _ i
    have dp : ∀ (ns : List Int) (H : Hp), DpAll K H (ns.map V.int) (D.pys (ns.map D.int)) := fun ns H => by
      induction ns with
      | nil => exact .nil
      | cons n r ih => exact .cons (.int n) ih
    refine ⟨(D.list (ns.map D.int)).py, (D.list []).py, .lst (s1.seq hS) (dp ns _), .lst (SqL.of upd_same) .nil, sh.shaped, rfl, _, rfl, ?_⟩
    have fin : ∀ (H1 : Hp) (l : Addr) (xs : List Int), Same H H1 → H1 l = none → 0 < xs.length → xs.length ≤ 63 → 2 ≤ sizeLine ∧ ∀ p, (upd H1 l (.lst (xs.map V.int))) p = none → Q (.ref p) (upd (upd H1 l (.lst (xs.map V.int))) p (.lst [.ref l, .int 0])) := fun H1 l xs sm nl h0 h6 => ⟨by decide, fun p np => by
      have npl : p ≠ l := fun z => by rw [z, upd_same] at np; cases np
      have np1 : H1 p = none := by rw [upd_ne npl] at np; exact np
      refine q _ p l ((sm.trans (same_upd nl)).trans (same_upd np)) (same_none sm np1) (same_none sm nl) ⟨0, xs, upd_same, by rw [upd_ne npl.symm, upd_same], h0, h6, Int.le_refl _⟩⟩
    cases ns with
    | nil =>
      refine ite_f rfl ?_
      refine ⟨by decide, fun l nl => ?_⟩
      exact fin _ l [0] s1 nl (by decide) (by decide)
    | cons n r =>
      refine ite_t rfl ?_
      refine ⟨.ref a, rfl, a, _, rfl, .inl (s1.seq hS), fun l nl => ?_⟩
      exact fin _ l (n :: r) s1 nl (Nat.succ_pos _) hl
theorem fd__law_draw {f : Addr} {fd : FuncData} (F : Fun K "_law_draw" "_law_draw" s__law_draw f fd) (hm : mg "_law_draw" = some (.ref f)) (ml : mg "len" = none) : FnT P w K mg base 1 "_law_draw" 1 sp__law_draw := by
  refine ⟨⟨f, fd, ["draws", "limit"], F.okX sc__law_draw (fun vs H Q E h => ?_) (fun cdv A outer s H vs Q E hr h => ?_), hm, F.kp, F.binds (ps := ["draws", "limit"]) fun _ _ _ _ _ _ us hl => match us, hl with | [_, _], _ => rfl⟩, mo_draw⟩
  · obtain ⟨M, g, nn, us, ds, rfl, _, _, _, _, p, l, rfl, _⟩ := h
    rw [List.length_cons, HC.RpA.length p]
    rfl
  · obtain ⟨M, g, n, us, ds, rfl, dm, mg', mn, tok, p, l, rfl, l0, l1, q⟩ := h
    obtain ⟨v, rfl, p1⟩ : ∃ v, us = [v] ∧ Rp K P w M H v (.int l) := by
      cases p with
      | cons a b => cases b; exact ⟨_, rfl, a⟩
    cases p1
    have nd := sc__law_draw.nd
    refine ⟨_, pss_cons (ps_set (i := 2) nd rfl (.inl rfl) (pe_ix ix_list (pv 0) pe_int (fun _ _ => rfl)))
      (pss_cons (ps_asg (pe_op op_add (pe_ix ix_list (pv 0) pe_int (fun _ _ => rfl)) pe_int) (pg_sub (pv 0) pe_int set_list))
      (pss_cons (ps_set (i := 3) nd rfl (.inl rfl) (pe_op op_mod (pe_ix ix_list (pv 0) pe_int (fun _ _ => rfl)) (pe_callB call_len_seq rfl ml PySem.boot_len (pa_cons (pv 2) pa_nil))))
      (pss_cons (ps_set (i := 4) nd rfl (.inl rfl) (pe_ix ix_list (pv 2) (pv 3) (fun _ _ => rfl)))
      (pss_cons (ps_if (pt_cmpR op_ge (pv 4) pe_int (nomark _))
        (pss_cons (ps_asg (pe_op op_fdiv (pv 4) (pv 1)) (pg_sub (pv 2) (pv 3) set_list)) (pss_one (ps_ret (pe_op op_mod (pv 4) (pv 1))))) pss_nil)
      (pss_cons (ps_set (i := 5) nd rfl (.inl rfl) (pe_op op_mod (pe_op op_add (pv 4) (pe_op op_mul pe_int (pe_ix ix_list (pv 0) pe_int (fun _ _ => rfl)))) pe_int))
      (pss_cons (ps_set (i := 5) nd rfl (.inl rfl) (pe_op op_mod (pe_op op_pow (pv 5) pe_int) pe_int))
      (pss_one (ps_ret (pe_op op_mod (pe_op op_fdiv (pe_op op_mod (pe_op op_add (pe_op op_mul (pe_op op_fdiv (pv 5) pe_int) pe_int) (pv 5)) pe_int) pe_int) (pv 1)))))))))), ?_⟩
    obtain ⟨k, xs, e1, e2, h0, h6, hk⟩ := tok.ok
    have ngn : n ≠ g := fun z => by
      rw [z, e1] at e2
      injection e2 with e2
      injection e2 with e2
      cases xs with
      | nil => cases e2
      | cons a b => cases e2
    have f1 : (upd H g (.lst [.ref n, .int (k + 1)])) n = some (.lst (xs.map V.int)) := by rw [upd_ne ngn]; exact e2
    have em : ((k + 1) % (((xs.map V.int).length : Nat) : Int)).toNat < xs.length ∧ 0 ≤ (k + 1) % (((xs.map V.int).length : Nat) : Int) := by
      rw [List.length_map]
      have a := Int.emod_nonneg (k + 1) (b := (xs.length : Int)) (by omega)
      have b := Int.emod_lt_of_pos (k + 1) (b := (xs.length : Int)) (by omega)
      omega
    have hat : atI (xs.map V.int) ((k + 1) % (((xs.map V.int).length : Nat) : Int)) = some (.int (xs[((k + 1) % (((xs.map V.int).length : Nat) : Int)).toNat]'em.1)) := by
      have := atI_nat (xs := xs.map V.int) (j := ((k + 1) % (((xs.map V.int).length : Nat) : Int)).toNat) (v := .int (xs[((k + 1) % (((xs.map V.int).length : Nat) : Int)).toNat]'em.1)) (by
        rw [List.getElem?_map, List.getElem?_eq_getElem em.1]; rfl)
      rwa [Int.toNat_of_nonneg em.2] at this
    have hix : ixN (xs.map V.int).length ((k + 1) % (((xs.map V.int).length : Nat) : Int)) = some ((k + 1) % (((xs.map V.int).length : Nat) : Int)).toNat := by
      unfold ixN
      rw [if_pos em.2, if_pos (by have := em.1; rw [List.length_map] at *; omega)]
    generalize xs[((k + 1) % (((xs.map V.int).length : Nat) : Int)).toNat]'em.1 = cell at hat
    have hlen : (0 : Int) < (((xs.map V.int).length : Nat) : Int) := by rw [List.length_map]; omega
    refine ⟨.ref g, rfl, g, _, 0, .ref n, rfl, rfl, SqL.of e1, atI_nat (j := 0) rfl, ?_⟩
    refine ⟨.ref g, rfl, g, _, 1, .int k, rfl, rfl, SqL.of e1, atI_nat (j := 1) rfl, k, 1, rfl, rfl, .ref g, rfl, g, _, 1, 1, rfl, rfl, e1, rfl, ?_⟩
    refine ⟨.ref g, rfl, g, _, 1, .int (k + 1), rfl, rfl, SqL.of upd_same, atI_nat (j := 1) rfl, .ref n, rfl, n, _, rfl, .inl (SqL.of f1), k + 1, _, rfl, rfl, hlen, ?_⟩
    refine ⟨.ref n, rfl, .int _, rfl, n, _, _, .int cell, rfl, rfl, SqL.of f1, hat, ?_⟩
    have kp : ∀ a o, a ≠ g → a ≠ n → H a = some o → (upd H g (.lst [.ref n, .int (k + 1)])) a = some o := fun a o n1 n2 e => by rw [upd_ne n1]; exact e
    refine ⟨.int cell, rfl, _, _, rfl, rfl, _, rfl, ite2 (fun hc => ?_) (fun hc => ?_)⟩
    · refine ⟨.int cell, rfl, .int l, rfl, _, _, rfl, rfl, ⟨l0, l1⟩, .ref n, rfl, .int _, rfl, n, _, _, _, rfl, rfl, f1, hix, ?_⟩
      refine ⟨.int cell, rfl, .int l, rfl, _, _, rfl, rfl, l0, ?_⟩
      refine q _ (Int.emod_nonneg _ (by omega)) (Int.emod_lt_of_pos _ l0) _ _ (fun a o n1 n2 e => by rw [upd_ne n2]; exact kp a o n1 n2 e) ⟨k + 1, xs.set _ (cell / l), (by rw [upd_ne ngn.symm]; exact upd_same), by rw [upd_same, List.map_set], by rw [List.length_set]; exact h0, by rw [List.length_set]; exact h6, by omega⟩ (.int _)
    · refine ⟨.int cell, rfl, .ref g, rfl, g, _, 1, .int (k + 1), rfl, rfl, SqL.of upd_same, atI_nat (j := 1) rfl, _, _, rfl, rfl, .inl ⟨by decide, by decide⟩, _, _, rfl, rfl, _, _, rfl, rfl, (by show (0 : Int) < 4294967291; decide), ?_⟩
      have b1 := Int.emod_nonneg (cell + 104729 * (k + 1)) (b := 4294967291) (by omega)
      have b2 := Int.emod_lt_of_pos (cell + 104729 * (k + 1)) (b := 4294967291) (by omega)
      refine ⟨.int ((cell + 104729 * (k + 1)) % 4294967291), rfl, _, _, rfl, rfl, ⟨by decide, by decide, (by
        show ((cell + 104729 * (k + 1)) % 4294967291).natAbs < 2 ^ 64
        omega)⟩, _, _, rfl, rfl, (by show (0 : Int) < 4294967279; decide), ?_⟩
      refine ⟨.int (((cell + 104729 * (k + 1)) % 4294967291) ^ (5 : Int).toNat % 4294967279), rfl, _, _, rfl, rfl, ⟨by decide, by decide⟩, _, _, rfl, rfl, .inr ⟨by decide, by decide⟩, .int (((cell + 104729 * (k + 1)) % 4294967291) ^ (5 : Int).toNat % 4294967279), rfl, _, _, rfl, rfl, _, _, rfl, rfl, (by show (0 : Int) < 4294967231; decide), _, _, rfl, rfl, ⟨by decide, by decide⟩, .int l, rfl, _, _, rfl, rfl, l0, ?_⟩
      exact q _ (Int.emod_nonneg _ (by omega)) (Int.emod_lt_of_pos _ l0) _ _ kp ⟨k + 1, xs, upd_same, f1, h0, h6, by omega⟩ (.int _)
theorem fd__law_room {f : Addr} {fd : FuncData} (M : Mf K w mg x ds ec) (F : Fun K "_law_room" "_law_room" s__law_room f fd) (hm : mg "_law_room" = some (.ref f)) (F__law_draw : FnT P w K mg base 1 "_law_draw" 1 sp__law_draw) : FnT P w K mg base 2 "_law_room" 0 sp__law_room :=
  fn_T (k := 1) F sc__law_room (mo__law_room) rfl rfl hm (F.binds (ps := ["draws"]) fun _ _ _ _ _ _ us hl => match us, hl with | [_], _ => rfl) (fun cdv A outer s H E C W G tk nob => (dss_cons (ds_asg 1 G (dv_op (op_addD G.fit) dv_int.q (dv_callT 0 G F__law_draw (dav_cons dv_int dav_nil)).q).x)
    (dss_one (ds_ret (dv_tup (dav_cons (dv_var 1) (dav_cons (dv_callT 0 G F__law_draw (dav_cons (dv_op (op_addD G.fit) (de_peek 1) dv_int.q) dav_nil)) (dav_cons (dv_op (op_addD G.fit) dv_int.q (dv_callT 0 G F__law_draw (dav_cons dv_int dav_nil)).q) dav_nil)))))))) (sem__law_room)
theorem fd_is_int {f : Addr} {fd : FuncData} (M : Mf K w mg x ds ec) (F : Fun K "is_int" "is_int" s_is_int f fd) (hm : mg "is_int" = some (.ref f)) : FnD P w K mg base 1 "is_int" 3 sp_is_int :=
  fn_D (k := 0) F sc_is_int (mo_is_int) rfl hm (F.binds (ps := ["value", "low", "high"]) fun _ _ _ _ _ _ us hl => match us, hl with | [_, _, _], _ => rfl) (fun cdv A outer s H E C W G tk nob => (dss_one (ds_ret (dv_and (dv_isi G (de_peek 0) M.m_isinstance M.m_int boot_int').q (dv_and (dv_not (dv_isi G (de_peek 0) M.m_isinstance M.m_bool boot_bool').q).q (dv_one (dv_chain (op_leD G.fit) (op_leD G.fit) (de_peek 1) (de_peek 0) (de_peek 2)))))))) (sem_is_int)
theorem fd_is_room {f : Addr} {fd : FuncData} (M : Mf K w mg x ds ec) (F : Fun K "is_room" "is_room" s_is_room f fd) (hm : mg "is_room" = some (.ref f)) (F_is_int : FnD P w K mg base 1 "is_int" 3 sp_is_int) : FnD P w K mg base 2 "is_room" 1 sp_is_room :=
  fn_D (k := 1) F sc_is_room (mo_is_room) rfl hm (F.binds (ps := ["value"]) fun _ _ _ _ _ _ us hl => match us, hl with | [_], _ => rfl) (fun cdv A outer s H E C W G tk nob => (dss_cons (ds_if (dw_or (dt_not (dt_val (dv_isi G (de_peek 0) M.m_isinstance M.m_tuple boot_tuple').q)) (dw_or (dt_cmp (op_neD' G.hu G.fit) (dv_callB (b_len G.fit) (daq_cons (de_peek 0) daq_nil) M.m_len boot_len').q dv_int.q) (dw_or1 (dt_not (dt_val (dv_call G F_is_int (dav_cons (dv_ix G (de_peek 0) dv_int.q) (dav_cons dv_int (dav_cons dv_int dav_nil)))).q))))).t (dss_one (ds_ret dv_bl)) dss_nil)
    (dss_one (ds_ret (dv_and (dv_call G F_is_int (dav_cons (dv_ix G (de_peek 0) dv_int.q) (dav_cons dv_int (dav_cons (dv_ix G (de_peek 0) dv_int.q) dav_nil)))).q (dv_one (dv_call G F_is_int (dav_cons (dv_ix G (de_peek 0) dv_int.q) (dav_cons dv_int (dav_cons dv_int dav_nil)))))))))) (sem_is_room)
theorem fd_check_room {f : Addr} {fd : FuncData} (M : Mf K w mg x ds ec) (F : Fun K "check_room" "check_room" s_check_room f fd) (hm : mg "check_room" = some (.ref f)) (F_is_room : FnD P w K mg base 2 "is_room" 1 sp_is_room) : FnD P w K mg base 3 "check_room" 1 (sp_check_room x) :=
  fn_D (k := 2) F sc_check_room (mo_check_room x) rfl hm (F.binds (ps := ["value"]) fun _ _ _ _ _ _ us hl => match us, hl with | [_], _ => rfl) (fun cdv A outer s H E C W G tk nob => (dss_one (ds_if (dt_not (dt_val (dv_call G F_is_room (dav_cons (dv_var 0) dav_nil)).q)) (dss_one (ds_raise G tk M.x_BadRoom)) dss_nil))) (sem_check_room x)
theorem fd_is_for {f : Addr} {fd : FuncData} (M : Mf K w mg x ds ec) (F : Fun K "is_for" "is_for" s_is_for f fd) (hm : mg "is_for" = some (.ref f)) (F_is_int : FnD P w K mg base 1 "is_int" 3 sp_is_int) : FnD P w K mg base 2 "is_for" 2 sp_is_for :=
  fn_D (k := 1) F sc_is_for (mo_is_for) rfl hm (F.binds (ps := ["value", "top"]) fun _ _ _ _ _ _ us hl => match us, hl with | [_, _], _ => rfl) (fun cdv A outer s H E C W G tk nob => (dss_cons (ds_if (dw_or (dt_not (dt_val (dv_isi G (de_peek 0) M.m_isinstance M.m_tuple boot_tuple').q)) (dw_or (dt_cmp (op_eqD' G.hu G.fit) (dv_callB (b_len G.fit) (daq_cons (de_peek 0) daq_nil) M.m_len boot_len').q dv_int.q) (dw_or (dt_not (dt_val (dv_isi G (dv_ix G (de_peek 0) dv_int.q).q M.m_isinstance M.m_str boot_str').q)) (dw_or1 (dt_tabNotIn M.k_SIZES.2 (dv_ix G (de_peek 0) dv_int.q).q M.k_SIZES.1))))).t (dss_one (ds_ret dv_bl)) dss_nil)
    (dss_cons (ds_if (dw_or (dt_cmp (op_neD' G.hu G.fit) (dv_callB (b_len G.fit) (daq_cons (de_peek 0) daq_nil) M.m_len boot_len').q (dv_tabAt (es := []) M.k_SIZES.2 (dv_ix G (de_peek 0) dv_int.q).q M.k_SIZES.1).q) (dw_or (dt_not (dt_val (dv_call G F_is_int (dav_cons (dv_ix G (de_peek 0) dv_int.q) (dav_cons dv_int (dav_cons (dv_var 1) dav_nil)))).q)) (dw_or1 (dt_not (dt_val (dv_call G F_is_int (dav_cons (dv_ix G (de_peek 0) dv_int.q) (dav_cons (dv_op (op_addD G.fit) (dv_ix G (de_peek 0) dv_int.q).q dv_int.q) (dav_cons (dv_var 1) dav_nil)))).q))))).t (dss_one (ds_ret dv_bl)) dss_nil)
    (dss_one (ds_ret (dv_or (dv_cmp (op_eqD' G.hu G.fit) (dv_callB (b_len G.fit) (daq_cons (de_peek 0) daq_nil) M.m_len boot_len').q dv_int.q).q (dv_one (dv_call G F_is_int (dav_cons (dv_ix G (de_peek 0) dv_int.q) (dav_cons dv_int (dav_cons dv_int dav_nil))))))))))) (sem_is_for)
theorem fd_check_regulator {f : Addr} {fd : FuncData} (M : Mf K w mg x ds ec) (F : Fun K "check_regulator" "check_regulator" s_check_regulator f fd) (hm : mg "check_regulator" = some (.ref f)) (F_check_room : FnD P w K mg base 3 "check_room" 1 (sp_check_room x)) (F_is_for : FnD P w K mg base 2 "is_for" 2 sp_is_for) : FnD P w K mg base 4 "check_regulator" 2 (sp_check_regulator x) :=
  fn_D (k := 3) F sc_check_regulator (mo_check_regulator x) rfl hm (F.binds (ps := ["room", "value"]) fun _ _ _ _ _ _ us hl => match us, hl with | [_, _], _ => rfl) (fun cdv A outer s H E C W G tk nob => (dss_cons (ds_expr (dv_call G F_check_room (dav_cons (dv_var 0) dav_nil)).q)
    (dss_one (ds_if (dt_not (dt_val (dv_call G F_is_for (dav_cons (dv_var 1) (dav_cons (dv_ix G (de_peek 0) dv_int.q) dav_nil))).q)) (dss_one (ds_raise G tk M.x_BadRegulator)) dss_nil)))) (sem_check_regulator x)
theorem fd_is_weather {f : Addr} {fd : FuncData} (M : Mf K w mg x ds ec) (F : Fun K "is_weather" "is_weather" s_is_weather f fd) (hm : mg "is_weather" = some (.ref f)) (F_is_int : FnD P w K mg base 1 "is_int" 3 sp_is_int) : FnD P w K mg base 2 "is_weather" 1 sp_is_weather :=
  fn_D (k := 1) F sc_is_weather (mo_is_weather) rfl hm (F.binds (ps := ["value"]) fun _ _ _ _ _ _ us hl => match us, hl with | [_], _ => rfl) (fun cdv A outer s H E C W G tk nob => (dss_one (ds_ret (dv_call G F_is_int (dav_cons (dv_var 0) (dav_cons dv_int (dav_cons dv_int dav_nil))))))) (sem_is_weather)
theorem fd_is_row {f : Addr} {fd : FuncData} (M : Mf K w mg x ds ec) (F : Fun K "is_row" "is_row" s_is_row f fd) (hm : mg "is_row" = some (.ref f)) (F_is_weather : FnD P w K mg base 2 "is_weather" 1 sp_is_weather) : FnD P w K mg base 3 "is_row" 1 sp_is_row :=
  fn_D (k := 2) F sc_is_row (mo_is_row) rfl hm (F.binds (ps := ["value"]) fun _ _ _ _ _ _ us hl => match us, hl with | [_], _ => rfl) (fun cdv A outer s H E C W G tk nob => (dss_one (ds_ret (dv_and (dv_isi G (de_peek 0) M.m_isinstance M.m_list boot_list').q (dv_and (dv_cmp (op_leD G.fit) (dv_callB (b_len G.fit) (daq_cons (de_peek 0) daq_nil) M.m_len boot_len').q (dv_globI M.c_MOST_ROW).q).q (dv_one (dv_callB (b_all G) (daq_cons (dn_comp [("one", 1)] G (di_seq G (dv_var 0)) (blkOk_by (N := ["value", "one"]) (sc := defScope s_is_row) (by decide +kernel)) (fun _ _ _ _ _ G1 => (dg_name 1 G1.nd)) (fun _ _ _ _ _ _ => dts_nil) (fun _ _ _ _ _ G1 => (dv_call G1 F_is_weather (dav_cons (dv_var 1) dav_nil)))).v.q daq_nil) M.m_all boot_all'))))))) (sem_is_row)
theorem fd_check_row {f : Addr} {fd : FuncData} (M : Mf K w mg x ds ec) (F : Fun K "check_row" "check_row" s_check_row f fd) (hm : mg "check_row" = some (.ref f)) (F_is_row : FnD P w K mg base 3 "is_row" 1 sp_is_row) : FnD P w K mg base 4 "check_row" 1 (sp_check_row x) :=
  fn_D (k := 3) F sc_check_row (mo_check_row x) rfl hm (F.binds (ps := ["value"]) fun _ _ _ _ _ _ us hl => match us, hl with | [_], _ => rfl) (fun cdv A outer s H E C W G tk nob => (dss_one (ds_if (dt_not (dt_val (dv_call G F_is_row (dav_cons (dv_var 0) dav_nil)).q)) (dss_one (ds_raise G tk M.x_BadWeather)) dss_nil))) (sem_check_row x)
theorem fd_first_state {f : Addr} {fd : FuncData} (M : Mf K w mg x ds ec) (F : Fun K "first_state" "first_state" s_first_state f fd) (hm : mg "first_state" = some (.ref f)) : FnD P w K mg base 1 "first_state" 1 sp_first_state :=
  fn_D (k := 0) F sc_first_state (mo_first_state) rfl hm (F.binds (ps := ["room"]) fun _ _ _ _ _ _ us hl => match us, hl with | [_], _ => rfl) (fun cdv A outer s H E C W G tk nob => (dss_one (ds_ret (dv_tup (dav_cons (dv_ix G (de_peek 0) dv_int.q) (dav_cons dv_int (dav_cons dv_int dav_nil))))))) (sem_first_state)
theorem fd_warmed {f : Addr} {fd : FuncData} (M : Mf K w mg x ds ec) (F : Fun K "warmed" "warmed" s_warmed f fd) (hm : mg "warmed" = some (.ref f)) : FnD P w K mg base 1 "warmed" 4 sp_warmed :=
  fn_D (k := 0) F sc_warmed (mo_warmed) rfl hm (F.binds (ps := ["room", "heat", "switch", "weather"]) fun _ _ _ _ _ _ us hl => match us, hl with | [_, _, _, _], _ => rfl) (fun cdv A outer s H E C W G tk nob => (dss_one (ds_ret (dv_callB (b_min G) (daq_cons (dv_ix G (de_peek 0) dv_int.q).q (daq_cons (dv_callB (b_max G) (daq_cons dv_int.q (daq_cons (dv_op (op_addD G.fit) (dv_op (op_subD G.fit) (de_peek 1) (de_peek 3)).q (dv_if (dt_cmp (op_eqD' G.hu G.fit) (de_peek 2) dv_int.q) (dv_ix G (de_peek 0) dv_int.q) dv_int).q).q daq_nil)) M.m_max boot_max').q daq_nil)) M.m_min boot_min')))) (sem_warmed)
theorem fd_decided {f : Addr} {fd : FuncData} (M : Mf K w mg x ds ec) (F : Fun K "decided" "decided" s_decided f fd) (hm : mg "decided" = some (.ref f)) : FnD P w K mg base 1 "decided" 4 sp_decided :=
  fn_D (k := 0) F sc_decided (mo_decided) rfl hm (F.binds (ps := ["heat", "low", "high", "switch"]) fun _ _ _ _ _ _ us hl => match us, hl with | [_, _, _, _], _ => rfl) (fun cdv A outer s H E C W G tk nob => (dss_cons (ds_if (dt_cmp (op_leD G.fit) (de_peek 0) (de_peek 1)) (dss_one (ds_ret dv_int)) dss_nil)
    (dss_one (ds_ret (dv_if (dt_cmp (op_geD G.fit) (de_peek 0) (de_peek 2)) dv_int (dv_var 3)))))) (sem_decided)
theorem fd_set_switch {f : Addr} {fd : FuncData} (M : Mf K w mg x ds ec) (F : Fun K "set_switch" "set_switch" s_set_switch f fd) (hm : mg "set_switch" = some (.ref f)) (F_decided : FnD P w K mg base 1 "decided" 4 sp_decided) : FnD P w K mg base 2 "set_switch" 5 sp_set_switch :=
  fn_D (k := 1) F sc_set_switch (mo_set_switch) rfl hm (F.binds (ps := ["regulator", "before", "heat", "switch", "memory"]) fun _ _ _ _ _ _ us hl => match us, hl with | [_, _, _, _, _], _ => rfl) (fun cdv A outer s H E C W G tk nob => (dss_cons (ds_unp (dv_slice G.fit (de_peek 0) do_none (do_some dv_int.q)) (dg_tup G (dgs_cons (dg_name 5 G.nd) (dgs_cons (dg_name 6 G.nd) (dgs_cons (dg_name 7 G.nd) dgs_nil)))))
    (dss_cons (ds_if (dt_cmp (op_eqD' G.hu G.fit) (de_peek 5) dv_str.q) (dss_one (ds_ret (dv_tup (dav_cons (dv_call G F_decided (dav_cons (dv_var 2) (dav_cons (dv_var 6) (dav_cons (dv_var 7) (dav_cons (dv_var 3) dav_nil))))) (dav_cons dv_int dav_nil))))) dss_nil)
    (dss_cons (ds_if (dt_cmp (op_eqD' G.hu G.fit) (de_peek 5) dv_str.q) (dss_one (ds_ret (dv_tup (dav_cons (dv_call G F_decided (dav_cons (dv_var 1) (dav_cons (dv_var 6) (dav_cons (dv_var 7) (dav_cons (dv_var 3) dav_nil))))) (dav_cons dv_int dav_nil))))) dss_nil)
    (dss_cons (ds_if (dt_cmp (op_eqD' G.hu G.fit) (de_peek 5) dv_str.q) (dss_cons (ds_asg 8 G (dv_call G F_decided (dav_cons (dv_var 2) (dav_cons (dv_var 6) (dav_cons (dv_op (op_subD G.fit) (de_peek 7) (de_peek 4)) (dav_cons (dv_var 3) dav_nil))))).x)
    (dss_one (ds_ret (dv_tup (dav_cons (dv_var 8) (dav_cons (dv_if (dt_cmp (op_eqD' G.hu G.fit) (de_peek 8) dv_int.q) (dv_callB (b_min G) (daq_cons (dv_op (op_addD G.fit) (de_peek 4) dv_int.q).q (daq_cons (dv_op (op_subD G.fit) (dv_op (op_subD G.fit) (de_peek 7) (de_peek 6)).q dv_int.q).q daq_nil)) M.m_min boot_min') dv_int) dav_nil)))))) dss_nil)
    (dss_cons (ds_if (dt_cmp (op_gtD G.fit) (de_peek 4) dv_int.q) (dss_one (ds_ret (dv_tup (dav_cons (dv_var 3) (dav_cons (dv_op (op_subD G.fit) (de_peek 4) dv_int.q) dav_nil))))) dss_nil)
    (dss_cons (ds_asg 8 G (dv_call G F_decided (dav_cons (dv_var 2) (dav_cons (dv_var 6) (dav_cons (dv_var 7) (dav_cons (dv_var 3) dav_nil))))).x)
    (dss_one (ds_ret (dv_tup (dav_cons (dv_var 8) (dav_cons (dv_if (dw_or (dt_cmp (op_eqD' G.hu G.fit) (de_peek 5) dv_str.q) (dw_or1 (dt_cmp (op_neD' G.hu G.fit) (de_peek 8) (de_peek 3)))).t (dv_op (op_subD G.fit) (dv_ix G (de_peek 0) dv_int.q).q dv_int.q) dv_int) dav_nil)))))))))))) (sem_set_switch)
theorem fd_step {f : Addr} {fd : FuncData} (M : Mf K w mg x ds ec) (F : Fun K "step" "step" s_step f fd) (hm : mg "step" = some (.ref f)) (F_warmed : FnD P w K mg base 1 "warmed" 4 sp_warmed) (F_set_switch : FnD P w K mg base 2 "set_switch" 5 sp_set_switch) : FnD P w K mg base 3 "step" 4 sp_step :=
  fn_D (k := 2) F sc_step (mo_step) rfl hm (F.binds (ps := ["room", "regulator", "state", "weather"]) fun _ _ _ _ _ _ us hl => match us, hl with | [_, _, _, _], _ => rfl) (fun cdv A outer s H E C W G tk nob => (dss_cons (ds_unp (dv_var 2) (dg_tup G (dgs_cons (dg_name 4 G.nd) (dgs_cons (dg_name 5 G.nd) (dgs_cons (dg_name 6 G.nd) dgs_nil)))))
    (dss_cons (ds_asg 7 G (dv_call G F_warmed (dav_cons (dv_var 0) (dav_cons (dv_var 4) (dav_cons (dv_var 5) (dav_cons (dv_var 3) dav_nil))))).x)
    (dss_one (ds_ret (dv_op (op_addD G.fit) (dv_tup (dav_cons (dv_var 7) dav_nil)).q (dv_call G F_set_switch (dav_cons (dv_var 1) (dav_cons (dv_var 4) (dav_cons (dv_var 7) (dav_cons (dv_var 5) (dav_cons (dv_var 6) dav_nil)))))).q)))))) (sem_step)
theorem fd_states_of {f : Addr} {fd : FuncData} (M : Mf K w mg x ds ec) (F : Fun K "states_of" "states_of" s_states_of f fd) (hm : mg "states_of" = some (.ref f)) (F_first_state : FnD P w K mg base 1 "first_state" 1 sp_first_state) (F_step : FnD P w K mg base 3 "step" 4 sp_step) : FnD P w K mg base 4 "states_of" 3 sp_states_of :=
  fn_D (k := 3) F sc_states_of (mo_states_of) rfl hm (F.binds (ps := ["room", "regulator", "row"]) fun _ _ _ _ _ _ us hl => match us, hl with | [_, _, _], _ => rfl) (fun cdv A outer s H E C W G tk nob => (dss_cons (ds_asg 3 G (dn_lst (dav_cons (dv_call G F_first_state (dav_cons (dv_var 0) dav_nil)) dav_nil)).x)
    (dss_cons (ds_for G (di_seq G (dv_var 2)) (dg_name 4 G.nd) (dss_one (ds_app 3 G (dv_call G F_step (dav_cons (dv_var 0) (dav_cons (dv_var 1) (dav_cons (dv_ix G (de_peek 3) (dv_neg dv_int.q).q) (dav_cons (dv_var 4) dav_nil))))))))
    (dss_one (ds_frz 3 (ds_ret (dv_var 3))))))) (sem_states_of)
theorem fd_states_along {f : Addr} {fd : FuncData} (M : Mf K w mg x ds ec) (F : Fun K "states_along" "states_along" s_states_along f fd) (hm : mg "states_along" = some (.ref f)) (F_check_regulator : FnD P w K mg base 4 "check_regulator" 2 (sp_check_regulator x)) (F_check_row : FnD P w K mg base 4 "check_row" 1 (sp_check_row x)) (F_states_of : FnD P w K mg base 4 "states_of" 3 sp_states_of) : FnD P w K mg base 5 "states_along" 3 (sp_states_along x) :=
  fn_D (k := 4) F sc_states_along (mo_states_along x) rfl hm (F.binds (ps := ["room", "regulator", "row"]) fun _ _ _ _ _ _ us hl => match us, hl with | [_, _, _], _ => rfl) (fun cdv A outer s H E C W G tk nob => (dss_cons (ds_expr (dv_call G F_check_regulator (dav_cons (dv_var 0) (dav_cons (dv_var 1) dav_nil))).q)
    (dss_cons (ds_expr (dv_call G F_check_row (dav_cons (dv_var 2) dav_nil)).q)
    (dss_one (ds_ret (dv_call G F_states_of (dav_cons (dv_var 0) (dav_cons (dv_var 1) (dav_cons (dv_var 2) dav_nil))))))))) (sem_states_along x)
theorem fd_run {f : Addr} {fd : FuncData} (M : Mf K w mg x ds ec) (F : Fun K "run" "run" s_run f fd) (hm : mg "run" = some (.ref f)) (F_states_along : FnD P w K mg base 5 "states_along" 3 (sp_states_along x)) : FnD P w K mg base 6 "run" 3 (sp_run x) :=
  fn_D (k := 5) F sc_run (mo_run x) rfl hm (F.binds (ps := ["room", "regulator", "row"]) fun _ _ _ _ _ _ us hl => match us, hl with | [_, _, _], _ => rfl) (fun cdv A outer s H E C W G tk nob => (dss_one (ds_ret (dn_comp [("state", 3)] G (di_seq G (dv_slice G.fit (dv_call G F_states_along (dav_cons (dv_var 0) (dav_cons (dv_var 1) (dav_cons (dv_var 2) dav_nil)))).q (do_some dv_int.q) do_none)) (blkOk_by (N := ["room", "regulator", "row", "state"]) (sc := defScope s_run) (by decide +kernel)) (fun _ _ _ _ _ G1 => (dg_name 3 G1.nd)) (fun _ _ _ _ _ _ => dts_nil) (fun _ _ _ _ _ G1 => (dv_ix G1 (de_peek 3) dv_int.q))).v))) (sem_run x)
theorem fd_check_two {f : Addr} {fd : FuncData} (M : Mf K w mg x ds ec) (F : Fun K "check_two" "check_two" s_check_two f fd) (hm : mg "check_two" = some (.ref f)) (F_check_regulator : FnD P w K mg base 4 "check_regulator" 2 (sp_check_regulator x)) : FnD P w K mg base 5 "check_two" 3 (sp_check_two x) :=
  fn_D (k := 4) F sc_check_two (mo_check_two x) rfl hm (F.binds (ps := ["room", "one", "other"]) fun _ _ _ _ _ _ us hl => match us, hl with | [_, _, _], _ => rfl) (fun cdv A outer s H E C W G tk nob => (dss_cons (ds_expr (dv_call G F_check_regulator (dav_cons (dv_var 0) (dav_cons (dv_var 1) dav_nil))).q)
    (dss_one (ds_expr (dv_call G F_check_regulator (dav_cons (dv_var 0) (dav_cons (dv_var 2) dav_nil))).q)))) (sem_check_two x)
theorem fd_parting_of {f : Addr} {fd : FuncData} (M : Mf K w mg x ds ec) (F : Fun K "parting_of" "parting_of" s_parting_of f fd) (hm : mg "parting_of" = some (.ref f)) (F_first_state : FnD P w K mg base 1 "first_state" 1 sp_first_state) (F_step : FnD P w K mg base 3 "step" 4 sp_step) : FnD P w K mg base 4 "parting_of" 3 sp_parting_of :=
  fn_D (k := 3) F sc_parting_of (mo_parting_of) rfl hm (F.binds (ps := ["room", "one", "other"]) fun _ _ _ _ _ _ us hl => match us, hl with | [_, _, _], _ => rfl) (fun cdv A outer s H E C W G tk nob => (dss_cons (ds_par2 3 4 G (dax_cons (dn_lst (dav_cons (dv_tup (dav_cons (dv_call G F_first_state (dav_cons (dv_var 0) dav_nil)) (dav_cons (dv_call G F_first_state (dav_cons (dv_var 0) dav_nil)) (dav_cons (dn_lst dav_nil).v dav_nil)))) dav_nil)).x (dax_cons dv_int.x dax_nil)))
    (dss_cons (ds_asg 5 G (dn_disp1 G (dv_slice G.fit (dv_ix G (de_peek 3) dv_int.q).q do_none (do_some dv_int.q)) dv_int).x)
    (dss_cons (ds_while G (dt_cmp (op_ltD G.fit) (de_peek 4) (dv_callB (b_len G.fit) (daq_cons (de_peek 3) daq_nil) M.m_len boot_len').q) (dss_cons (ds_unp (dv_ix G (de_peek 3) (de_peek 4)) (dg_tup G (dgs_cons (dg_name 6 G.nd) (dgs_cons (dg_name 7 G.nd) (dgs_cons (dg_name 8 G.nd) dgs_nil)))))
    (dss_cons (ds_for G (di_seq G (dv_globT G M.c_WEATHERS)) (dg_name 9 G.nd) (dss_cons (ds_asg 10 G (dv_tup (dav_cons (dv_call G F_step (dav_cons (dv_var 0) (dav_cons (dv_var 1) (dav_cons (dv_var 6) (dav_cons (dv_var 9) dav_nil))))) (dav_cons (dv_call G F_step (dav_cons (dv_var 0) (dav_cons (dv_var 2) (dav_cons (dv_var 7) (dav_cons (dv_var 9) dav_nil))))) dav_nil))).x)
    (dss_cons (ds_if (dt_cmp (op_neD' G.hu G.fit) (dv_ix G (dv_ix G (de_peek 10) dv_int.q).q dv_int.q).q (dv_ix G (dv_ix G (de_peek 10) dv_int.q).q dv_int.q).q) (dss_one (ds_ret (dv_op (op_addD G.fit) (de_peek 8) (dn_lst (dav_cons (dv_var 9) dav_nil)).v.q))) dss_nil)
    (dss_one (ds_if (dt_cmp (op_notInD' G.hu65 G.fit) (de_peek 10) (de_peek 5)) (dss_cons (ds_set 5 G dv_int (de_peek 10))
    (dss_one (ds_app 3 G (dv_op (op_addD G.fit) (de_peek 10) (dv_tup (dav_cons (dv_op (op_addD G.fit) (de_peek 8) (dn_lst (dav_cons (dv_var 9) dav_nil)).v.q) dav_nil)).q)))) dss_nil)))))
    (dss_one (ds_aug 4 G dv_int.q)))))
    (dss_one (ds_ret dv_none)))))) (sem_parting_of)
theorem fd_same {f : Addr} {fd : FuncData} (M : Mf K w mg x ds ec) (F : Fun K "same" "same" s_same f fd) (hm : mg "same" = some (.ref f)) (F_check_two : FnD P w K mg base 5 "check_two" 3 (sp_check_two x)) (F_parting_of : FnD P w K mg base 4 "parting_of" 3 sp_parting_of) : FnD P w K mg base 6 "same" 3 (sp_same x) :=
  fn_D (k := 5) F sc_same (mo_same x) rfl hm (F.binds (ps := ["room", "one", "other"]) fun _ _ _ _ _ _ us hl => match us, hl with | [_, _, _], _ => rfl) (fun cdv A outer s H E C W G tk nob => (dss_cons (ds_expr (dv_call G F_check_two (dav_cons (dv_var 0) (dav_cons (dv_var 1) (dav_cons (dv_var 2) dav_nil)))).q)
    (dss_one (ds_ret (dv_cmp (op_isD G.fit) (dv_call G F_parting_of (dav_cons (dv_var 0) (dav_cons (dv_var 1) (dav_cons (dv_var 2) dav_nil)))).q dv_none.q))))) (sem_same x)
theorem fd_heights_of {f : Addr} {fd : FuncData} (M : Mf K w mg x ds ec) (F : Fun K "heights_of" "heights_of" s_heights_of f fd) (hm : mg "heights_of" = some (.ref f)) : FnD P w K mg base 1 "heights_of" 2 sp_heights_of :=
  fn_D (k := 0) F sc_heights_of (mo_heights_of) rfl hm (F.binds (ps := ["table", "first"]) fun _ _ _ _ _ _ us hl => match us, hl with | [_, _], _ => rfl) (fun cdv A outer s H E C W G tk nob => (dss_cons (ds_asg 2 G (dn_lst (dav_cons (dn_disp1 G (dv_var 1) dv_int).v dav_nil)).x)
    (dss_cons (ds_for G (di_range1 (daq_cons (dv_callB (b_len G.fit) (daq_cons (de_peek 0) daq_nil) M.m_len boot_len').q daq_nil) M.m_range) (dg_name 3 G.nd) (dss_cons (ds_asg 4 G (dn_dictT G).x)
    (dss_cons (ds_for G (di_seq G (dv_ix G (de_peek 2) (dv_neg dv_int.q).q)) (dg_name 5 G.nd) (dss_one (ds_for G (di_seq G (dv_ix G (de_peek 0) (de_peek 5))) (dg_tup G (dgs_cons (dg_name 6 G.nd) (dgs_cons (dg_name 7 G.nd) (dgs_cons (dg_name 8 G.nd) dgs_nil)))) (dss_cons (ds_asg 9 G (dv_op (op_addD G.fit) (dv_ix G (dv_ix G (de_peek 2) (dv_neg dv_int.q).q).q (de_peek 5)).q (de_peek 6)).x)
    (dss_one (ds_if (dt_cmp (op_ltD G.fit) (dv_get G (de_peek 4) (de_peek 7) (dv_neg dv_int.q)).q (de_peek 9)) (dss_one (ds_set 4 G (dv_var 9) (de_peek 7))) dss_nil))))))
    (dss_one (ds_frz 4 (ds_app 2 G (dv_var 4)))))))
    (dss_one (ds_frz 2 (ds_ret (dv_var 2))))))) (sem_heights_of)
theorem fd_is_less {f : Addr} {fd : FuncData} (M : Mf K w mg x ds ec) (F : Fun K "is_less" "is_less" s_is_less f fd) (hm : mg "is_less" = some (.ref f)) : FnD P w K mg base 1 "is_less" 2 sp_is_less :=
  fn_D (k := 0) F sc_is_less (mo_is_less) rfl hm (F.binds (ps := ["one", "other"]) fun _ _ _ _ _ _ us hl => match us, hl with | [_, _], _ => rfl) (fun cdv A outer s H E C W G tk nob => (dss_one (ds_ret (dv_cmp (op_ltD G.fit) (dv_op (op_mulD G.fit) (dv_ix G (de_peek 0) dv_int.q).q (dv_ix G (de_peek 1) dv_int.q).q).q (dv_op (op_mulD G.fit) (dv_ix G (de_peek 1) dv_int.q).q (dv_ix G (de_peek 0) dv_int.q).q).q)))) (sem_is_less)
theorem fd_lowest {f : Addr} {fd : FuncData} (M : Mf K w mg x ds ec) (F : Fun K "lowest" "lowest" s_lowest f fd) (hm : mg "lowest" = some (.ref f)) : FnD P w K mg base 1 "lowest" 2 sp_lowest :=
  fn_D (k := 0) F sc_lowest (mo_lowest) rfl hm (F.binds (ps := ["top", "bottom"]) fun _ _ _ _ _ _ us hl => match us, hl with | [_, _], _ => rfl) (fun cdv A outer s H E C W G tk nob => (dss_cons (ds_par2 2 3 G (dax_cons (dv_callB (b_abs) (daq_cons (de_peek 0) daq_nil) M.m_abs boot_abs').x (dax_cons (dv_var 1).x dax_nil)))
    (dss_cons (ds_while G (dt_cmp (op_neD' G.hu G.fit) (de_peek 3) dv_int.q) (dss_one (ds_par2 2 3 G (dax_cons (dv_var 3).x (dax_cons (dv_op (op_modD G.fit) (de_peek 2) (de_peek 3)).x dax_nil)))))
    (dss_one (ds_ret (dv_tup (dav_cons (dv_op (op_divD G.fit) (de_peek 0) (de_peek 2)) (dav_cons (dv_op (op_divD G.fit) (de_peek 1) (de_peek 2)) dav_nil)))))))) (sem_lowest)
theorem fd_greatest_of {f : Addr} {fd : FuncData} (M : Mf K w mg x ds ec) (F : Fun K "greatest_of" "greatest_of" s_greatest_of f fd) (hm : mg "greatest_of" = some (.ref f)) (F_heights_of : FnD P w K mg base 1 "heights_of" 2 sp_heights_of) (F_is_less : FnD P w K mg base 1 "is_less" 2 sp_is_less) (F_lowest : FnD P w K mg base 1 "lowest" 2 sp_lowest) : FnD P w K mg base 2 "greatest_of" 2 sp_greatest_of :=
  fn_D (k := 1) F sc_greatest_of (mo_greatest_of) rfl hm (F.binds (ps := ["table", "first"]) fun _ _ _ _ _ _ us hl => match us, hl with | [_, _], _ => rfl) (fun cdv A outer s H E C W G tk nob => (dss_cons (ds_par3 2 3 4 G (dax_cons (dv_callB (b_len G.fit) (daq_cons (de_peek 0) daq_nil) M.m_len boot_len').x (dax_cons (dv_call G F_heights_of (dav_cons (dv_var 0) (dav_cons (dv_var 1) dav_nil))).x (dax_cons (dv_tup (dav_cons dv_int (dav_cons dv_int dav_nil))).x dax_nil))))
    (dss_cons (ds_for G (di_seq G (dv_ix G (de_peek 3) (de_peek 2))) (dg_name 5 G.nd) (dss_cons (ds_asg 6 G dv_none.x)
    (dss_cons (ds_for G (di_range1 (daq_cons (de_peek 2) daq_nil) M.m_range) (dg_name 7 G.nd) (dss_one (ds_if (dt_cmp (op_inD' G.hu65 G.fit) (de_peek 5) (dv_ix G (de_peek 3) (de_peek 7)).q) (dss_cons (ds_asg 8 G (dv_call G F_lowest (dav_cons (dv_op (op_subD G.fit) (dv_ix G (dv_ix G (de_peek 3) (de_peek 2)).q (de_peek 5)).q (dv_ix G (dv_ix G (de_peek 3) (de_peek 7)).q (de_peek 5)).q) (dav_cons (dv_op (op_subD G.fit) (de_peek 2) (de_peek 7)) dav_nil))).x)
    (dss_one (ds_if (dw_or (dt_cmp (op_isD G.fit) (de_peek 6) dv_none.q) (dw_or1 (dt_val (dv_call G F_is_less (dav_cons (dv_var 8) (dav_cons (dv_var 6) dav_nil))).q))).t (dss_one (ds_asg 6 G (dv_var 8).x)) dss_nil))) dss_nil)))
    (dss_one (ds_if (dw_and (dt_cmp (op_isND G.fit) (de_peek 6) dv_none.q) (dw_and1 (dt_val (dv_call G F_is_less (dav_cons (dv_var 4) (dav_cons (dv_var 6) dav_nil))).q))).t (dss_one (ds_asg 4 G (dv_var 6).x)) dss_nil)))))
    (dss_one (ds_ret (dv_var 4)))))) (sem_greatest_of)
theorem fd_rows_of {f : Addr} {fd : FuncData} (M : Mf K w mg x ds ec) (F : Fun K "rows_of" "rows_of" s_rows_of f fd) (hm : mg "rows_of" = some (.ref f)) (F_first_state : FnD P w K mg base 1 "first_state" 1 sp_first_state) (F_step : FnD P w K mg base 3 "step" 4 sp_step) : FnD P w K mg base 4 "rows_of" 2 sp_rows_of :=
  fn_D (k := 3) F sc_rows_of (mo_rows_of) rfl hm (F.binds (ps := ["room", "regulator"]) fun _ _ _ _ _ _ us hl => match us, hl with | [_, _], _ => rfl) (fun cdv A outer s H E C W G tk nob => (dss_cons (ds_par3 2 3 4 G (dax_cons (dn_disp1 G (dv_call G F_first_state (dav_cons (dv_var 0) dav_nil)) (dn_lst dav_nil).v).x (dax_cons (dn_lst (dav_cons (dv_call G F_first_state (dav_cons (dv_var 0) dav_nil)) dav_nil)).x (dax_cons dv_int.x dax_nil))))
    (dss_cons (ds_while G (dt_cmp (op_ltD G.fit) (de_peek 4) (dv_callB (b_len G.fit) (daq_cons (de_peek 3) daq_nil) M.m_len boot_len').q) (dss_cons (ds_for G (di_seq G (dv_globT G M.c_WEATHERS)) (dg_name 5 G.nd) (dss_cons (ds_asg 6 G (dv_call G F_step (dav_cons (dv_var 0) (dav_cons (dv_var 1) (dav_cons (dv_ix G (de_peek 3) (de_peek 4)) (dav_cons (dv_var 5) dav_nil))))).x)
    (dss_one (ds_if (dt_cmp (op_notInD' G.hu65 G.fit) (de_peek 6) (de_peek 2)) (dss_cons (ds_set 2 G (dv_op (op_addD G.fit) (dv_ix G (de_peek 2) (dv_ix G (de_peek 3) (de_peek 4)).q).q (dn_lst (dav_cons (dv_var 5) dav_nil)).v.q) (de_peek 6))
    (dss_one (ds_app 3 G (dv_var 6)))) dss_nil))))
    (dss_one (ds_aug 4 G dv_int.q))))
    (dss_one (ds_frz 2 (ds_ret (dv_var 2))))))) (sem_rows_of)
theorem fd_roads_of {f : Addr} {fd : FuncData} (M : Mf K w mg x ds ec) (F : Fun K "roads_of" "roads_of" s_roads_of f fd) (hm : mg "roads_of" = some (.ref f)) (F_rows_of : FnD P w K mg base 4 "rows_of" 2 sp_rows_of) (F_step : FnD P w K mg base 3 "step" 4 sp_step) : FnD P w K mg base 5 "roads_of" 3 sp_roads_of :=
  fn_D (k := 4) F sc_roads_of (mo_roads_of) rfl hm (F.binds (ps := ["room", "regulator", "kind"]) fun _ _ _ _ _ _ us hl => match us, hl with | [_, _, _], _ => rfl) (fun cdv A outer s H E C W G tk nob => (dss_cons (ds_asg 3 G (dn_dictT G).x)
    (dss_cons (ds_for G (di_seq G (dv_call G F_rows_of (dav_cons (dv_var 0) (dav_cons (dv_var 1) dav_nil)))) (dg_name 4 G.nd) (dss_build 3 4 5 6 7 G (fun _ GB => (di_seq GB (dv_globT GB M.c_WEATHERS))) (fun _ GB => (dv_call GB F_step (dav_cons (dv_var 0) (dav_cons (dv_var 1) (dav_cons (dv_var 4) (dav_cons (dv_var 5) dav_nil)))))) (fun _ GB => (dv_disp3 GB (dv_ix GB (de_peek 6) dv_int.q) (dv_op (op_subD GB.fit) dv_int.q (dv_ix GB (de_peek 6) dv_int.q).q) (dv_if (dt_cmp (op_neD' GB.hu GB.fit) (dv_ix GB (de_peek 6) dv_int.q).q (dv_ix GB (de_peek 4) dv_int.q).q) dv_int dv_int))) (fun _ GB => (dv_tup (dav_cons (dv_ixDict GB (de_peek 7) (de_peek 2)) (dav_cons (dv_var 6) (dav_cons (dv_var 5) dav_nil))))) (by decide) (by decide) (by decide) (by decide) rfl rfl rfl rfl rfl (by first | exact Or.inl rfl | exact Or.inr rfl) (by first | exact Or.inl rfl | exact Or.inr rfl) (by first | exact Or.inl rfl | exact Or.inr rfl) (by first | exact Or.inl rfl | exact Or.inr rfl) (by first | exact Or.inl rfl | exact Or.inr rfl) (by first | exact Or.inl rfl | exact Or.inr rfl) (by first | exact Or.inl rfl | exact Or.inr (Or.inl rfl) | exact Or.inr (Or.inr rfl)) (by first | exact Or.inl rfl | exact Or.inr (Or.inl rfl) | exact Or.inr (Or.inr rfl))))
    (dss_one (ds_frz 3 (ds_ret (dv_var 3))))))) (sem_roads_of)
theorem fd_greatest_share {f : Addr} {fd : FuncData} (M : Mf K w mg x ds ec) (F : Fun K "greatest_share" "greatest_share" s_greatest_share f fd) (hm : mg "greatest_share" = some (.ref f)) (F_check_regulator : FnD P w K mg base 4 "check_regulator" 2 (sp_check_regulator x)) (F_greatest_of : FnD P w K mg base 2 "greatest_of" 2 sp_greatest_of) (F_roads_of : FnD P w K mg base 5 "roads_of" 3 sp_roads_of) (F_first_state : FnD P w K mg base 1 "first_state" 1 sp_first_state) : FnD P w K mg base 6 "greatest_share" 2 (sp_greatest_share x) :=
  fn_D (k := 5) F sc_greatest_share (mo_greatest_share x) rfl hm (F.binds (ps := ["room", "regulator"]) fun _ _ _ _ _ _ us hl => match us, hl with | [_, _], _ => rfl) (fun cdv A outer s H E C W G tk nob => (dss_cons (ds_expr (dv_call G F_check_regulator (dav_cons (dv_var 0) (dav_cons (dv_var 1) dav_nil))).q)
    (dss_one (ds_ret (dv_call G F_greatest_of (dav_cons (dv_call G F_roads_of (dav_cons (dv_var 0) (dav_cons (dv_var 1) (dav_cons dv_str dav_nil)))) (dav_cons (dv_call G F_first_state (dav_cons (dv_var 0) dav_nil)) dav_nil))))))) (sem_greatest_share x)
theorem fd_click_share {f : Addr} {fd : FuncData} (M : Mf K w mg x ds ec) (F : Fun K "click_share" "click_share" s_click_share f fd) (hm : mg "click_share" = some (.ref f)) (F_check_regulator : FnD P w K mg base 4 "check_regulator" 2 (sp_check_regulator x)) (F_greatest_of : FnD P w K mg base 2 "greatest_of" 2 sp_greatest_of) (F_roads_of : FnD P w K mg base 5 "roads_of" 3 sp_roads_of) (F_first_state : FnD P w K mg base 1 "first_state" 1 sp_first_state) : FnD P w K mg base 6 "click_share" 2 (sp_click_share x) :=
  fn_D (k := 5) F sc_click_share (mo_click_share x) rfl hm (F.binds (ps := ["room", "regulator"]) fun _ _ _ _ _ _ us hl => match us, hl with | [_, _], _ => rfl) (fun cdv A outer s H E C W G tk nob => (dss_cons (ds_expr (dv_call G F_check_regulator (dav_cons (dv_var 0) (dav_cons (dv_var 1) dav_nil))).q)
    (dss_one (ds_ret (dv_call G F_greatest_of (dav_cons (dv_call G F_roads_of (dav_cons (dv_var 0) (dav_cons (dv_var 1) (dav_cons dv_str dav_nil)))) (dav_cons (dv_call G F_first_state (dav_cons (dv_var 0) dav_nil)) dav_nil))))))) (sem_click_share x)
theorem fd_check_family {f : Addr} {fd : FuncData} (M : Mf K w mg x ds ec) (F : Fun K "check_family" "check_family" s_check_family f fd) (hm : mg "check_family" = some (.ref f)) (F_check_room : FnD P w K mg base 3 "check_room" 1 (sp_check_room x)) (F_is_for : FnD P w K mg base 2 "is_for" 2 sp_is_for) : FnD P w K mg base 4 "check_family" 2 (sp_check_family x) :=
  fn_D (k := 3) F sc_check_family (mo_check_family x) rfl hm (F.binds (ps := ["room", "value"]) fun _ _ _ _ _ _ us hl => match us, hl with | [_, _], _ => rfl) (fun cdv A outer s H E C W G tk nob => (dss_cons (ds_expr (dv_call G F_check_room (dav_cons (dv_var 0) dav_nil)).q)
    (dss_one (ds_if (dw_or (dt_not (dt_val (dv_isi G (de_peek 1) M.m_isinstance M.m_list boot_list').q)) (dw_or (dt_not (dt_chain (op_leD G.fit) (op_leD G.fit) dv_int.q (dv_callB (b_len G.fit) (daq_cons (de_peek 1) daq_nil) M.m_len boot_len').q dv_int.q)) (dw_or1 (dt_not (dt_val (dv_callB (b_all G) (daq_cons (dn_comp [("one", 2)] G (di_seq G (dv_var 1)) (blkOk_by (N := ["room", "value", "one"]) (sc := defScope s_check_family) (by decide +kernel)) (fun _ _ _ _ _ G1 => (dg_name 2 G1.nd)) (fun _ _ _ _ _ _ => dts_nil) (fun _ _ _ _ _ G1 => (dv_call G1 F_is_for (dav_cons (dv_var 2) (dav_cons (dv_ix G1 (de_peek 0) dv_int.q) dav_nil))))).v.q daq_nil) M.m_all boot_all').q))))).t (dss_one (ds_raise G tk M.x_BadRegulator)) dss_nil)))) (sem_check_family x)
theorem fd_sorts_of {f : Addr} {fd : FuncData} (M : Mf K w mg x ds ec) (F : Fun K "sorts_of" "sorts_of" s_sorts_of f fd) (hm : mg "sorts_of" = some (.ref f)) (F_rows_of : FnD P w K mg base 4 "rows_of" 2 sp_rows_of) (F_step : FnD P w K mg base 3 "step" 4 sp_step) : FnD P w K mg base 5 "sorts_of" 2 sp_sorts_of :=
  fn_D (k := 4) F sc_sorts_of (mo_sorts_of) rfl hm (F.binds (ps := ["room", "family"]) fun _ _ _ _ _ _ us hl => match us, hl with | [_, _], _ => rfl) (fun cdv A outer s H E C W G tk nob => (dss_cons (ds_par3 2 3 4 G (dax_cons (dn_lst dav_nil).x (dax_cons (dn_dictT G).x (dax_cons (dn_dictT G).x dax_nil))))
    (dss_cons (ds_for G (di_enum G (dv_var 1) M.m_enumerate) (dg_tup G (dgs_cons (dg_name 5 G.nd) (dgs_cons (dg_name 6 G.nd) dgs_nil))) (dss_one (ds_for G (di_seq G (dv_call G F_rows_of (dav_cons (dv_var 0) (dav_cons (dv_var 6) dav_nil)))) (dg_name 7 G.nd) (dss_cons (ds_app 2 G (dv_tup (dav_cons (dv_var 5) (dav_cons (dv_var 7) dav_nil))))
    (dss_cons (ds_set 3 G (dn_comp [("weather", 14)] G (di_seq G (dv_globT G M.c_WEATHERS)) (blkOk_by (N := ["room", "family", "spots", "behind", "sorts", "place", "regulator", "state", "many", "shapes", "fresh", "spot", "shape", "after", "weather"]) (sc := defScope s_sorts_of) (by decide +kernel)) (fun _ _ _ _ _ G1 => (dg_name 14 G1.nd)) (fun _ _ _ _ _ _ => dts_nil) (fun _ _ _ _ _ G1 => (dv_tup (dav_cons (dv_var 5) (dav_cons (dv_call G1 F_step (dav_cons (dv_var 0) (dav_cons (dv_var 6) (dav_cons (dv_var 7) (dav_cons (dv_var 14) dav_nil))))) dav_nil))))).v (dv_tup (dav_cons (dv_var 5) (dav_cons (dv_var 7) dav_nil))).q)
    (dss_one (ds_set 4 G dv_int (dv_tup (dav_cons (dv_var 5) (dav_cons (dv_var 7) dav_nil))).q)))))))
    (dss_cons (ds_asg 8 G dv_int.x)
    (dss_one (ds_while G (dt_val dv_bl.q) (dss_cons (ds_par2 9 10 G (dax_cons (dn_dictT G).x (dax_cons (dn_dictT G).x dax_nil)))
    (dss_cons (ds_frz 2 (ds_for G (di_seq G (dv_var 2)) (dg_name 11 G.nd) (dss_cons (ds_asg 12 G (dn_lst (dav_cons (dv_ix G (de_peek 4) (de_peek 11)) dav_nil)).x)
    (dss_cons (ds_for G (di_seq G (dv_ix G (de_peek 3) (de_peek 11))) (dg_name 13 G.nd) (dss_one (ds_aug 12 G (dn_lst (dav_cons (dv_ix G (dv_ix G (de_peek 13) dv_int.q).q dv_int.q) (dav_cons (dv_ix G (de_peek 4) (de_peek 13)) dav_nil))).v.q)))
    (dss_one (ds_setM 10 G (dm_setdef 9 G (dv_callTy (b_tuple G.fit) (daq_cons (de_peek 12) daq_nil) M.m_tuple boot_tuple').q (dv_callB (b_len G.fit) (daq_cons (de_peek 9) daq_nil) M.m_len boot_len')) (de_peek 11)))))))
    (dss_cons (ds_if (dt_cmp (op_eqD' G.hu G.fit) (dv_callB (b_len G.fit) (daq_cons (de_peek 9) daq_nil) M.m_len boot_len').q (de_peek 8)) (dss_one (ds_frz 4 (ds_ret (dv_var 4)))) dss_nil)
    (dss_one (ds_frz 10 (ds_par2 4 8 G (dax_cons (dv_var 10).x (dax_cons (dv_callB (b_len G.fit) (daq_cons (de_peek 9) daq_nil) M.m_len boot_len').x dax_nil)))))))))))))) (sem_sorts_of)
theorem fd_groups_by {f : Addr} {fd : FuncData} (M : Mf K w mg x ds ec) (F : Fun K "groups_by" "groups_by" s_groups_by f fd) (hm : mg "groups_by" = some (.ref f)) : FnD P w K mg base 1 "groups_by" 1 sp_groups_by :=
  fn_D (k := 0) F sc_groups_by (mo_groups_by) rfl hm (F.binds (ps := ["things"]) fun _ _ _ _ _ _ us hl => match us, hl with | [_], _ => rfl) (fun cdv A outer s H E C W G tk nob => (dss_cons (ds_asg 1 G (dn_lst dav_nil).x)
    (dss_cons (ds_for G (di_enum G (dv_var 0) M.m_enumerate) (dg_tup G (dgs_cons (dg_name 2 G.nd) (dgs_cons (dg_name 3 G.nd) dgs_nil))) (dss_one (ds_if (dt_cmp (op_notInD' G.hu65 G.fit) (de_peek 3) (dv_slice G.fit (de_peek 0) do_none (do_some (de_peek 2))).q) (dss_one (ds_app 1 G (dn_comp [("other", 4)] G (di_range1 (daq_cons (dv_callB (b_len G.fit) (daq_cons (de_peek 0) daq_nil) M.m_len boot_len').q daq_nil) M.m_range) (blkOk_by (N := ["things", "found", "place", "one", "other"]) (sc := defScope s_groups_by) (by decide +kernel)) (fun _ _ _ _ _ G1 => (dg_name 4 G1.nd)) (fun _ _ _ _ _ G1 => dts_one (dt_cmp (op_eqD' G1.hu G1.fit) (dv_ix G1 (de_peek 0) (de_peek 4)).q (de_peek 3))) (fun _ _ _ _ _ G1 => (dv_var 4))).v)) dss_nil)))
    (dss_one (ds_frz 1 (ds_ret (dv_var 1))))))) (sem_groups_by)
theorem fd_classes {f : Addr} {fd : FuncData} (M : Mf K w mg x ds ec) (F : Fun K "classes" "classes" s_classes f fd) (hm : mg "classes" = some (.ref f)) (F_check_family : FnD P w K mg base 4 "check_family" 2 (sp_check_family x)) (F_sorts_of : FnD P w K mg base 5 "sorts_of" 2 sp_sorts_of) (F_groups_by : FnD P w K mg base 1 "groups_by" 1 sp_groups_by) (F_first_state : FnD P w K mg base 1 "first_state" 1 sp_first_state) : FnD P w K mg base 6 "classes" 2 (sp_classes x) :=
  fn_D (k := 5) F sc_classes (mo_classes x) rfl hm (F.binds (ps := ["room", "family"]) fun _ _ _ _ _ _ us hl => match us, hl with | [_, _], _ => rfl) (fun cdv A outer s H E C W G tk nob => (dss_cons (ds_expr (dv_call G F_check_family (dav_cons (dv_var 0) (dav_cons (dv_var 1) dav_nil))).q)
    (dss_cons (ds_asg 2 G (dv_call G F_sorts_of (dav_cons (dv_var 0) (dav_cons (dv_var 1) dav_nil))).x)
    (dss_one (ds_ret (dv_call G F_groups_by (dav_cons (dn_comp [("place", 3)] G (di_range1 (daq_cons (dv_callB (b_len G.fit) (daq_cons (de_peek 1) daq_nil) M.m_len boot_len').q daq_nil) M.m_range) (blkOk_by (N := ["room", "family", "sorts", "place"]) (sc := defScope s_classes) (by decide +kernel)) (fun _ _ _ _ _ G1 => (dg_name 3 G1.nd)) (fun _ _ _ _ _ _ => dts_nil) (fun _ _ _ _ _ G1 => (dv_ix G1 (de_peek 2) (dv_tup (dav_cons (dv_var 3) (dav_cons (dv_call G1 F_first_state (dav_cons (dv_var 0) dav_nil)) dav_nil))).q))).v dav_nil))))))) (sem_classes x)
theorem fd_check_number {f : Addr} {fd : FuncData} (M : Mf K w mg x ds ec) (F : Fun K "check_number" "check_number" s_check_number f fd) (hm : mg "check_number" = some (.ref f)) (F_is_int : FnD P w K mg base 1 "is_int" 3 sp_is_int) : FnD P w K mg base 2 "check_number" 3 (sp_check_number x) :=
  fn_D (k := 1) F sc_check_number (mo_check_number x) rfl hm (F.binds (ps := ["value", "low", "high"]) fun _ _ _ _ _ _ us hl => match us, hl with | [_, _, _], _ => rfl) (fun cdv A outer s H E C W G tk nob => (dss_one (ds_if (dt_not (dt_val (dv_call G F_is_int (dav_cons (dv_var 0) (dav_cons (dv_var 1) (dav_cons (dv_var 2) dav_nil)))).q)) (dss_one (ds_raise G tk M.x_BadNumber)) dss_nil))) (sem_check_number x)
theorem fd_check_sight {f : Addr} {fd : FuncData} (M : Mf K w mg x ds ec) (F : Fun K "check_sight" "check_sight" s_check_sight f fd) (hm : mg "check_sight" = some (.ref f)) (F_check_number : FnD P w K mg base 2 "check_number" 3 (sp_check_number x)) : FnD P w K mg base 3 "check_sight" 1 (sp_check_sight x) :=
  fn_D (k := 2) F sc_check_sight (mo_check_sight x) rfl hm (F.binds (ps := ["value"]) fun _ _ _ _ _ _ us hl => match us, hl with | [_], _ => rfl) (fun cdv A outer s H E C W G tk nob => (dss_one (ds_expr (dv_call G F_check_number (dav_cons (dv_var 0) (dav_cons dv_int (dav_cons dv_int dav_nil)))).q))) (sem_check_sight x)
theorem fd_Eye___init__ {f : Addr} {fd : FuncData} (M : Mf K w mg x ds ec) (F : Fun K "__init__" "Eye.__init__" s_Eye___init__ f fd) (hk : Mk K ec f) (hc : mg "Eye" = some (.ref ec)) : FnI P w K mg base 1 (eyC ec) "Eye" :=
  ⟨f, fd, ["self", "room", "regulator", "sight"], ok_eyI F sc_Eye___init__ M.ek (fun cdv A outer s H E => pss_cons (ps_fld (pv 0) (pv 1) rfl) (pss_cons (ps_fld (pv 0) (pv 2) rfl) (pss_cons (ps_fld (pv 0) (pv 3) rfl) (pss_cons (ps_fld (pv 0) pe_dnewN rfl) (pss_one (ps_fld (pv 0) pe_dnewN rfl)))))), hk, hc, (F.binds (ps := ["self", "room", "regulator", "sight"]) fun _ _ _ _ _ _ us hl => match us, hl with | [_, _, _, _], _ => rfl)⟩
theorem fd_mark_of {f : Addr} {fd : FuncData} (M : Mf K w mg x ds ec) (F : Fun K "mark_of" "mark_of" s_mark_of f fd) (hm : mg "mark_of" = some (.ref f)) : FnD P w K mg base 1 "mark_of" 2 sp_mark_of :=
  fn_D (k := 0) F sc_mark_of (mo_mark_of) rfl hm (F.binds (ps := ["state", "sight"]) fun _ _ _ _ _ _ us hl => match us, hl with | [_, _], _ => rfl) (fun cdv A outer s H E C W G tk nob => (dss_one (ds_ret (dv_if (dt_cmp (op_eqD' G.hu G.fit) (de_peek 1) dv_int.q) (dv_ix G (de_peek 0) dv_int.q) (dv_tup (dav_cons (dv_ix G (de_peek 0) dv_int.q) (dav_cons (dv_ix G (de_peek 0) dv_int.q) dav_nil))))))) (sem_mark_of)
theorem fd_Eye_following {f : Addr} {fd : FuncData} (M : Mf K w mg x ds ec) (F : Fun K "following" "Eye.following" s_Eye_following f fd) (hm : Meth K ec "following" f) (F_step : FnD P w K mg base 3 "step" 4 sp_step) (F_mark_of : FnD P w K mg base 1 "mark_of" 2 sp_mark_of) : FnM P w K mg base 4 (eyC ec) "following" 1 sp_Eye_following :=
  ⟨⟨f, fd, ["self", "state"], ok_O (k := 3) (n := 1) F sc_Eye_following (mo_Eye_following) rfl rfl (fun cdv A outer s H E C W G tk ey => (dss_memo false 1 G ey M.ek (pre_one (ds_setLcV 2 [("weather", 3)] G (di_seq G (dv_globT G M.c_WEATHERS)) (blkOk_by (N := ["self", "state", "found", "weather", "after"]) (sc := defScope s_Eye_following) (by decide +kernel)) (fun _ _ _ _ _ G1 => (dg_name 3 G1.nd)) (fun _ _ _ _ _ _ => dts_nil) (fun _ _ _ _ _ G1 => (dv_call G1 F_step (dav_cons (dv_fldO 0 0 ey M.ek G1 (.inl ⟨rfl, rfl⟩)) (dav_cons (dv_fldO 0 1 ey M.ek G1 (.inr (.inl ⟨rfl, rfl⟩))) (dav_cons (dv_var 1) (dav_cons (dv_var 3) dav_nil)))))) (sw_true rfl rfl rfl (by decide +kernel)))) (dn_comp [("after", 4)] G (di_seq G (dv_var 2)) (blkOk_by (N := ["self", "state", "found", "weather", "after"]) (sc := defScope s_Eye_following) (by decide +kernel)) (fun _ _ _ _ _ G1 => (dg_name 4 G1.nd)) (fun _ _ _ _ _ _ => dts_nil) (fun _ _ _ _ _ G1 => (dv_tup (dav_cons (dv_call G1 F_mark_of (dav_cons (dv_var 4) (dav_cons (dv_fldO 0 2 ey M.ek G1 (.inr (.inr ⟨rfl, rfl⟩))) dav_nil))) (dav_cons (dv_var 4) dav_nil))))).v)) (sem_Eye_following), hm, (F.binds (ps := ["self", "state"]) fun _ _ _ _ _ _ us hl => match us, hl with | [_, _], _ => rfl)⟩, mo_Eye_following, eyF_none (by decide +kernel) (by decide +kernel) (by decide +kernel) (by decide +kernel) (by decide +kernel)⟩
theorem fd_Eye_after {f : Addr} {fd : FuncData} (M : Mf K w mg x ds ec) (F : Fun K "after" "Eye.after" s_Eye_after f fd) (hm : Meth K ec "after" f) (F_Eye_following : FnM P w K mg base 4 (eyC ec) "following" 1 sp_Eye_following) : FnM P w K mg base 5 (eyC ec) "after" 1 sp_Eye_after :=
  ⟨⟨f, fd, ["self", "states"], ok_O (k := 4) (n := 1) F sc_Eye_after (mo_Eye_after) rfl rfl (fun cdv A outer s H E C W G tk ey => (dss_or (dss_memo true 1 G ey M.ek (pre_frz 2 (pre_cons (ds_asg 2 G (dn_dictT G).x)
    (pre_one (ds_for G (di_seq G (dv_var 1)) (dg_name 3 G.nd) (dss_one (ds_for G (di_seq G (dv_methO 0 G ey M.ek F_Eye_following (dav_cons (dv_var 3) dav_nil))) (dg_tup G (dgs_cons (dg_name 4 G.nd) (dgs_cons (dg_name 5 G.nd) dgs_nil))) (dss_one (ds_set 2 G (dv_op (op_addD G.fit) (dv_get G (de_peek 2) (de_peek 4) (dn_lst dav_nil).v).q (dn_lst (dav_cons (dv_var 5) dav_nil)).v.q) (de_peek 4))))))))) (dv_callTy (b_dictP G) (daq_cons (dn_comp [("mark", 4)] G (di_seq G (dv_var 2)) (blkOk_by (N := ["self", "states", "found", "state", "mark", "later"]) (sc := defScope s_Eye_after) (by decide +kernel)) (fun _ _ _ _ _ G1 => (dg_name 4 G1.nd)) (fun _ _ _ _ _ _ => dts_nil) (fun _ _ _ _ _ G1 => (dv_tup (dav_cons (dv_var 4) (dav_cons (dv_callTy (b_tuple G1.fit) (daq_cons (dn_sortSetT G1 (dv_ix G1 (de_peek 2) (de_peek 4)).q M.m_sorted M.m_set).v.q daq_nil) M.m_tuple boot_tuple') dav_nil))))).v.q daq_nil) M.m_dict boot_dict')) (dss_memo true 1 G ey M.ek (pre_lock 2 (pre_cons (ds_asg 2 G (dn_dictK G).x)
    (pre_one (ds_for G (di_seq G (dv_var 1)) (dg_name 3 G.nd) (dss_one (ds_for G (di_seq G (dv_methO 0 G ey M.ek F_Eye_following (dav_cons (dv_var 3) dav_nil))) (dg_tup G (dgs_cons (dg_name 4 G.nd) (dgs_cons (dg_name 5 G.nd) dgs_nil))) (dss_one (ds_setK 2 G (dv_op (op_addD G.fit) (dv_getK G (de_peek 2) (de_peek 4) (dn_lst dav_nil).v).q (dn_lst (dav_cons (dv_var 5) dav_nil)).v.q) (de_peek 4))))))))) (dv_callTy (b_dictK G) (daq_cons (dn_comp [("mark", 4)] G (di_keysK G (dv_var 2)) (blkOk_by (N := ["self", "states", "found", "state", "mark", "later"]) (sc := defScope s_Eye_after) (by decide +kernel)) (fun _ _ _ _ _ G1 => (dg_name 4 G1.nd)) (fun _ _ _ _ _ _ => dts_nil) (fun _ _ _ _ _ G1 => (dv_tup (dav_cons (dv_var 4) (dav_cons (dv_callTy (b_tuple G1.fit) (daq_cons (dn_sortSetT G1 (dv_ixL G1 (de_peek 2) (de_peek 4)).q M.m_sorted M.m_set).v.q daq_nil) M.m_tuple boot_tuple') dav_nil))))).v.q daq_nil) M.m_dict boot_dict')))) (sem_Eye_after), hm, (F.binds (ps := ["self", "states"]) fun _ _ _ _ _ _ us hl => match us, hl with | [_, _], _ => rfl)⟩, mo_Eye_after, eyF_none (by decide +kernel) (by decide +kernel) (by decide +kernel) (by decide +kernel) (by decide +kernel)⟩
theorem fd_Eye_begun {f : Addr} {fd : FuncData} (M : Mf K w mg x ds ec) (F : Fun K "begun" "Eye.begun" s_Eye_begun f fd) (hm : Meth K ec "begun" f) (F_first_state : FnD P w K mg base 1 "first_state" 1 sp_first_state) : FnM P w K mg base 2 (eyC ec) "begun" 0 sp_Eye_begun :=
  ⟨⟨f, fd, ["self"], ok_O (k := 1) (n := 0) F sc_Eye_begun (mo_Eye_begun) rfl rfl (fun cdv A outer s H E C W G tk ey => (dss_one (ds_ret (dv_tup (dav_cons (dv_call G F_first_state (dav_cons (dv_fldO 0 0 ey M.ek G (.inl ⟨rfl, rfl⟩)) dav_nil)) dav_nil))))) (sem_Eye_begun), hm, (F.binds (ps := ["self"]) fun _ _ _ _ _ _ us hl => match us, hl with | [_], _ => rfl)⟩, mo_Eye_begun, eyF_none (by decide +kernel) (by decide +kernel) (by decide +kernel) (by decide +kernel) (by decide +kernel)⟩
theorem fd_marks_apart {f : Addr} {fd : FuncData} (M : Mf K w mg x ds ec) (F : Fun K "marks_apart" "marks_apart" s_marks_apart f fd) (hm : mg "marks_apart" = some (.ref f)) (F_Eye___init__ : FnI P w K mg base 1 (eyC ec) "Eye") (F_Eye_after : FnM P w K mg base 5 (eyC ec) "after" 1 sp_Eye_after) (F_Eye_begun : FnM P w K mg base 2 (eyC ec) "begun" 0 sp_Eye_begun) : FnD P w K mg base 6 "marks_apart" 5 sp_marks_apart :=
  fn_D (k := 5) F sc_marks_apart (mo_marks_apart) rfl hm (F.binds (ps := ["room", "one", "other", "sight", "both"]) fun _ _ _ _ _ _ us hl => match us, hl with | [_, _, _, _, _], _ => rfl) (fun cdv A outer s H E C W G tk nob => (dss_eyes 5 G nob F_Eye___init__ (dav_cons (dv_var 0) (dav_cons (dv_var 1) (dav_cons (dv_var 3) dav_nil))) (dav_cons (dv_var 0) (dav_cons (dv_var 2) (dav_cons (dv_var 3) dav_nil))) (fun C G ey2 => (dss_cons (ds_par2 6 7 G (dax_cons (dn_lst (dav_cons (dv_tup (dav_cons (dv_methE0 5 0 G ey2 M.ek F_Eye_begun) (dav_cons (dv_methE0 5 1 G ey2 M.ek F_Eye_begun) (dav_cons (dn_lst dav_nil).v dav_nil)))) dav_nil)).x (dax_cons dv_int.x dax_nil)))
    (dss_cons (ds_asg 8 G (dn_disp1 G (dv_slice G.fit (dv_ix G (de_peek 6) dv_int.q).q do_none (do_some dv_int.q)) dv_int).x)
    (dss_cons (ds_while G (dt_cmp (op_ltD G.fit) (de_peek 7) (dv_callB (b_len G.fit) (daq_cons (de_peek 6) daq_nil) M.m_len boot_len').q) (dss_cons (ds_unp (dv_ix G (de_peek 6) (de_peek 7)) (dg_tup G (dgs_cons (dg_name 9 G.nd) (dgs_cons (dg_name 10 G.nd) (dgs_cons (dg_name 11 G.nd) dgs_nil)))))
    (dss_cons (ds_asg 12 G (dv_tup (dav_cons (dv_methE 5 0 G ey2 M.ek F_Eye_after (dav_cons (dv_var 9) dav_nil)) (dav_cons (dv_methE 5 1 G ey2 M.ek F_Eye_after (dav_cons (dv_var 10) dav_nil)) dav_nil))).x)
    (dss_cons (ds_for G (di_seq G (dn_sortSetT G (dv_op (op_addD G.fit) (dv_callTy (b_listT G) (daq_cons (dv_ix G (de_peek 12) dv_int.q).q daq_nil) M.m_list boot_list').q (dv_if (dt_val (de_peek 4)) (dv_callTy (b_listT G) (daq_cons (dv_ix G (de_peek 12) dv_int.q).q daq_nil) M.m_list boot_list') (dn_lst dav_nil).v).q).q M.m_sorted M.m_set).v) (dg_name 13 G.nd) (dss_cons (ds_if (dw_or (dt_cmp (op_notInD' G.hu65 G.fit) (de_peek 13) (dv_ix G (de_peek 12) dv_int.q).q) (dw_or1 (dt_cmp (op_notInD' G.hu65 G.fit) (de_peek 13) (dv_ix G (de_peek 12) dv_int.q).q))).t (dss_one (ds_ret (dv_tup (dav_cons (dv_op (op_addD G.fit) (de_peek 11) (dn_lst (dav_cons (dv_var 13) dav_nil)).v.q) (dav_cons (dv_if (dt_cmp (op_inD' G.hu65 G.fit) (de_peek 13) (dv_ix G (de_peek 12) dv_int.q).q) dv_int dv_int) dav_nil))))) dss_nil)
    (dss_cons (ds_asg 14 G (dv_tup (dav_cons (dv_ix G (dv_ix G (de_peek 12) dv_int.q).q (de_peek 13)) (dav_cons (dv_ix G (dv_ix G (de_peek 12) dv_int.q).q (de_peek 13)) dav_nil))).x)
    (dss_one (ds_if (dt_cmp (op_notInD' G.hu65 G.fit) (de_peek 14) (de_peek 8)) (dss_cons (ds_set 8 G dv_int (de_peek 14))
    (dss_one (ds_app 6 G (dv_op (op_addD G.fit) (de_peek 14) (dv_tup (dav_cons (dv_op (op_addD G.fit) (de_peek 11) (dn_lst (dav_cons (dv_var 13) dav_nil)).v.q) dav_nil)).q)))) dss_nil)))))
    (dss_one (ds_aug 7 G dv_int.q))))))
    (dss_one (ds_ret dv_none)))))))) (sem_marks_apart)
theorem fd_spoken_classes {f : Addr} {fd : FuncData} (M : Mf K w mg x ds ec) (F : Fun K "spoken_classes" "spoken_classes" s_spoken_classes f fd) (hm : mg "spoken_classes" = some (.ref f)) (F_check_family : FnD P w K mg base 4 "check_family" 2 (sp_check_family x)) (F_check_sight : FnD P w K mg base 3 "check_sight" 1 (sp_check_sight x)) (F_marks_apart : FnD P w K mg base 6 "marks_apart" 5 sp_marks_apart) : FnD P w K mg base 7 "spoken_classes" 3 (sp_spoken_classes x) :=
  fn_D (k := 6) F sc_spoken_classes (mo_spoken_classes x) rfl hm (F.binds (ps := ["room", "family", "sight"]) fun _ _ _ _ _ _ us hl => match us, hl with | [_, _, _], _ => rfl) (fun cdv A outer s H E C W G tk nob => (dss_cons (ds_expr (dv_call G F_check_family (dav_cons (dv_var 0) (dav_cons (dv_var 1) dav_nil))).q)
    (dss_cons (ds_expr (dv_call G F_check_sight (dav_cons (dv_var 2) dav_nil)).q)
    (dss_cons (ds_asg 3 G (dn_lst dav_nil).x)
    (dss_cons (ds_group 3 6 7 4 G nob (fun _ GB => (di_enum GB (dv_var 1) M.m_enumerate)) (fun _ GB => (dg_tup GB (dgs_cons (dg_name 4 GB.nd) (dgs_cons (dg_name 5 GB.nd) dgs_nil)))) (blkOk_by (N := ["room", "family", "sight", "found", "place", "one", "alike", "group"]) (sc := defScope s_spoken_classes) (by decide +kernel)) (fun _ _ _ _ _ => pg_name (i := 7) G.nd rfl (by first | exact Or.inl rfl | exact Or.inr rfl)) (fun _ _ _ _ _ => pe_var (i := 7) rfl (by first | exact Or.inl rfl | exact Or.inr (Or.inl rfl) | exact Or.inr (Or.inr rfl))) (fun _ _ _ _ _ _ GB => dts_one (dt_cmp (op_isD GB.fit) (dv_call GB F_marks_apart (dav_cons (dv_var 0) (dav_cons (dv_ix GB (de_peek 1) (dv_ix GB (de_peek 7) dv_int.q).q) (dav_cons (dv_var 5) (dav_cons (dv_var 2) (dav_cons dv_bl dav_nil)))))).q dv_none.q)) (fun _ GB => (dt_cmp (op_eqD' GB.hu GB.fit) (de_peek 6) (dn_lst dav_nil).v.q)) (sw_true rfl rfl rfl (by decide +kernel)) (by decide) (by decide) (by decide) rfl rfl rfl rfl (by first | exact Or.inl rfl | exact Or.inr (Or.inl rfl) | exact Or.inr (Or.inr rfl)) (by first | exact Or.inl rfl | exact Or.inr (Or.inl rfl) | exact Or.inr (Or.inr rfl)) (by first | exact Or.inl rfl | exact Or.inr (Or.inl rfl) | exact Or.inr (Or.inr rfl)))
    (dss_one (ds_frz 3 (ds_ret (dv_var 3))))))))) (sem_spoken_classes x)
theorem fd__law_narrow {f : Addr} {fd : FuncData} (M : Mf K w mg x ds ec) (F : Fun K "_law_narrow" "_law_narrow" s__law_narrow f fd) (hm : mg "_law_narrow" = some (.ref f)) (F_run : FnD P w K mg base 6 "run" 3 (sp_run x)) (F_same : FnD P w K mg base 6 "same" 3 (sp_same x)) (F_greatest_share : FnD P w K mg base 6 "greatest_share" 2 (sp_greatest_share x)) (F_click_share : FnD P w K mg base 6 "click_share" 2 (sp_click_share x)) (F_classes : FnD P w K mg base 6 "classes" 2 (sp_classes x)) (F_spoken_classes : FnD P w K mg base 7 "spoken_classes" 3 (sp_spoken_classes x)) : FnD P w K mg base 8 "_law_narrow" 3 (sp__law_narrow x) :=
  fn_D (k := 7) F sc__law_narrow (mo__law_narrow x) rfl hm (F.binds (ps := ["room", "regulator", "row"]) fun _ _ _ _ _ _ us hl => match us, hl with | [_, _, _], _ => rfl) (fun cdv A outer s H E C W G tk nob => (dss_cons (ds_asg 3 G (dv_tup (dav_cons dv_str (dav_cons (dv_ix G (de_peek 1) dv_int.q) (dav_cons (dv_op (op_addD G.fit) (dv_ix G (de_peek 1) dv_int.q).q dv_int.q) dav_nil)))).x)
    (dss_cons (ds_asg 4 G (dv_tup (dav_cons dv_str (dav_cons (dv_ix G (de_peek 1) dv_int.q) (dav_cons (dv_op (op_addD G.fit) (dv_ix G (de_peek 1) dv_int.q).q dv_int.q) dav_nil)))).x)
    (dss_cons (ds_if (dw_or (dt_cmp (op_isND G.fit) (dv_call G F_same (dav_cons (dv_var 0) (dav_cons (dv_var 3) (dav_cons (dv_var 4) dav_nil)))).q dv_bl.q) (dw_or1 (dt_cmp (op_neD' G.hu G.fit) (dv_call G F_run (dav_cons (dv_var 0) (dav_cons (dv_var 3) (dav_cons (dv_var 2) dav_nil)))).q (dv_call G F_run (dav_cons (dv_var 0) (dav_cons (dv_var 4) (dav_cons (dv_var 2) dav_nil)))).q))).t (dss_one (ds_ret dv_bl)) dss_nil)
    (dss_cons (ds_if (dw_or (dt_cmp (op_neD' G.hu G.fit) (dv_call G F_greatest_share (dav_cons (dv_var 0) (dav_cons (dv_var 3) dav_nil))).q (dv_call G F_greatest_share (dav_cons (dv_var 0) (dav_cons (dv_var 4) dav_nil))).q) (dw_or1 (dt_cmp (op_neD' G.hu G.fit) (dv_call G F_click_share (dav_cons (dv_var 0) (dav_cons (dv_var 3) dav_nil))).q (dv_call G F_click_share (dav_cons (dv_var 0) (dav_cons (dv_var 4) dav_nil))).q))).t (dss_one (ds_ret dv_bl)) dss_nil)
    (dss_cons (ds_if (dw_or (dt_cmp (op_neD' G.hu G.fit) (dv_call G F_classes (dav_cons (dv_var 0) (dav_cons (dn_lst (dav_cons (dv_var 3) (dav_cons (dv_var 4) dav_nil))).v dav_nil))).q (dn_lst (dav_cons (dn_lst (dav_cons dv_int (dav_cons dv_int dav_nil))).v dav_nil)).v.q) (dw_or1 (dt_cmp (op_neD' G.hu G.fit) (dv_call G F_spoken_classes (dav_cons (dv_var 0) (dav_cons (dn_lst (dav_cons (dv_var 3) (dav_cons (dv_var 4) dav_nil))).v (dav_cons dv_int dav_nil)))).q (dn_lst (dav_cons (dn_lst (dav_cons dv_int (dav_cons dv_int dav_nil))).v dav_nil)).v.q))).t (dss_one (ds_ret dv_bl)) dss_nil)
    (dss_cons (ds_asg 5 G (dv_tup (dav_cons dv_str (dav_cons (dv_ix G (de_peek 1) dv_int.q) (dav_cons (dv_ix G (de_peek 1) dv_int.q) (dav_cons dv_int dav_nil))))).x)
    (dss_cons (ds_asg 6 G (dv_op (op_addD G.fit) (dn_lst (dav_cons dv_int dav_nil)).v.q (dv_call G F_run (dav_cons (dv_var 0) (dav_cons (dv_var 5) (dav_cons (dv_var 2) dav_nil)))).q).x)
    (dss_cons (ds_for G (di_range1 (daq_cons (dv_callB (b_len G.fit) (daq_cons (de_peek 2) daq_nil) M.m_len boot_len').q daq_nil) M.m_range) (dg_name 7 G.nd) (dss_one (ds_if (dw_and (dt_cmp (op_neD' G.hu G.fit) (dv_op (op_modD G.fit) (de_peek 7) dv_int.q).q dv_int.q) (dw_and1 (dt_cmp (op_neD' G.hu G.fit) (dv_ix G (de_peek 6) (dv_op (op_addD G.fit) (de_peek 7) dv_int.q).q).q (dv_ix G (de_peek 6) (de_peek 7)).q))).t (dss_one (ds_ret dv_bl)) dss_nil)))
    (dss_cons (ds_asg 8 G (dv_tup (dav_cons dv_str (dav_cons (dv_ix G (de_peek 1) dv_int.q) (dav_cons (dv_ix G (de_peek 1) dv_int.q) (dav_cons dv_int dav_nil))))).x)
    (dss_cons (ds_asg 6 G (dv_op (op_addD G.fit) (dn_lst (dav_cons dv_int dav_nil)).v.q (dv_call G F_run (dav_cons (dv_var 0) (dav_cons (dv_var 8) (dav_cons (dv_var 2) dav_nil)))).q).x)
    (dss_cons (ds_asg 9 G (dn_comp [("k", 7)] G (di_range1 (daq_cons (dv_callB (b_len G.fit) (daq_cons (de_peek 2) daq_nil) M.m_len boot_len').q daq_nil) M.m_range) (blkOk_by (N := ["room", "regulator", "row", "narrow", "plain", "look", "switches", "k", "stay", "clicks"]) (sc := defScope s__law_narrow) (by decide +kernel)) (fun _ _ _ _ _ G1 => (dg_name 7 G1.nd)) (fun _ _ _ _ _ G1 => dts_one (dt_cmp (op_neD' G1.hu G1.fit) (dv_ix G1 (de_peek 6) (dv_op (op_addD G1.fit) (de_peek 7) dv_int.q).q).q (dv_ix G1 (de_peek 6) (de_peek 7)).q)) (fun _ _ _ _ _ G1 => (dv_var 7))).v.x)
    (dss_one (ds_ret (dv_cmp (op_eqD' G.hu G.fit) (dn_comp [("k", 7)] G (di_range2 (daq_cons dv_int.q (daq_cons (dv_callB (b_len G.fit) (daq_cons (de_peek 9) daq_nil) M.m_len boot_len').q daq_nil)) M.m_range) (blkOk_by (N := ["room", "regulator", "row", "narrow", "plain", "look", "switches", "k", "stay", "clicks"]) (sc := defScope s__law_narrow) (by decide +kernel)) (fun _ _ _ _ _ G1 => (dg_name 7 G1.nd)) (fun _ _ _ _ _ G1 => dts_one (dt_cmp (op_ltD G1.fit) (dv_op (op_subD G1.fit) (dv_ix G1 (de_peek 9) (de_peek 7)).q (dv_ix G1 (de_peek 9) (dv_op (op_subD G1.fit) (de_peek 7) dv_int.q).q).q).q dv_int.q)) (fun _ _ _ _ _ G1 => (dv_var 7))).v.q (dn_lst dav_nil).v.q))))))))))))))) (sem__law_narrow x)
theorem fd__law_pick {f : Addr} {fd : FuncData} (M : Mf K w mg x ds ec) (F : Fun K "_law_pick" "_law_pick" s__law_pick f fd) (hm : mg "_law_pick" = some (.ref f)) (F__law_draw : FnT P w K mg base 1 "_law_draw" 1 sp__law_draw) : FnT P w K mg base 2 "_law_pick" 1 sp__law_pick :=
  fn_T (k := 1) F sc__law_pick (mo__law_pick) rfl rfl hm (F.binds (ps := ["draws", "choices"]) fun _ _ _ _ _ _ us hl => match us, hl with | [_, _], _ => rfl) (fun cdv A outer s H E C W G tk nob => (dss_one (ds_ret (dv_ix G (de_peek 1) (dv_callT 0 G F__law_draw (dav_cons (dv_callB (b_len G.fit) (daq_cons (de_peek 1) daq_nil) M.m_len boot_len') dav_nil)).q)))) (sem__law_pick)
theorem fd__law_regulator {f : Addr} {fd : FuncData} (M : Mf K w mg x ds ec) (F : Fun K "_law_regulator" "_law_regulator" s__law_regulator f fd) (hm : mg "_law_regulator" = some (.ref f)) (F__law_draw : FnT P w K mg base 1 "_law_draw" 1 sp__law_draw) (F__law_pick : FnT P w K mg base 2 "_law_pick" 1 sp__law_pick) : FnT P w K mg base 3 "_law_regulator" 1 sp__law_regulator :=
  fn_T (k := 2) F sc__law_regulator (mo__law_regulator) rfl rfl hm (F.binds (ps := ["draws", "room"]) fun _ _ _ _ _ _ us hl => match us, hl with | [_, _], _ => rfl) (fun cdv A outer s H E C W G tk nob => (dss_cons (ds_asg 2 G (dv_callT 0 G F__law_draw (dav_cons (dv_ix G (de_peek 1) dv_int.q) dav_nil)).x)
    (dss_cons (ds_asg 3 G (dv_op (op_addD G.fit) dv_int.q (dv_callT 0 G F__law_draw (dav_cons (dv_callB (b_min G) (daq_cons (dv_op (op_subD G.fit) (dv_ix G (de_peek 1) dv_int.q).q (de_peek 2)).q (daq_cons (dv_callT 0 G F__law_pick (dav_cons (dn_lst (dav_cons dv_int (dav_cons dv_int (dav_cons dv_int dav_nil)))).v dav_nil)).q daq_nil)) M.m_min boot_min') dav_nil)).q).x)
    (dss_cons (ds_asg 4 G (dv_callT 0 G F__law_pick (dav_cons (dn_lst (dav_cons dv_str (dav_cons dv_str (dav_cons dv_str (dav_cons dv_str (dav_cons dv_str dav_nil)))))).v dav_nil)).x)
    (dss_cons (ds_asg 5 G (dv_tup (dav_cons (dv_var 4) (dav_cons (dv_var 2) (dav_cons (dv_op (op_addD G.fit) (de_peek 2) (de_peek 3)) dav_nil)))).x)
    (dss_one (ds_ret (dv_if (dt_cmp (op_inD' G.hu65 G.fit) (de_peek 4) (dv_tup (dav_cons dv_str (dav_cons dv_str dav_nil))).q) (dv_op (op_addD G.fit) (de_peek 5) (dv_tup (dav_cons (dv_op (op_addD G.fit) dv_int.q (dv_callT 0 G F__law_draw (dav_cons dv_int dav_nil)).q) dav_nil)).q) (dv_var 5))))))))) (sem__law_regulator)
theorem fd__law_row {f : Addr} {fd : FuncData} (M : Mf K w mg x ds ec) (F : Fun K "_law_row" "_law_row" s__law_row f fd) (hm : mg "_law_row" = some (.ref f)) (F__law_draw : FnT P w K mg base 1 "_law_draw" 1 sp__law_draw) (F__law_pick : FnT P w K mg base 2 "_law_pick" 1 sp__law_pick) : FnT P w K mg base 3 "_law_row" 1 sp__law_row :=
  fn_T (k := 2) F sc__law_row (mo__law_row) rfl rfl hm (F.binds (ps := ["draws", "longest"]) fun _ _ _ _ _ _ us hl => match us, hl with | [_, _], _ => rfl) (fun cdv A outer s H E C W G tk nob => (dss_cons (ds_asg 2 G (dn_lst dav_nil).v.x)
    (dss_cons (ds_asg 3 G (dv_callT 0 G F__law_draw (dav_cons (dv_op (op_addD G.fit) (de_peek 1) dv_int.q) dav_nil)).x)
    (dss_cons (ds_while G (dt_cmp (op_ltD G.fit) (dv_callB (b_len G.fit) (daq_cons (de_peek 2) daq_nil) M.m_len boot_len').q (de_peek 3)) (dss_one (ds_asg 2 G (dv_op (op_addD G.fit) (de_peek 2) (dv_op (op_mulD G.fit) (dn_lst (dav_cons (dv_op (op_addD G.fit) dv_int.q (dv_callT 0 G F__law_draw (dav_cons dv_int dav_nil)).q) dav_nil)).v.q (dv_callT 0 G F__law_pick (dav_cons (dn_lst (dav_cons dv_int (dav_cons dv_int (dav_cons dv_int (dav_cons dv_int dav_nil))))).v dav_nil)).q).q).x)))
    (dss_one (ds_ret (dv_slice G.fit (de_peek 2) do_none (do_some (de_peek 3))))))))) (sem__law_row)
theorem fd_law {f : Addr} {fd : FuncData} (M : Mf K w mg x ds ec) (F : Fun K "law" "law" s_law f fd) {fS : Addr} {fdS : FuncData} (FS : FnOk P w K mg base (L2.CX P w) 1 fS fdS ["script"] (spStart K)) (hS : mg "_law_start" = some (.ref fS)) (kS : PySem.W.keepIn K (.ref fS) = true) (bS : Binds K fdS ["script"] []) (F__law_room : FnT P w K mg base 2 "_law_room" 0 sp__law_room) (F_states_along : FnD P w K mg base 5 "states_along" 3 (sp_states_along x)) (F__law_narrow : FnD P w K mg base 8 "_law_narrow" 3 (sp__law_narrow x)) (F__law_regulator : FnT P w K mg base 3 "_law_regulator" 1 sp__law_regulator) (F__law_row : FnT P w K mg base 3 "_law_row" 1 sp__law_row) (F_run : FnD P w K mg base 6 "run" 3 (sp_run x)) (hs : t_law x endLaw (startLaw 14)) : FnOk P w K mg base (L2.CX P w) 9 f fd ["script"] (spLaw K) :=
  fn_law (k := 8) F sc_law rfl (fun cdv A outer s H E hr => ⟨_, _, rfl, ps_set (i := 1) sc_law.nd rfl (by first | exact .inl rfl | exact .inr rfl) (pe_callS FS (hr.mono (by decide)) rfl hS kS bS pass_no (pa_cons (pv 0) pa_nil)), fun C W G tk nob => (dss_cons (ds_asg 2 G (dv_callT 1 G F__law_room dav_nil).x)
    (dss_cons (ds_if (dt_cmp (op_eqD' G.hu G.fit) (dv_ix G (de_peek 2) dv_int.q).q dv_int.q) (dss_one (ds_asg 2 G (dv_tup (dav_cons dv_int (dav_cons (dv_callB (b_min G) (daq_cons dv_int.q (daq_cons (dv_ix G (de_peek 2) dv_int.q).q daq_nil)) M.m_min boot_min') (dav_cons (dv_ix G (de_peek 2) dv_int.q) dav_nil)))).x)) dss_nil)
    (dss_cons (ds_par2 3 4 G (dax_cons (dv_callT 1 G F__law_regulator (dav_cons (dv_var 2) dav_nil)).x (dax_cons (dv_callT 1 G F__law_row (dav_cons dv_int dav_nil)).x dax_nil)))
    (dss_cons (ds_asg 5 G (dv_tup (dav_cons (dv_op (op_addD G.fit) (dv_ix G (de_peek 2) dv_int.q).q dv_int.q) (dav_cons (dv_op (op_addD G.fit) (dv_ix G (de_peek 2) dv_int.q).q dv_int.q) (dav_cons (dv_ix G (de_peek 2) dv_int.q) dav_nil)))).x)
    (dss_cons (ds_asg 6 G (dv_op (op_addD G.fit) (dv_tup (dav_cons (dv_ix G (de_peek 3) dv_int.q) (dav_cons (dv_op (op_addD G.fit) (dv_ix G (de_peek 3) dv_int.q).q dv_int.q) (dav_cons (dv_op (op_addD G.fit) (dv_ix G (de_peek 3) dv_int.q).q dv_int.q) dav_nil)))).q (dv_slice G.fit (de_peek 3) (do_some dv_int.q) do_none).q).x)
    (dss_cons (ds_asg 7 G (dv_call G F_states_along (dav_cons (dv_var 2) (dav_cons (dv_var 3) (dav_cons (dv_var 4) dav_nil)))).x)
    (dss_cons (ds_asg 8 G dv_int.x)
    (dss_cons (ds_while G (dt_cmp (op_ltD G.fit) (de_peek 8) (dv_callB (b_len G.fit) (daq_cons (de_peek 4) daq_nil) M.m_len boot_len').q) (dss_cons (ds_asg 9 G (dv_op (op_addD G.fit) (dv_op (op_subD G.fit) (dv_ix G (dv_ix G (de_peek 7) (de_peek 8)).q dv_int.q).q (dv_ix G (de_peek 4) (de_peek 8)).q).q (dv_if (dt_cmp (op_eqD' G.hu G.fit) (dv_ix G (dv_ix G (de_peek 7) (de_peek 8)).q dv_int.q).q dv_int.q) (dv_ix G (de_peek 2) dv_int.q) dv_int).q).x)
    (dss_cons (ds_if (dt_not (dt_chain (op_leD G.fit) (op_leD G.fit) dv_int.q (de_peek 9) (dv_ix G (de_peek 2) dv_int.q).q)) (dss_one ds_brk) dss_nil)
    (dss_one (ds_asg 8 G (dv_op (op_addD G.fit) (de_peek 8) dv_int.q).x)))))
    (dss_cons (ds_setLcV 10 [("heat", 9), ("switch", 12), ("memory", 13)] G (di_seq G (dv_slice G.fit (de_peek 7) do_none (do_some (dv_op (op_addD G.fit) (de_peek 8) dv_int.q).q))) (blkOk_by (N := ["script", "draws", "room", "regulator", "row", "higher", "other", "along", "fits", "heat", "shifted", "roomy", "switch", "memory"]) (sc := defScope s_law) (by decide +kernel)) (fun _ _ _ _ _ G1 => (dg_tup G1 (dgs_cons (dg_name 9 G1.nd) (dgs_cons (dg_name 12 G1.nd) (dgs_cons (dg_name 13 G1.nd) dgs_nil))))) (fun _ _ _ _ _ _ => dts_nil) (fun _ _ _ _ _ G1 => (dv_tup (dav_cons (dv_op (op_addD G1.fit) (de_peek 9) dv_int.q) (dav_cons (dv_var 12) (dav_cons (dv_var 13) dav_nil))))) (sw_true rfl rfl rfl (by decide +kernel)))
    (dss_cons (ds_if (dw_or (dt_cmp (op_neD' G.hu G.fit) (dv_call G F_states_along (dav_cons (dv_var 5) (dav_cons (dv_var 6) (dav_cons (dv_slice G.fit (de_peek 4) do_none (do_some (de_peek 8))) dav_nil)))).q (de_peek 10)) (dw_or1 (dt_cmp (op_neD' G.hu G.fit) (dv_call G F_run (dav_cons (dv_var 5) (dav_cons (dv_var 6) (dav_cons (dv_slice G.fit (de_peek 4) do_none (do_some (de_peek 8))) dav_nil)))).q (dv_call G F_run (dav_cons (dv_var 2) (dav_cons (dv_var 3) (dav_cons (dv_slice G.fit (de_peek 4) do_none (do_some (de_peek 8))) dav_nil)))).q))).t (dss_one (ds_ret dv_bl)) dss_nil)
    (dss_cons (ds_asg 11 G (dv_tup (dav_cons (dv_op (op_addD G.fit) (dv_ix G (de_peek 2) dv_int.q).q dv_int.q) (dav_cons (dv_ix G (de_peek 2) dv_int.q) (dav_cons (dv_ix G (de_peek 2) dv_int.q) dav_nil)))).x)
    (dss_cons (ds_if (dt_cmp (op_neD' G.hu G.fit) (dv_call G F_states_along (dav_cons (dv_var 11) (dav_cons (dv_var 3) (dav_cons (dv_slice G.fit (de_peek 4) do_none (do_some (de_peek 8))) dav_nil)))).q (dv_slice G.fit (de_peek 7) do_none (do_some (dv_op (op_addD G.fit) (de_peek 8) dv_int.q).q)).q) (dss_one (ds_ret dv_bl)) dss_nil)
    (dss_one (ds_ret (dv_call G F__law_narrow (dav_cons (dv_var 2) (dav_cons (dv_var 3) (dav_cons (dv_var 4) dav_nil))))))))))))))))))⟩) hs
end
/-! ### what the top has written -/
theorem all_mk {l : PySem.W.OpenLaw} {w : World} {K : PySem.W.Frag} {h : Heap} {mg : Str → Option Value} {fa : Addr} (X : K.In h) (G : h.Ns mainGlobals mg) (hfa : mg "law" = some (.ref fa))
    {f1 : Addr} {od1 an1 : Option Addr} {sl1 : Array (Option Value)} {oc1 kV1 dc1 pm1 cd1 ct1 : Value}
    {f2 : Addr} {od2 an2 : Option Addr} {sl2 : Array (Option Value)} {oc2 kV2 dc2 pm2 cd2 ct2 : Value}
    {f3 : Addr} {od3 an3 : Option Addr} {sl3 : Array (Option Value)} {oc3 kV3 dc3 pm3 cd3 ct3 : Value}
    {f4 : Addr} {od4 an4 : Option Addr} {sl4 : Array (Option Value)} {oc4 kV4 dc4 pm4 cd4 ct4 : Value}
    {f5 : Addr} {od5 an5 : Option Addr} {sl5 : Array (Option Value)} {oc5 kV5 dc5 pm5 cd5 ct5 : Value}
    {f6 : Addr} {od6 an6 : Option Addr} {sl6 : Array (Option Value)} {oc6 kV6 dc6 pm6 cd6 ct6 : Value}
    {f7 : Addr} {od7 an7 : Option Addr} {sl7 : Array (Option Value)} {oc7 kV7 dc7 pm7 cd7 ct7 : Value}
    {f8 : Addr} {od8 an8 : Option Addr} {sl8 : Array (Option Value)} {oc8 kV8 dc8 pm8 cd8 ct8 : Value}
    {f9 : Addr} {od9 an9 : Option Addr} {sl9 : Array (Option Value)} {oc9 kV9 dc9 pm9 cd9 ct9 : Value}
    {f10 : Addr} {od10 an10 : Option Addr} {sl10 : Array (Option Value)} {oc10 kV10 dc10 pm10 cd10 ct10 : Value}
    {f11 : Addr} {od11 an11 : Option Addr} {sl11 : Array (Option Value)} {oc11 kV11 dc11 pm11 cd11 ct11 : Value}
    {f12 : Addr} {od12 an12 : Option Addr} {sl12 : Array (Option Value)} {oc12 kV12 dc12 pm12 cd12 ct12 : Value}
    {f13 : Addr} {od13 an13 : Option Addr} {sl13 : Array (Option Value)} {oc13 kV13 dc13 pm13 cd13 ct13 : Value}
    {f14 : Addr} {od14 an14 : Option Addr} {sl14 : Array (Option Value)} {oc14 kV14 dc14 pm14 cd14 ct14 : Value}
    {f15 : Addr} {od15 an15 : Option Addr} {sl15 : Array (Option Value)} {oc15 kV15 dc15 pm15 cd15 ct15 : Value}
    {f16 : Addr} {od16 an16 : Option Addr} {sl16 : Array (Option Value)} {oc16 kV16 dc16 pm16 cd16 ct16 : Value}
    {f17 : Addr} {od17 an17 : Option Addr} {sl17 : Array (Option Value)} {oc17 kV17 dc17 pm17 cd17 ct17 : Value}
    {f18 : Addr} {od18 an18 : Option Addr} {sl18 : Array (Option Value)} {oc18 kV18 dc18 pm18 cd18 ct18 : Value}
    {f19 : Addr} {od19 an19 : Option Addr} {sl19 : Array (Option Value)} {oc19 kV19 dc19 pm19 cd19 ct19 : Value}
    {f20 : Addr} {od20 an20 : Option Addr} {sl20 : Array (Option Value)} {oc20 kV20 dc20 pm20 cd20 ct20 : Value}
    {f21 : Addr} {od21 an21 : Option Addr} {sl21 : Array (Option Value)} {oc21 kV21 dc21 pm21 cd21 ct21 : Value}
    {f22 : Addr} {od22 an22 : Option Addr} {sl22 : Array (Option Value)} {oc22 kV22 dc22 pm22 cd22 ct22 : Value}
    {f23 : Addr} {od23 an23 : Option Addr} {sl23 : Array (Option Value)} {oc23 kV23 dc23 pm23 cd23 ct23 : Value}
    {f24 : Addr} {od24 an24 : Option Addr} {sl24 : Array (Option Value)} {oc24 kV24 dc24 pm24 cd24 ct24 : Value}
    {f25 : Addr} {od25 an25 : Option Addr} {sl25 : Array (Option Value)} {oc25 kV25 dc25 pm25 cd25 ct25 : Value}
    {f26 : Addr} {od26 an26 : Option Addr} {sl26 : Array (Option Value)} {oc26 kV26 dc26 pm26 cd26 ct26 : Value}
    {f27 : Addr} {od27 an27 : Option Addr} {sl27 : Array (Option Value)} {oc27 kV27 dc27 pm27 cd27 ct27 : Value}
    {f28 : Addr} {od28 an28 : Option Addr} {sl28 : Array (Option Value)} {oc28 kV28 dc28 pm28 cd28 ct28 : Value}
    {f29 : Addr} {od29 an29 : Option Addr} {sl29 : Array (Option Value)} {oc29 kV29 dc29 pm29 cd29 ct29 : Value}
    {f30 : Addr} {od30 an30 : Option Addr} {sl30 : Array (Option Value)} {oc30 kV30 dc30 pm30 cd30 ct30 : Value}
    {f31 : Addr} {od31 an31 : Option Addr} {sl31 : Array (Option Value)} {oc31 kV31 dc31 pm31 cd31 ct31 : Value}
    {f32 : Addr} {od32 an32 : Option Addr} {sl32 : Array (Option Value)} {oc32 kV32 dc32 pm32 cd32 ct32 : Value}
    {f33 : Addr} {od33 an33 : Option Addr} {sl33 : Array (Option Value)} {oc33 kV33 dc33 pm33 cd33 ct33 : Value}
    {f34 : Addr} {od34 an34 : Option Addr} {sl34 : Array (Option Value)} {oc34 kV34 dc34 pm34 cd34 ct34 : Value}
    {f35 : Addr} {od35 an35 : Option Addr} {sl35 : Array (Option Value)} {oc35 kV35 dc35 pm35 cd35 ct35 : Value}
    {f36 : Addr} {od36 an36 : Option Addr} {sl36 : Array (Option Value)} {oc36 kV36 dc36 pm36 cd36 ct36 : Value}
    {f37 : Addr} {od37 an37 : Option Addr} {sl37 : Array (Option Value)} {oc37 kV37 dc37 pm37 cd37 ct37 : Value}
    {f38 : Addr} {od38 an38 : Option Addr} {sl38 : Array (Option Value)} {oc38 kV38 dc38 pm38 cd38 ct38 : Value}
    {f39 : Addr} {od39 an39 : Option Addr} {sl39 : Array (Option Value)} {oc39 kV39 dc39 pm39 cd39 ct39 : Value}
    {f40 : Addr} {od40 an40 : Option Addr} {sl40 : Array (Option Value)} {oc40 kV40 dc40 pm40 cd40 ct40 : Value}
    {f41 : Addr} {od41 an41 : Option Addr} {sl41 : Array (Option Value)} {oc41 kV41 dc41 pm41 cd41 ct41 : Value}
    {f42 : Addr} {od42 an42 : Option Addr} {sl42 : Array (Option Value)} {oc42 kV42 dc42 pm42 cd42 ct42 : Value}
    {f43 : Addr} {od43 an43 : Option Addr} {sl43 : Array (Option Value)} {oc43 kV43 dc43 pm43 cd43 ct43 : Value}
    {f44 : Addr} {od44 an44 : Option Addr} {sl44 : Array (Option Value)} {oc44 kV44 dc44 pm44 cd44 ct44 : Value}
    {f45 : Addr} {od45 an45 : Option Addr} {sl45 : Array (Option Value)} {oc45 kV45 dc45 pm45 cd45 ct45 : Value}
    {f46 : Addr} {od46 an46 : Option Addr} {sl46 : Array (Option Value)} {oc46 kV46 dc46 pm46 cd46 ct46 : Value}
    {f47 : Addr} {od47 an47 : Option Addr} {sl47 : Array (Option Value)} {oc47 kV47 dc47 pm47 cd47 ct47 : Value}
    {f48 : Addr} {od48 an48 : Option Addr} {sl48 : Array (Option Value)} {oc48 kV48 dc48 pm48 cd48 ct48 : Value}
    {e_Eye : Addr}
    {e_BadRoom : Addr}
    {e_BadRegulator : Addr}
    {e_BadWeather : Addr}
    {e_BadNumber : Addr}
    {d_SIZES : Addr} {de_SIZES : Array DictEntry} {dn_SIZES : Nat}
    {iu_MOST_ROW : Tok}
    {t_WEATHERS : Addr} {to_WEATHERS : Option Addr} {ti_WEATHERS : Array Value} {tn_WEATHERS : Nat} {ts_WEATHERS : Array (Option Value)}
    (ey_a : PySem.W.nsIn K mainGlobals "Eye" = some (some (.ref e_Eye))) (ey_pg : PySem.W.plainGet K e_Eye Str.empty = true) (ey_hd : PySem.W.hasDictIn K e_Eye = true) (ey_po : PySem.W.plainOver K e_Eye = true) (ey_sa : PySem.W.findIn K (.ref e_Eye) "__setattr__" = some (some (.builtin "object.__setattr__"))) (ey_mk : PySem.W.makesIn K e_Eye = true) (ey_kc : PySem.W.keepIn K (.ref e_Eye) = true) (ey_n0 : PySem.W.findIn K (.ref e_Eye) "room" = some none) (ey_n1 : PySem.W.findIn K (.ref e_Eye) "regulator" = some none) (ey_n2 : PySem.W.findIn K (.ref e_Eye) "sight" = some none) (ey_n3 : PySem.W.findIn K (.ref e_Eye) "steps" = some none) (ey_n4 : PySem.W.findIn K (.ref e_Eye) "sets" = some none)
    (a1 : PySem.W.nsIn K mainGlobals "_law_start" = some (some (.ref f1))) (l1 : K.lookup f1 = some ⟨oc1, od1, .func (PySem.W.fnOf "_law_start" "_law_start" (defArgs s__law_start) (defBody s__law_start) (defScope s__law_start) .none kV1 dc1 pm1 an1 cd1 ct1), sl1⟩) (c1 : PySem.W.codeIn K cd1 "_law_start" = true) (k1 : PySem.W.keepIn K (.ref f1) = true)
    (a2 : PySem.W.nsIn K mainGlobals "_law_draw" = some (some (.ref f2))) (l2 : K.lookup f2 = some ⟨oc2, od2, .func (PySem.W.fnOf "_law_draw" "_law_draw" (defArgs s__law_draw) (defBody s__law_draw) (defScope s__law_draw) .none kV2 dc2 pm2 an2 cd2 ct2), sl2⟩) (c2 : PySem.W.codeIn K cd2 "_law_draw" = true) (k2 : PySem.W.keepIn K (.ref f2) = true)
    (a3 : PySem.W.nsIn K mainGlobals "_law_room" = some (some (.ref f3))) (l3 : K.lookup f3 = some ⟨oc3, od3, .func (PySem.W.fnOf "_law_room" "_law_room" (defArgs s__law_room) (defBody s__law_room) (defScope s__law_room) .none kV3 dc3 pm3 an3 cd3 ct3), sl3⟩) (c3 : PySem.W.codeIn K cd3 "_law_room" = true) (k3 : PySem.W.keepIn K (.ref f3) = true)
    (a4 : PySem.W.nsIn K mainGlobals "is_int" = some (some (.ref f4))) (l4 : K.lookup f4 = some ⟨oc4, od4, .func (PySem.W.fnOf "is_int" "is_int" (defArgs s_is_int) (defBody s_is_int) (defScope s_is_int) .none kV4 dc4 pm4 an4 cd4 ct4), sl4⟩) (c4 : PySem.W.codeIn K cd4 "is_int" = true) (k4 : PySem.W.keepIn K (.ref f4) = true)
    (a5 : PySem.W.nsIn K mainGlobals "is_room" = some (some (.ref f5))) (l5 : K.lookup f5 = some ⟨oc5, od5, .func (PySem.W.fnOf "is_room" "is_room" (defArgs s_is_room) (defBody s_is_room) (defScope s_is_room) .none kV5 dc5 pm5 an5 cd5 ct5), sl5⟩) (c5 : PySem.W.codeIn K cd5 "is_room" = true) (k5 : PySem.W.keepIn K (.ref f5) = true)
    (a6 : PySem.W.nsIn K mainGlobals "check_room" = some (some (.ref f6))) (l6 : K.lookup f6 = some ⟨oc6, od6, .func (PySem.W.fnOf "check_room" "check_room" (defArgs s_check_room) (defBody s_check_room) (defScope s_check_room) .none kV6 dc6 pm6 an6 cd6 ct6), sl6⟩) (c6 : PySem.W.codeIn K cd6 "check_room" = true) (k6 : PySem.W.keepIn K (.ref f6) = true)
    (a7 : PySem.W.nsIn K mainGlobals "is_for" = some (some (.ref f7))) (l7 : K.lookup f7 = some ⟨oc7, od7, .func (PySem.W.fnOf "is_for" "is_for" (defArgs s_is_for) (defBody s_is_for) (defScope s_is_for) .none kV7 dc7 pm7 an7 cd7 ct7), sl7⟩) (c7 : PySem.W.codeIn K cd7 "is_for" = true) (k7 : PySem.W.keepIn K (.ref f7) = true)
    (a8 : PySem.W.nsIn K mainGlobals "check_regulator" = some (some (.ref f8))) (l8 : K.lookup f8 = some ⟨oc8, od8, .func (PySem.W.fnOf "check_regulator" "check_regulator" (defArgs s_check_regulator) (defBody s_check_regulator) (defScope s_check_regulator) .none kV8 dc8 pm8 an8 cd8 ct8), sl8⟩) (c8 : PySem.W.codeIn K cd8 "check_regulator" = true) (k8 : PySem.W.keepIn K (.ref f8) = true)
    (a9 : PySem.W.nsIn K mainGlobals "is_weather" = some (some (.ref f9))) (l9 : K.lookup f9 = some ⟨oc9, od9, .func (PySem.W.fnOf "is_weather" "is_weather" (defArgs s_is_weather) (defBody s_is_weather) (defScope s_is_weather) .none kV9 dc9 pm9 an9 cd9 ct9), sl9⟩) (c9 : PySem.W.codeIn K cd9 "is_weather" = true) (k9 : PySem.W.keepIn K (.ref f9) = true)
    (a10 : PySem.W.nsIn K mainGlobals "is_row" = some (some (.ref f10))) (l10 : K.lookup f10 = some ⟨oc10, od10, .func (PySem.W.fnOf "is_row" "is_row" (defArgs s_is_row) (defBody s_is_row) (defScope s_is_row) .none kV10 dc10 pm10 an10 cd10 ct10), sl10⟩) (c10 : PySem.W.codeIn K cd10 "is_row" = true) (k10 : PySem.W.keepIn K (.ref f10) = true)
    (a11 : PySem.W.nsIn K mainGlobals "check_row" = some (some (.ref f11))) (l11 : K.lookup f11 = some ⟨oc11, od11, .func (PySem.W.fnOf "check_row" "check_row" (defArgs s_check_row) (defBody s_check_row) (defScope s_check_row) .none kV11 dc11 pm11 an11 cd11 ct11), sl11⟩) (c11 : PySem.W.codeIn K cd11 "check_row" = true) (k11 : PySem.W.keepIn K (.ref f11) = true)
    (a12 : PySem.W.nsIn K mainGlobals "first_state" = some (some (.ref f12))) (l12 : K.lookup f12 = some ⟨oc12, od12, .func (PySem.W.fnOf "first_state" "first_state" (defArgs s_first_state) (defBody s_first_state) (defScope s_first_state) .none kV12 dc12 pm12 an12 cd12 ct12), sl12⟩) (c12 : PySem.W.codeIn K cd12 "first_state" = true) (k12 : PySem.W.keepIn K (.ref f12) = true)
    (a13 : PySem.W.nsIn K mainGlobals "warmed" = some (some (.ref f13))) (l13 : K.lookup f13 = some ⟨oc13, od13, .func (PySem.W.fnOf "warmed" "warmed" (defArgs s_warmed) (defBody s_warmed) (defScope s_warmed) .none kV13 dc13 pm13 an13 cd13 ct13), sl13⟩) (c13 : PySem.W.codeIn K cd13 "warmed" = true) (k13 : PySem.W.keepIn K (.ref f13) = true)
    (a14 : PySem.W.nsIn K mainGlobals "decided" = some (some (.ref f14))) (l14 : K.lookup f14 = some ⟨oc14, od14, .func (PySem.W.fnOf "decided" "decided" (defArgs s_decided) (defBody s_decided) (defScope s_decided) .none kV14 dc14 pm14 an14 cd14 ct14), sl14⟩) (c14 : PySem.W.codeIn K cd14 "decided" = true) (k14 : PySem.W.keepIn K (.ref f14) = true)
    (a15 : PySem.W.nsIn K mainGlobals "set_switch" = some (some (.ref f15))) (l15 : K.lookup f15 = some ⟨oc15, od15, .func (PySem.W.fnOf "set_switch" "set_switch" (defArgs s_set_switch) (defBody s_set_switch) (defScope s_set_switch) .none kV15 dc15 pm15 an15 cd15 ct15), sl15⟩) (c15 : PySem.W.codeIn K cd15 "set_switch" = true) (k15 : PySem.W.keepIn K (.ref f15) = true)
    (a16 : PySem.W.nsIn K mainGlobals "step" = some (some (.ref f16))) (l16 : K.lookup f16 = some ⟨oc16, od16, .func (PySem.W.fnOf "step" "step" (defArgs s_step) (defBody s_step) (defScope s_step) .none kV16 dc16 pm16 an16 cd16 ct16), sl16⟩) (c16 : PySem.W.codeIn K cd16 "step" = true) (k16 : PySem.W.keepIn K (.ref f16) = true)
    (a17 : PySem.W.nsIn K mainGlobals "states_of" = some (some (.ref f17))) (l17 : K.lookup f17 = some ⟨oc17, od17, .func (PySem.W.fnOf "states_of" "states_of" (defArgs s_states_of) (defBody s_states_of) (defScope s_states_of) .none kV17 dc17 pm17 an17 cd17 ct17), sl17⟩) (c17 : PySem.W.codeIn K cd17 "states_of" = true) (k17 : PySem.W.keepIn K (.ref f17) = true)
    (a18 : PySem.W.nsIn K mainGlobals "states_along" = some (some (.ref f18))) (l18 : K.lookup f18 = some ⟨oc18, od18, .func (PySem.W.fnOf "states_along" "states_along" (defArgs s_states_along) (defBody s_states_along) (defScope s_states_along) .none kV18 dc18 pm18 an18 cd18 ct18), sl18⟩) (c18 : PySem.W.codeIn K cd18 "states_along" = true) (k18 : PySem.W.keepIn K (.ref f18) = true)
    (a19 : PySem.W.nsIn K mainGlobals "run" = some (some (.ref f19))) (l19 : K.lookup f19 = some ⟨oc19, od19, .func (PySem.W.fnOf "run" "run" (defArgs s_run) (defBody s_run) (defScope s_run) .none kV19 dc19 pm19 an19 cd19 ct19), sl19⟩) (c19 : PySem.W.codeIn K cd19 "run" = true) (k19 : PySem.W.keepIn K (.ref f19) = true)
    (a20 : PySem.W.nsIn K mainGlobals "check_two" = some (some (.ref f20))) (l20 : K.lookup f20 = some ⟨oc20, od20, .func (PySem.W.fnOf "check_two" "check_two" (defArgs s_check_two) (defBody s_check_two) (defScope s_check_two) .none kV20 dc20 pm20 an20 cd20 ct20), sl20⟩) (c20 : PySem.W.codeIn K cd20 "check_two" = true) (k20 : PySem.W.keepIn K (.ref f20) = true)
    (a21 : PySem.W.nsIn K mainGlobals "parting_of" = some (some (.ref f21))) (l21 : K.lookup f21 = some ⟨oc21, od21, .func (PySem.W.fnOf "parting_of" "parting_of" (defArgs s_parting_of) (defBody s_parting_of) (defScope s_parting_of) .none kV21 dc21 pm21 an21 cd21 ct21), sl21⟩) (c21 : PySem.W.codeIn K cd21 "parting_of" = true) (k21 : PySem.W.keepIn K (.ref f21) = true)
    (a22 : PySem.W.nsIn K mainGlobals "same" = some (some (.ref f22))) (l22 : K.lookup f22 = some ⟨oc22, od22, .func (PySem.W.fnOf "same" "same" (defArgs s_same) (defBody s_same) (defScope s_same) .none kV22 dc22 pm22 an22 cd22 ct22), sl22⟩) (c22 : PySem.W.codeIn K cd22 "same" = true) (k22 : PySem.W.keepIn K (.ref f22) = true)
    (a23 : PySem.W.nsIn K mainGlobals "heights_of" = some (some (.ref f23))) (l23 : K.lookup f23 = some ⟨oc23, od23, .func (PySem.W.fnOf "heights_of" "heights_of" (defArgs s_heights_of) (defBody s_heights_of) (defScope s_heights_of) .none kV23 dc23 pm23 an23 cd23 ct23), sl23⟩) (c23 : PySem.W.codeIn K cd23 "heights_of" = true) (k23 : PySem.W.keepIn K (.ref f23) = true)
    (a24 : PySem.W.nsIn K mainGlobals "is_less" = some (some (.ref f24))) (l24 : K.lookup f24 = some ⟨oc24, od24, .func (PySem.W.fnOf "is_less" "is_less" (defArgs s_is_less) (defBody s_is_less) (defScope s_is_less) .none kV24 dc24 pm24 an24 cd24 ct24), sl24⟩) (c24 : PySem.W.codeIn K cd24 "is_less" = true) (k24 : PySem.W.keepIn K (.ref f24) = true)
    (a25 : PySem.W.nsIn K mainGlobals "lowest" = some (some (.ref f25))) (l25 : K.lookup f25 = some ⟨oc25, od25, .func (PySem.W.fnOf "lowest" "lowest" (defArgs s_lowest) (defBody s_lowest) (defScope s_lowest) .none kV25 dc25 pm25 an25 cd25 ct25), sl25⟩) (c25 : PySem.W.codeIn K cd25 "lowest" = true) (k25 : PySem.W.keepIn K (.ref f25) = true)
    (a26 : PySem.W.nsIn K mainGlobals "greatest_of" = some (some (.ref f26))) (l26 : K.lookup f26 = some ⟨oc26, od26, .func (PySem.W.fnOf "greatest_of" "greatest_of" (defArgs s_greatest_of) (defBody s_greatest_of) (defScope s_greatest_of) .none kV26 dc26 pm26 an26 cd26 ct26), sl26⟩) (c26 : PySem.W.codeIn K cd26 "greatest_of" = true) (k26 : PySem.W.keepIn K (.ref f26) = true)
    (a27 : PySem.W.nsIn K mainGlobals "rows_of" = some (some (.ref f27))) (l27 : K.lookup f27 = some ⟨oc27, od27, .func (PySem.W.fnOf "rows_of" "rows_of" (defArgs s_rows_of) (defBody s_rows_of) (defScope s_rows_of) .none kV27 dc27 pm27 an27 cd27 ct27), sl27⟩) (c27 : PySem.W.codeIn K cd27 "rows_of" = true) (k27 : PySem.W.keepIn K (.ref f27) = true)
    (a28 : PySem.W.nsIn K mainGlobals "roads_of" = some (some (.ref f28))) (l28 : K.lookup f28 = some ⟨oc28, od28, .func (PySem.W.fnOf "roads_of" "roads_of" (defArgs s_roads_of) (defBody s_roads_of) (defScope s_roads_of) .none kV28 dc28 pm28 an28 cd28 ct28), sl28⟩) (c28 : PySem.W.codeIn K cd28 "roads_of" = true) (k28 : PySem.W.keepIn K (.ref f28) = true)
    (a29 : PySem.W.nsIn K mainGlobals "greatest_share" = some (some (.ref f29))) (l29 : K.lookup f29 = some ⟨oc29, od29, .func (PySem.W.fnOf "greatest_share" "greatest_share" (defArgs s_greatest_share) (defBody s_greatest_share) (defScope s_greatest_share) .none kV29 dc29 pm29 an29 cd29 ct29), sl29⟩) (c29 : PySem.W.codeIn K cd29 "greatest_share" = true) (k29 : PySem.W.keepIn K (.ref f29) = true)
    (a30 : PySem.W.nsIn K mainGlobals "click_share" = some (some (.ref f30))) (l30 : K.lookup f30 = some ⟨oc30, od30, .func (PySem.W.fnOf "click_share" "click_share" (defArgs s_click_share) (defBody s_click_share) (defScope s_click_share) .none kV30 dc30 pm30 an30 cd30 ct30), sl30⟩) (c30 : PySem.W.codeIn K cd30 "click_share" = true) (k30 : PySem.W.keepIn K (.ref f30) = true)
    (a31 : PySem.W.nsIn K mainGlobals "check_family" = some (some (.ref f31))) (l31 : K.lookup f31 = some ⟨oc31, od31, .func (PySem.W.fnOf "check_family" "check_family" (defArgs s_check_family) (defBody s_check_family) (defScope s_check_family) .none kV31 dc31 pm31 an31 cd31 ct31), sl31⟩) (c31 : PySem.W.codeIn K cd31 "check_family" = true) (k31 : PySem.W.keepIn K (.ref f31) = true)
    (a32 : PySem.W.nsIn K mainGlobals "sorts_of" = some (some (.ref f32))) (l32 : K.lookup f32 = some ⟨oc32, od32, .func (PySem.W.fnOf "sorts_of" "sorts_of" (defArgs s_sorts_of) (defBody s_sorts_of) (defScope s_sorts_of) .none kV32 dc32 pm32 an32 cd32 ct32), sl32⟩) (c32 : PySem.W.codeIn K cd32 "sorts_of" = true) (k32 : PySem.W.keepIn K (.ref f32) = true)
    (a33 : PySem.W.nsIn K mainGlobals "groups_by" = some (some (.ref f33))) (l33 : K.lookup f33 = some ⟨oc33, od33, .func (PySem.W.fnOf "groups_by" "groups_by" (defArgs s_groups_by) (defBody s_groups_by) (defScope s_groups_by) .none kV33 dc33 pm33 an33 cd33 ct33), sl33⟩) (c33 : PySem.W.codeIn K cd33 "groups_by" = true) (k33 : PySem.W.keepIn K (.ref f33) = true)
    (a34 : PySem.W.nsIn K mainGlobals "classes" = some (some (.ref f34))) (l34 : K.lookup f34 = some ⟨oc34, od34, .func (PySem.W.fnOf "classes" "classes" (defArgs s_classes) (defBody s_classes) (defScope s_classes) .none kV34 dc34 pm34 an34 cd34 ct34), sl34⟩) (c34 : PySem.W.codeIn K cd34 "classes" = true) (k34 : PySem.W.keepIn K (.ref f34) = true)
    (a35 : PySem.W.nsIn K mainGlobals "check_number" = some (some (.ref f35))) (l35 : K.lookup f35 = some ⟨oc35, od35, .func (PySem.W.fnOf "check_number" "check_number" (defArgs s_check_number) (defBody s_check_number) (defScope s_check_number) .none kV35 dc35 pm35 an35 cd35 ct35), sl35⟩) (c35 : PySem.W.codeIn K cd35 "check_number" = true) (k35 : PySem.W.keepIn K (.ref f35) = true)
    (a36 : PySem.W.nsIn K mainGlobals "check_sight" = some (some (.ref f36))) (l36 : K.lookup f36 = some ⟨oc36, od36, .func (PySem.W.fnOf "check_sight" "check_sight" (defArgs s_check_sight) (defBody s_check_sight) (defScope s_check_sight) .none kV36 dc36 pm36 an36 cd36 ct36), sl36⟩) (c36 : PySem.W.codeIn K cd36 "check_sight" = true) (k36 : PySem.W.keepIn K (.ref f36) = true)
    (a37 : PySem.W.findIn K (.ref e_Eye) "__init__" = some (some (.ref f37))) (i37 : PySem.W.isFn K (.ref f37) = true) (l37 : K.lookup f37 = some ⟨oc37, od37, .func (PySem.W.fnOf "__init__" "Eye.__init__" (defArgs s_Eye___init__) (defBody s_Eye___init__) (defScope s_Eye___init__) .none kV37 dc37 pm37 an37 cd37 ct37), sl37⟩) (c37 : PySem.W.codeIn K cd37 "Eye.__init__" = true) (k37 : PySem.W.keepIn K (.ref f37) = true)
    (a38 : PySem.W.nsIn K mainGlobals "mark_of" = some (some (.ref f38))) (l38 : K.lookup f38 = some ⟨oc38, od38, .func (PySem.W.fnOf "mark_of" "mark_of" (defArgs s_mark_of) (defBody s_mark_of) (defScope s_mark_of) .none kV38 dc38 pm38 an38 cd38 ct38), sl38⟩) (c38 : PySem.W.codeIn K cd38 "mark_of" = true) (k38 : PySem.W.keepIn K (.ref f38) = true)
    (a39 : PySem.W.findIn K (.ref e_Eye) "following" = some (some (.ref f39))) (i39 : PySem.W.isFn K (.ref f39) = true) (l39 : K.lookup f39 = some ⟨oc39, od39, .func (PySem.W.fnOf "following" "Eye.following" (defArgs s_Eye_following) (defBody s_Eye_following) (defScope s_Eye_following) .none kV39 dc39 pm39 an39 cd39 ct39), sl39⟩) (c39 : PySem.W.codeIn K cd39 "Eye.following" = true) (k39 : PySem.W.keepIn K (.ref f39) = true)
    (a40 : PySem.W.findIn K (.ref e_Eye) "after" = some (some (.ref f40))) (i40 : PySem.W.isFn K (.ref f40) = true) (l40 : K.lookup f40 = some ⟨oc40, od40, .func (PySem.W.fnOf "after" "Eye.after" (defArgs s_Eye_after) (defBody s_Eye_after) (defScope s_Eye_after) .none kV40 dc40 pm40 an40 cd40 ct40), sl40⟩) (c40 : PySem.W.codeIn K cd40 "Eye.after" = true) (k40 : PySem.W.keepIn K (.ref f40) = true)
    (a41 : PySem.W.findIn K (.ref e_Eye) "begun" = some (some (.ref f41))) (i41 : PySem.W.isFn K (.ref f41) = true) (l41 : K.lookup f41 = some ⟨oc41, od41, .func (PySem.W.fnOf "begun" "Eye.begun" (defArgs s_Eye_begun) (defBody s_Eye_begun) (defScope s_Eye_begun) .none kV41 dc41 pm41 an41 cd41 ct41), sl41⟩) (c41 : PySem.W.codeIn K cd41 "Eye.begun" = true) (k41 : PySem.W.keepIn K (.ref f41) = true)
    (a42 : PySem.W.nsIn K mainGlobals "marks_apart" = some (some (.ref f42))) (l42 : K.lookup f42 = some ⟨oc42, od42, .func (PySem.W.fnOf "marks_apart" "marks_apart" (defArgs s_marks_apart) (defBody s_marks_apart) (defScope s_marks_apart) .none kV42 dc42 pm42 an42 cd42 ct42), sl42⟩) (c42 : PySem.W.codeIn K cd42 "marks_apart" = true) (k42 : PySem.W.keepIn K (.ref f42) = true)
    (a43 : PySem.W.nsIn K mainGlobals "spoken_classes" = some (some (.ref f43))) (l43 : K.lookup f43 = some ⟨oc43, od43, .func (PySem.W.fnOf "spoken_classes" "spoken_classes" (defArgs s_spoken_classes) (defBody s_spoken_classes) (defScope s_spoken_classes) .none kV43 dc43 pm43 an43 cd43 ct43), sl43⟩) (c43 : PySem.W.codeIn K cd43 "spoken_classes" = true) (k43 : PySem.W.keepIn K (.ref f43) = true)
    (a44 : PySem.W.nsIn K mainGlobals "_law_narrow" = some (some (.ref f44))) (l44 : K.lookup f44 = some ⟨oc44, od44, .func (PySem.W.fnOf "_law_narrow" "_law_narrow" (defArgs s__law_narrow) (defBody s__law_narrow) (defScope s__law_narrow) .none kV44 dc44 pm44 an44 cd44 ct44), sl44⟩) (c44 : PySem.W.codeIn K cd44 "_law_narrow" = true) (k44 : PySem.W.keepIn K (.ref f44) = true)
    (a45 : PySem.W.nsIn K mainGlobals "_law_pick" = some (some (.ref f45))) (l45 : K.lookup f45 = some ⟨oc45, od45, .func (PySem.W.fnOf "_law_pick" "_law_pick" (defArgs s__law_pick) (defBody s__law_pick) (defScope s__law_pick) .none kV45 dc45 pm45 an45 cd45 ct45), sl45⟩) (c45 : PySem.W.codeIn K cd45 "_law_pick" = true) (k45 : PySem.W.keepIn K (.ref f45) = true)
    (a46 : PySem.W.nsIn K mainGlobals "_law_regulator" = some (some (.ref f46))) (l46 : K.lookup f46 = some ⟨oc46, od46, .func (PySem.W.fnOf "_law_regulator" "_law_regulator" (defArgs s__law_regulator) (defBody s__law_regulator) (defScope s__law_regulator) .none kV46 dc46 pm46 an46 cd46 ct46), sl46⟩) (c46 : PySem.W.codeIn K cd46 "_law_regulator" = true) (k46 : PySem.W.keepIn K (.ref f46) = true)
    (a47 : PySem.W.nsIn K mainGlobals "_law_row" = some (some (.ref f47))) (l47 : K.lookup f47 = some ⟨oc47, od47, .func (PySem.W.fnOf "_law_row" "_law_row" (defArgs s__law_row) (defBody s__law_row) (defScope s__law_row) .none kV47 dc47 pm47 an47 cd47 ct47), sl47⟩) (c47 : PySem.W.codeIn K cd47 "_law_row" = true) (k47 : PySem.W.keepIn K (.ref f47) = true)
    (a48 : PySem.W.nsIn K mainGlobals "law" = some (some (.ref f48))) (l48 : K.lookup f48 = some ⟨oc48, od48, .func (PySem.W.fnOf "law" "law" (defArgs s_law) (defBody s_law) (defScope s_law) .none kV48 dc48 pm48 an48 cd48 ct48), sl48⟩) (c48 : PySem.W.codeIn K cd48 "law" = true) (k48 : PySem.W.keepIn K (.ref f48) = true)
    (z_list : PySem.W.nsIn K mainGlobals "list" = some none)
    (z_len : PySem.W.nsIn K mainGlobals "len" = some none)
    (z_isinstance : PySem.W.nsIn K mainGlobals "isinstance" = some none)
    (z_int : PySem.W.nsIn K mainGlobals "int" = some none)
    (z_bool : PySem.W.nsIn K mainGlobals "bool" = some none)
    (z_tuple : PySem.W.nsIn K mainGlobals "tuple" = some none)
    (z_str : PySem.W.nsIn K mainGlobals "str" = some none)
    (z_all : PySem.W.nsIn K mainGlobals "all" = some none)
    (z_min : PySem.W.nsIn K mainGlobals "min" = some none)
    (z_max : PySem.W.nsIn K mainGlobals "max" = some none)
    (z_range : PySem.W.nsIn K mainGlobals "range" = some none)
    (z_abs : PySem.W.nsIn K mainGlobals "abs" = some none)
    (z_enumerate : PySem.W.nsIn K mainGlobals "enumerate" = some none)
    (z_dict : PySem.W.nsIn K mainGlobals "dict" = some none)
    (z_sorted : PySem.W.nsIn K mainGlobals "sorted" = some none)
    (z_set : PySem.W.nsIn K mainGlobals "set" = some none)
    (xa_BadRoom : PySem.W.nsIn K mainGlobals "BadRoom" = some (some (.ref e_BadRoom))) (xk_BadRoom : PySem.W.keepIn K (.ref e_BadRoom) = true) (xe_BadRoom : PySem.W.excIn K e_BadRoom [.type "ValueError", .type "Exception", .type "BaseException", .type "object"] "ValueError.__new__" = true) (xb_BadRoom : PySem.W.subIn K (.ref e_BadRoom) (.type "BaseException") = some true) (xt_BadRoom : PySem.W.typeIn K (.ref e_BadRoom) = some (.type "type"))
    (xa_BadRegulator : PySem.W.nsIn K mainGlobals "BadRegulator" = some (some (.ref e_BadRegulator))) (xk_BadRegulator : PySem.W.keepIn K (.ref e_BadRegulator) = true) (xe_BadRegulator : PySem.W.excIn K e_BadRegulator [.type "ValueError", .type "Exception", .type "BaseException", .type "object"] "ValueError.__new__" = true) (xb_BadRegulator : PySem.W.subIn K (.ref e_BadRegulator) (.type "BaseException") = some true) (xt_BadRegulator : PySem.W.typeIn K (.ref e_BadRegulator) = some (.type "type"))
    (xa_BadWeather : PySem.W.nsIn K mainGlobals "BadWeather" = some (some (.ref e_BadWeather))) (xk_BadWeather : PySem.W.keepIn K (.ref e_BadWeather) = true) (xe_BadWeather : PySem.W.excIn K e_BadWeather [.type "ValueError", .type "Exception", .type "BaseException", .type "object"] "ValueError.__new__" = true) (xb_BadWeather : PySem.W.subIn K (.ref e_BadWeather) (.type "BaseException") = some true) (xt_BadWeather : PySem.W.typeIn K (.ref e_BadWeather) = some (.type "type"))
    (xa_BadNumber : PySem.W.nsIn K mainGlobals "BadNumber" = some (some (.ref e_BadNumber))) (xk_BadNumber : PySem.W.keepIn K (.ref e_BadNumber) = true) (xe_BadNumber : PySem.W.excIn K e_BadNumber [.type "ValueError", .type "Exception", .type "BaseException", .type "object"] "ValueError.__new__" = true) (xb_BadNumber : PySem.W.subIn K (.ref e_BadNumber) (.type "BaseException") = some true) (xt_BadNumber : PySem.W.typeIn K (.ref e_BadNumber) = some (.type "type"))
    (da_SIZES : PySem.W.nsIn K mainGlobals "SIZES" = some (some (.ref d_SIZES))) (dl_SIZES : K.lookup d_SIZES = some ⟨.type "dict", none, .dict de_SIZES dn_SIZES, #[]⟩) (dk_SIZES : PySem.W.KeysLit w.params de_SIZES.toList) (ds_SIZES : (d_SIZES == sysModules) = false) (dt_SIZES : Ent de_SIZES.toList l_SIZES)
    (i_MOST_ROW : PySem.W.nsIn K mainGlobals "MOST_ROW" = some (some (.int 60 iu_MOST_ROW)))
    (ta_WEATHERS : PySem.W.nsIn K mainGlobals "WEATHERS" = some (some (.ref t_WEATHERS))) (tl_WEATHERS : K.lookup t_WEATHERS = some ⟨.type "tuple", to_WEATHERS, .seq ti_WEATHERS tn_WEATHERS, ts_WEATHERS⟩) (tz_WEATHERS : ti_WEATHERS.size ≤ sizeLine) (tv_WEATHERS : Vals (ds_WEATHERS.map D.v) ti_WEATHERS.toList)
    : ∃ fd : FuncData, (∀ (s : Shared) (v : Value), BindsTo s fd ⟨[v], []⟩ [("script", v)]) ∧ ∀ base : Heap, K.In base → base.Ns mainGlobals mg → FnOk l.prog w K mg base (L2.CX l.prog w) 9 fa fd ["script"] (spLaw K) := by
  have e := hfa.symm.trans (PySem.W.mg_of X G a48)
  cases e
  let x : Xc := ⟨0, e_BadRoom, e_BadRegulator, e_BadWeather, 0, e_BadNumber, 0, 0⟩
  let ds : Str → Addr := fun z => if z = "SIZES" then d_SIZES else  0
  have M : Mf K w mg x ds e_Eye := ⟨⟨⟨ey_pg, ey_hd, ey_po, ey_sa⟩, ey_n0, ey_n1, ey_n2, ey_n3, ey_n4⟩, PySem.W.mg_none_of X G z_list, PySem.W.mg_none_of X G z_len, PySem.W.mg_none_of X G z_isinstance, PySem.W.mg_none_of X G z_int, PySem.W.mg_none_of X G z_bool, PySem.W.mg_none_of X G z_tuple, PySem.W.mg_none_of X G z_str, PySem.W.mg_none_of X G z_all, PySem.W.mg_none_of X G z_min, PySem.W.mg_none_of X G z_max, PySem.W.mg_none_of X G z_range, PySem.W.mg_none_of X G z_abs, PySem.W.mg_none_of X G z_enumerate, PySem.W.mg_none_of X G z_dict, PySem.W.mg_none_of X G z_sorted, PySem.W.mg_none_of X G z_set, ⟨PySem.W.mg_of X G xa_BadRoom, xk_BadRoom, xe_BadRoom, xb_BadRoom, xt_BadRoom⟩, ⟨PySem.W.mg_of X G xa_BadRegulator, xk_BadRegulator, xe_BadRegulator, xb_BadRegulator, xt_BadRegulator⟩, ⟨PySem.W.mg_of X G xa_BadWeather, xk_BadWeather, xe_BadWeather, xb_BadWeather, xt_BadWeather⟩, ⟨PySem.W.mg_of X G xa_BadNumber, xk_BadNumber, xe_BadNumber, xb_BadNumber, xt_BadNumber⟩, ⟨PySem.W.mg_of X G da_SIZES, ⟨de_SIZES, dn_SIZES, ⟨dl_SIZES, dk_SIZES, ds_SIZES⟩, dt_SIZES⟩⟩, ⟨_, PySem.W.mg_of X G i_MOST_ROW, ⟨_, rfl⟩⟩, ⟨_, PySem.W.mg_of X G ta_WEATHERS, ⟨_, _, _, tl_WEATHERS, rfl, rfl, tz_WEATHERS, tv_WEATHERS⟩, rfl⟩⟩
  have F1 := fun_mk (st := s__law_start) l1 c1 k1
  have F2 := fun_mk (st := s__law_draw) l2 c2 k2
  have F3 := fun_mk (st := s__law_room) l3 c3 k3
  have F4 := fun_mk (st := s_is_int) l4 c4 k4
  have F5 := fun_mk (st := s_is_room) l5 c5 k5
  have F6 := fun_mk (st := s_check_room) l6 c6 k6
  have F7 := fun_mk (st := s_is_for) l7 c7 k7
  have F8 := fun_mk (st := s_check_regulator) l8 c8 k8
  have F9 := fun_mk (st := s_is_weather) l9 c9 k9
  have F10 := fun_mk (st := s_is_row) l10 c10 k10
  have F11 := fun_mk (st := s_check_row) l11 c11 k11
  have F12 := fun_mk (st := s_first_state) l12 c12 k12
  have F13 := fun_mk (st := s_warmed) l13 c13 k13
  have F14 := fun_mk (st := s_decided) l14 c14 k14
  have F15 := fun_mk (st := s_set_switch) l15 c15 k15
  have F16 := fun_mk (st := s_step) l16 c16 k16
  have F17 := fun_mk (st := s_states_of) l17 c17 k17
  have F18 := fun_mk (st := s_states_along) l18 c18 k18
  have F19 := fun_mk (st := s_run) l19 c19 k19
  have F20 := fun_mk (st := s_check_two) l20 c20 k20
  have F21 := fun_mk (st := s_parting_of) l21 c21 k21
  have F22 := fun_mk (st := s_same) l22 c22 k22
  have F23 := fun_mk (st := s_heights_of) l23 c23 k23
  have F24 := fun_mk (st := s_is_less) l24 c24 k24
  have F25 := fun_mk (st := s_lowest) l25 c25 k25
  have F26 := fun_mk (st := s_greatest_of) l26 c26 k26
  have F27 := fun_mk (st := s_rows_of) l27 c27 k27
  have F28 := fun_mk (st := s_roads_of) l28 c28 k28
  have F29 := fun_mk (st := s_greatest_share) l29 c29 k29
  have F30 := fun_mk (st := s_click_share) l30 c30 k30
  have F31 := fun_mk (st := s_check_family) l31 c31 k31
  have F32 := fun_mk (st := s_sorts_of) l32 c32 k32
  have F33 := fun_mk (st := s_groups_by) l33 c33 k33
  have F34 := fun_mk (st := s_classes) l34 c34 k34
  have F35 := fun_mk (st := s_check_number) l35 c35 k35
  have F36 := fun_mk (st := s_check_sight) l36 c36 k36
  have F37 := fun_mk (st := s_Eye___init__) l37 c37 k37
  have F38 := fun_mk (st := s_mark_of) l38 c38 k38
  have F39 := fun_mk (st := s_Eye_following) l39 c39 k39
  have F40 := fun_mk (st := s_Eye_after) l40 c40 k40
  have F41 := fun_mk (st := s_Eye_begun) l41 c41 k41
  have F42 := fun_mk (st := s_marks_apart) l42 c42 k42
  have F43 := fun_mk (st := s_spoken_classes) l43 c43 k43
  have F44 := fun_mk (st := s__law_narrow) l44 c44 k44
  have F45 := fun_mk (st := s__law_pick) l45 c45 k45
  have F46 := fun_mk (st := s__law_regulator) l46 c46 k46
  have F47 := fun_mk (st := s__law_row) l47 c47 k47
  have F48 := fun_mk (st := s_law) l48 c48 k48
  refine ⟨PySem.W.fnOf "law" "law" (defArgs s_law) (defBody s_law) (defScope s_law) .none kV48 dc48 pm48 an48 cd48 ct48, fun s v => .of_eq rfl, fun base _ _ => ?_⟩
  have G1 := fd__law_start (P := l.prog) (w := w) (base := base) F1 M.m_list
  have G2 := fd__law_draw (P := l.prog) (w := w) (base := base) F2 (PySem.W.mg_of X G a2) M.m_len
  have G3 := fd__law_room (P := l.prog) (base := base) M F3 (PySem.W.mg_of X G a3) G2
  have G4 := fd_is_int (P := l.prog) (base := base) M F4 (PySem.W.mg_of X G a4)
  have G5 := fd_is_room (P := l.prog) (base := base) M F5 (PySem.W.mg_of X G a5) G4
  have G6 := fd_check_room (P := l.prog) (base := base) M F6 (PySem.W.mg_of X G a6) G5
  have G7 := fd_is_for (P := l.prog) (base := base) M F7 (PySem.W.mg_of X G a7) G4
  have G8 := fd_check_regulator (P := l.prog) (base := base) M F8 (PySem.W.mg_of X G a8) G6 G7
  have G9 := fd_is_weather (P := l.prog) (base := base) M F9 (PySem.W.mg_of X G a9) G4
  have G10 := fd_is_row (P := l.prog) (base := base) M F10 (PySem.W.mg_of X G a10) G9
  have G11 := fd_check_row (P := l.prog) (base := base) M F11 (PySem.W.mg_of X G a11) G10
  have G12 := fd_first_state (P := l.prog) (base := base) M F12 (PySem.W.mg_of X G a12)
  have G13 := fd_warmed (P := l.prog) (base := base) M F13 (PySem.W.mg_of X G a13)
  have G14 := fd_decided (P := l.prog) (base := base) M F14 (PySem.W.mg_of X G a14)
  have G15 := fd_set_switch (P := l.prog) (base := base) M F15 (PySem.W.mg_of X G a15) G14
  have G16 := fd_step (P := l.prog) (base := base) M F16 (PySem.W.mg_of X G a16) G13 G15
  have G17 := fd_states_of (P := l.prog) (base := base) M F17 (PySem.W.mg_of X G a17) G12 G16
  have G18 := fd_states_along (P := l.prog) (base := base) M F18 (PySem.W.mg_of X G a18) G8 G11 G17
  have G19 := fd_run (P := l.prog) (base := base) M F19 (PySem.W.mg_of X G a19) G18
  have G20 := fd_check_two (P := l.prog) (base := base) M F20 (PySem.W.mg_of X G a20) G8
  have G21 := fd_parting_of (P := l.prog) (base := base) M F21 (PySem.W.mg_of X G a21) G12 G16
  have G22 := fd_same (P := l.prog) (base := base) M F22 (PySem.W.mg_of X G a22) G20 G21
  have G23 := fd_heights_of (P := l.prog) (base := base) M F23 (PySem.W.mg_of X G a23)
  have G24 := fd_is_less (P := l.prog) (base := base) M F24 (PySem.W.mg_of X G a24)
  have G25 := fd_lowest (P := l.prog) (base := base) M F25 (PySem.W.mg_of X G a25)
  have G26 := fd_greatest_of (P := l.prog) (base := base) M F26 (PySem.W.mg_of X G a26) G23 G24 G25
  have G27 := fd_rows_of (P := l.prog) (base := base) M F27 (PySem.W.mg_of X G a27) G12 G16
  have G28 := fd_roads_of (P := l.prog) (base := base) M F28 (PySem.W.mg_of X G a28) G27 G16
  have G29 := fd_greatest_share (P := l.prog) (base := base) M F29 (PySem.W.mg_of X G a29) G8 G26 G28 G12
  have G30 := fd_click_share (P := l.prog) (base := base) M F30 (PySem.W.mg_of X G a30) G8 G26 G28 G12
  have G31 := fd_check_family (P := l.prog) (base := base) M F31 (PySem.W.mg_of X G a31) G6 G7
  have G32 := fd_sorts_of (P := l.prog) (base := base) M F32 (PySem.W.mg_of X G a32) G27 G16
  have G33 := fd_groups_by (P := l.prog) (base := base) M F33 (PySem.W.mg_of X G a33)
  have G34 := fd_classes (P := l.prog) (base := base) M F34 (PySem.W.mg_of X G a34) G31 G32 G33 G12
  have G35 := fd_check_number (P := l.prog) (base := base) M F35 (PySem.W.mg_of X G a35) G4
  have G36 := fd_check_sight (P := l.prog) (base := base) M F36 (PySem.W.mg_of X G a36) G35
  have G37 := fd_Eye___init__ (P := l.prog) (w := w) (base := base) M F37 ⟨ey_mk, a37, i37, ey_kc⟩ (PySem.W.mg_of X G ey_a)
  have G38 := fd_mark_of (P := l.prog) (base := base) M F38 (PySem.W.mg_of X G a38)
  have G39 := fd_Eye_following (P := l.prog) (base := base) M F39 ⟨a39, i39, k39⟩ G16 G38
  have G40 := fd_Eye_after (P := l.prog) (base := base) M F40 ⟨a40, i40, k40⟩ G39
  have G41 := fd_Eye_begun (P := l.prog) (base := base) M F41 ⟨a41, i41, k41⟩ G12
  have G42 := fd_marks_apart (P := l.prog) (base := base) M F42 (PySem.W.mg_of X G a42) G37 G40 G41
  have G43 := fd_spoken_classes (P := l.prog) (base := base) M F43 (PySem.W.mg_of X G a43) G31 G36 G42
  have G44 := fd__law_narrow (P := l.prog) (base := base) M F44 (PySem.W.mg_of X G a44) G19 G22 G29 G30 G34 G43
  have G45 := fd__law_pick (P := l.prog) (base := base) M F45 (PySem.W.mg_of X G a45) G2
  have G46 := fd__law_regulator (P := l.prog) (base := base) M F46 (PySem.W.mg_of X G a46) G2 G45
  have G47 := fd__law_row (P := l.prog) (base := base) M F47 (PySem.W.mg_of X G a47) G2 G45
  have bS := F1.binds (ps := ["script"]) fun _ _ _ _ _ _ us hl => match us, hl with | [_], _ => rfl
  exact fd_law (P := l.prog) (base := base) M F48 G1 (PySem.W.mg_of X G a1) k1 bS G3 G18 G44 G46 G47 G19 (sem_law x)
end HL
open PySem PySem.W PyProof.Rows
set_option maxHeartbeats 0 in
theorem PySem.Challenge.cw_heatclicks_k22_whole_shifted_holds : PySem.Challenge.rw_heatclicks_k22_whole_shifted.Holds := by
  w_on; o_law; k_head; (case hw => w_witness2)
  k_fill
  refine L2.walk_of (l := PySem.Challenge.rw_heatclicks_k22_whole_shifted) (n := 63) (k := 9) (x := "script") (CX := fun w => L2.CX PySem.Challenge.rw_heatclicks_k22_whole_shifted.prog w) (sp := fun w => HC.spLaw _) rfl (by decide) rfl ⟨rfl, by decide, by decide⟩ (fun w h Y => PySem.W.kIn_of Y) ?F (fun _ _ a ns hl _ hS => ⟨a, ns, rfl, hS, hl, fun _ => rfl⟩) (fun _ _ _ _ _ h => HC.noCX h)
  case F =>
    intro w mg fa h KX G hmg
    refine' HL.all_mk KX G hmg ?ey_a ?ey_pg ?ey_hd ?ey_po ?ey_sa ?ey_mk ?ey_kc ?ey_n0 ?ey_n1 ?ey_n2 ?ey_n3 ?ey_n4 ?a1 ?l1 ?c1 ?k1 ?a2 ?l2 ?c2 ?k2 ?a3 ?l3 ?c3 ?k3 ?a4 ?l4 ?c4 ?k4 ?a5 ?l5 ?c5 ?k5 ?a6 ?l6 ?c6 ?k6 ?a7 ?l7 ?c7 ?k7 ?a8 ?l8 ?c8 ?k8 ?a9 ?l9 ?c9 ?k9 ?a10 ?l10 ?c10 ?k10 ?a11 ?l11 ?c11 ?k11 ?a12 ?l12 ?c12 ?k12 ?a13 ?l13 ?c13 ?k13 ?a14 ?l14 ?c14 ?k14 ?a15 ?l15 ?c15 ?k15 ?a16 ?l16 ?c16 ?k16 ?a17 ?l17 ?c17 ?k17 ?a18 ?l18 ?c18 ?k18 ?a19 ?l19 ?c19 ?k19 ?a20 ?l20 ?c20 ?k20 ?a21 ?l21 ?c21 ?k21 ?a22 ?l22 ?c22 ?k22 ?a23 ?l23 ?c23 ?k23 ?a24 ?l24 ?c24 ?k24 ?a25 ?l25 ?c25 ?k25 ?a26 ?l26 ?c26 ?k26 ?a27 ?l27 ?c27 ?k27 ?a28 ?l28 ?c28 ?k28 ?a29 ?l29 ?c29 ?k29 ?a30 ?l30 ?c30 ?k30 ?a31 ?l31 ?c31 ?k31 ?a32 ?l32 ?c32 ?k32 ?a33 ?l33 ?c33 ?k33 ?a34 ?l34 ?c34 ?k34 ?a35 ?l35 ?c35 ?k35 ?a36 ?l36 ?c36 ?k36 ?a37 ?i37 ?l37 ?c37 ?k37 ?a38 ?l38 ?c38 ?k38 ?a39 ?i39 ?l39 ?c39 ?k39 ?a40 ?i40 ?l40 ?c40 ?k40 ?a41 ?i41 ?l41 ?c41 ?k41 ?a42 ?l42 ?c42 ?k42 ?a43 ?l43 ?c43 ?k43 ?a44 ?l44 ?c44 ?k44 ?a45 ?l45 ?c45 ?k45 ?a46 ?l46 ?c46 ?k46 ?a47 ?l47 ?c47 ?k47 ?a48 ?l48 ?c48 ?k48 ?z_list ?z_len ?z_isinstance ?z_int ?z_bool ?z_tuple ?z_str ?z_all ?z_min ?z_max ?z_range ?z_abs ?z_enumerate ?z_dict ?z_sorted ?z_set ?xa_BadRoom ?xk_BadRoom ?xe_BadRoom ?xb_BadRoom ?xt_BadRoom ?xa_BadRegulator ?xk_BadRegulator ?xe_BadRegulator ?xb_BadRegulator ?xt_BadRegulator ?xa_BadWeather ?xk_BadWeather ?xe_BadWeather ?xb_BadWeather ?xt_BadWeather ?xa_BadNumber ?xk_BadNumber ?xe_BadNumber ?xb_BadNumber ?xt_BadNumber ?da_SIZES ?dl_SIZES ?dk_SIZES ?ds_SIZES ?dt_SIZES ?i_MOST_ROW ?ta_WEATHERS ?tl_WEATHERS ?tz_WEATHERS ?tv_WEATHERS
    (case ey_a => k_is)
    (case ey_pg => k_is)
    (case ey_hd => k_is)
    (case ey_po => k_is)
    (case ey_sa => k_is)
    (case ey_mk => k_is)
    (case ey_kc => k_is)
    (case ey_n0 => k_is)
    (case ey_n1 => k_is)
    (case ey_n2 => k_is)
    (case ey_n3 => k_is)
    (case ey_n4 => k_is)
    (case a1 => k_is)
    (case l1 => k_is)
    (case c1 => k_is)
    (case k1 => k_is)
    (case a2 => k_is)
    (case l2 => k_is)
    (case c2 => k_is)
    (case k2 => k_is)
    (case a3 => k_is)
    (case l3 => k_is)
    (case c3 => k_is)
    (case k3 => k_is)
    (case a4 => k_is)
    (case l4 => k_is)
    (case c4 => k_is)
    (case k4 => k_is)
    (case a5 => k_is)
    (case l5 => k_is)
    (case c5 => k_is)
    (case k5 => k_is)
    (case a6 => k_is)
    (case l6 => k_is)
    (case c6 => k_is)
    (case k6 => k_is)
    (case a7 => k_is)
    (case l7 => k_is)
    (case c7 => k_is)
    (case k7 => k_is)
    (case a8 => k_is)
    (case l8 => k_is)
    (case c8 => k_is)
    (case k8 => k_is)
    (case a9 => k_is)
    (case l9 => k_is)
    (case c9 => k_is)
    (case k9 => k_is)
    (case a10 => k_is)
    (case l10 => k_is)
    (case c10 => k_is)
    (case k10 => k_is)
    (case a11 => k_is)
    (case l11 => k_is)
    (case c11 => k_is)
    (case k11 => k_is)
    (case a12 => k_is)
    (case l12 => k_is)
    (case c12 => k_is)
    (case k12 => k_is)
    (case a13 => k_is)
    (case l13 => k_is)
    (case c13 => k_is)
    (case k13 => k_is)
    (case a14 => k_is)
    (case l14 => k_is)
    (case c14 => k_is)
    (case k14 => k_is)
    (case a15 => k_is)
    (case l15 => k_is)
    (case c15 => k_is)
    (case k15 => k_is)
    (case a16 => k_is)
    (case l16 => k_is)
    (case c16 => k_is)
    (case k16 => k_is)
    (case a17 => k_is)
    (case l17 => k_is)
    (case c17 => k_is)
    (case k17 => k_is)
    (case a18 => k_is)
    (case l18 => k_is)
    (case c18 => k_is)
    (case k18 => k_is)
    (case a19 => k_is)
    (case l19 => k_is)
    (case c19 => k_is)
    (case k19 => k_is)
    (case a20 => k_is)
    (case l20 => k_is)
    (case c20 => k_is)
    (case k20 => k_is)
    (case a21 => k_is)
    (case l21 => k_is)
    (case c21 => k_is)
    (case k21 => k_is)
    (case a22 => k_is)
    (case l22 => k_is)
    (case c22 => k_is)
    (case k22 => k_is)
    (case a23 => k_is)
    (case l23 => k_is)
    (case c23 => k_is)
    (case k23 => k_is)
    (case a24 => k_is)
    (case l24 => k_is)
    (case c24 => k_is)
    (case k24 => k_is)
    (case a25 => k_is)
    (case l25 => k_is)
    (case c25 => k_is)
    (case k25 => k_is)
    (case a26 => k_is)
    (case l26 => k_is)
    (case c26 => k_is)
    (case k26 => k_is)
    (case a27 => k_is)
    (case l27 => k_is)
    (case c27 => k_is)
    (case k27 => k_is)
    (case a28 => k_is)
    (case l28 => k_is)
    (case c28 => k_is)
    (case k28 => k_is)
    (case a29 => k_is)
    (case l29 => k_is)
    (case c29 => k_is)
    (case k29 => k_is)
    (case a30 => k_is)
    (case l30 => k_is)
    (case c30 => k_is)
    (case k30 => k_is)
    (case a31 => k_is)
    (case l31 => k_is)
    (case c31 => k_is)
    (case k31 => k_is)
    (case a32 => k_is)
    (case l32 => k_is)
    (case c32 => k_is)
    (case k32 => k_is)
    (case a33 => k_is)
    (case l33 => k_is)
    (case c33 => k_is)
    (case k33 => k_is)
    (case a34 => k_is)
    (case l34 => k_is)
    (case c34 => k_is)
    (case k34 => k_is)
    (case a35 => k_is)
    (case l35 => k_is)
    (case c35 => k_is)
    (case k35 => k_is)
    (case a36 => k_is)
    (case l36 => k_is)
    (case c36 => k_is)
    (case k36 => k_is)
    (case a37 => k_is)
    (case i37 => k_is)
    (case l37 => k_is)
    (case c37 => k_is)
    (case k37 => k_is)
    (case a38 => k_is)
    (case l38 => k_is)
    (case c38 => k_is)
    (case k38 => k_is)
    (case a39 => k_is)
    (case i39 => k_is)
    (case l39 => k_is)
    (case c39 => k_is)
    (case k39 => k_is)
    (case a40 => k_is)
    (case i40 => k_is)
    (case l40 => k_is)
    (case c40 => k_is)
    (case k40 => k_is)
    (case a41 => k_is)
    (case i41 => k_is)
    (case l41 => k_is)
    (case c41 => k_is)
    (case k41 => k_is)
    (case a42 => k_is)
    (case l42 => k_is)
    (case c42 => k_is)
    (case k42 => k_is)
    (case a43 => k_is)
    (case l43 => k_is)
    (case c43 => k_is)
    (case k43 => k_is)
    (case a44 => k_is)
    (case l44 => k_is)
    (case c44 => k_is)
    (case k44 => k_is)
    (case a45 => k_is)
    (case l45 => k_is)
    (case c45 => k_is)
    (case k45 => k_is)
    (case a46 => k_is)
    (case l46 => k_is)
    (case c46 => k_is)
    (case k46 => k_is)
    (case a47 => k_is)
    (case l47 => k_is)
    (case c47 => k_is)
    (case k47 => k_is)
    (case a48 => k_is)
    (case l48 => k_is)
    (case c48 => k_is)
    (case k48 => k_is)
    (case z_list => k_is)
    (case z_len => k_is)
    (case z_isinstance => k_is)
    (case z_int => k_is)
    (case z_bool => k_is)
    (case z_tuple => k_is)
    (case z_str => k_is)
    (case z_all => k_is)
    (case z_min => k_is)
    (case z_max => k_is)
    (case z_range => k_is)
    (case z_abs => k_is)
    (case z_enumerate => k_is)
    (case z_dict => k_is)
    (case z_sorted => k_is)
    (case z_set => k_is)
    (case xa_BadRoom => k_is)
    (case xk_BadRoom => k_is)
    (case xe_BadRoom => k_exc)
    (case xb_BadRoom => k_is)
    (case xt_BadRoom => k_is)
    (case xa_BadRegulator => k_is)
    (case xk_BadRegulator => k_is)
    (case xe_BadRegulator => k_exc)
    (case xb_BadRegulator => k_is)
    (case xt_BadRegulator => k_is)
    (case xa_BadWeather => k_is)
    (case xk_BadWeather => k_is)
    (case xe_BadWeather => k_exc)
    (case xb_BadWeather => k_is)
    (case xt_BadWeather => k_is)
    (case xa_BadNumber => k_is)
    (case xk_BadNumber => k_is)
    (case xe_BadNumber => k_exc)
    (case xb_BadNumber => k_is)
    (case xt_BadNumber => k_is)
    (case da_SIZES => k_is)
    (case dl_SIZES => k_is)
    (case dk_SIZES => exact He.keysLit_of (ks := HC.l_SIZES.map (·.1)) rfl)
    (case ds_SIZES => rfl)
    (case dt_SIZES => exact HC.ent_of rfl)
    (case i_MOST_ROW => k_is)
    (case ta_WEATHERS => k_is)
    (case tl_WEATHERS => k_is)
    (case tz_WEATHERS => decide)
    (case tv_WEATHERS => repeat (first | exact .nil | refine .cons ⟨_, rfl⟩ ?_))
